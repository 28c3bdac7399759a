import PyProof.Rows.All
import Wide.All
import OpenK.AllK
import Wide.FinOn
import HandS.ForMost
import HandS.ForExc
import HandS.Flow
import HandS.StrMore
import HandS.NoneIn
import HandS.TupAny
import HandS.IsInst
import HandS.Deep
import HandS.RaiseMore
import HandS.CallSlots
import HandS.TryOnly
import HandS.ExcIs
import HandS.ExcField
import HandS.WordsExc
import PyProof.ExcBaseAll.ValueError
import PyProof.ZipIter
import PyProof.Draws
import HandS.Star
import HandS.More
import PyProof.StrOps2
import PyProof.StrReplace2
import PyProof.ToksMono
import HandS.ReplaceLit
import HandS.ExcInit
import KE.KExcSuper
import HandS.Dict
import HandS.Small
import KE.GoesEnum
import HandS.Defaults
import HandS.Zip
import HandS.List
import PyProof.Rows.SortShellAny
import PyProof.SliceSyntax
import KE.RegKSuper
import PySem.Challenge.RW_letterheld_k32_splitting_and_joining
set_option Elab.async false
set_option linter.all false
set_option maxRecDepth 100000
set_option maxHeartbeats 4000000
/-! Pd: pure defs over data. A def's body is read as a function of its slots; what it makes stands in new objects. -/
namespace Pd
open PySem PySem.Spec L2
open PyProof.Rows hiding St

/-- data -/
inductive D where
  | non | bool (b : Bool) | int (i : Int) | str (x : Str) | lst (xs : List D) | tup (xs : List D) | scr (ns : List Int) | loc (n : Nat)

mutual
/-- the value v is the data d, as the heap Hs has it -/
inductive Rp (K : PySem.W.Frag) (μ : List Addr) (H : Hp) : V → D → Prop
  | non : Rp K μ H .non .non
  | bool (b : Bool) : Rp K μ H (.bl b) (.bool b)
  | int (i : Int) : Rp K μ H (.int i) (.int i)
  | str (x : Str) : Rp K μ H (.str x) (.str x)
  | lst {a : Addr} {xs : List V} {ds : List D} : H a = some (.lst xs) → RpA K μ H xs ds → Rp K μ H (.ref a) (.lst ds)
  | tup {a : Addr} {xs : List V} {ds : List D} : SqT K H a xs → RpA K μ H xs ds → Rp K μ H (.ref a) (.tup ds)
  | scr {a : Addr} {ns : List Int} : SqL K H a (ns.map V.int) → Rp K μ H (.ref a) (.scr ns)
  | loc {a : Addr} {n : Nat} : μ[n]? = some a → Rp K μ H (.ref a) (.loc n)
inductive RpA (K : PySem.W.Frag) (μ : List Addr) (H : Hp) : List V → List D → Prop
  | nil : RpA K μ H [] []
  | cons {v : V} {vs : List V} {d : D} {ds : List D} : Rp K μ H v d → RpA K μ H vs ds → RpA K μ H (v :: vs) (d :: ds)
end

theorem sqT_mono {K : PySem.W.Frag} {H H' : Hp} {a : Addr} {xs : List V} (e : Same H H') (h : SqT K H a xs) : SqT K H' a xs := by
  rcases h with (h | ⟨o, h⟩) | h
  · exact .inl (.inl (e _ _ h))
  · exact .inl (.inr ⟨o, e _ _ h⟩)
  · exact .inr h
section
variable {K : PySem.W.Frag} {μ : List Addr} {H H' : Hp}
mutual
theorem Rp.mono (e : Same H H') : ∀ (d : D) (v : V), Rp K μ H v d → Rp K μ H' v d
  | .non, _, h => by cases h; exact .non
  | .bool b, _, h => by cases h; exact .bool _
  | .int i, _, h => by cases h; exact .int _
  | .str x, _, h => by cases h; exact .str _
  | .lst ds, _, h => by
    cases h with
    | lst h1 h2 => exact .lst (e _ _ h1) (RpA.mono e _ _ h2)
  | .tup ds, _, h => by
    cases h with
    | tup h1 h2 => exact .tup (sqT_mono e h1) (RpA.mono e _ _ h2)
  | .scr ns, _, h => by
    cases h with
    | scr h1 => exact .scr (e.seq h1)
  | .loc n, _, h => by
    cases h with
    | loc h1 => exact .loc h1
theorem RpA.mono (e : Same H H') : ∀ (ds : List D) (vs : List V), RpA K μ H vs ds → RpA K μ H' vs ds
  | [], _, h => by cases h; exact .nil
  | d :: ds, _, h => by
    cases h with
    | cons h1 h2 => exact .cons (Rp.mono e _ _ h1) (RpA.mono e _ _ h2)
end
theorem RpA.len : ∀ {ds : List D} {vs : List V}, RpA K μ H vs ds → vs.length = ds.length
  | [], _, h => by cases h; rfl
  | d :: ds, _, h => by
    cases h with
    | cons h1 h2 => simp only [List.length_cons, RpA.len h2]
theorem RpA.get : ∀ {ds : List D} {vs : List V} {i : Nat} {v : V}, RpA K μ H vs ds → vs[i]? = some v → ∃ d, ds[i]? = some d ∧ Rp K μ H v d
  | _, _, _, _, .nil, e => by simp at e
  | _, _, 0, _, .cons h1 _, e => by simp at e; subst e; exact ⟨_, rfl, h1⟩
  | _, _, i + 1, v, .cons _ h2, e => by
    obtain ⟨d, h3, h4⟩ := RpA.get (i := i) (v := v) h2 (by simpa using e)
    exact ⟨d, by simpa using h3, h4⟩
theorem RpA.getD : ∀ {ds : List D} {vs : List V} {i : Nat} {d : D}, RpA K μ H vs ds → ds[i]? = some d → ∃ v, vs[i]? = some v ∧ Rp K μ H v d
  | _, _, _, _, .nil, e => by simp at e
  | _, _, 0, _, .cons h1 _, e => by simp at e; subst e; exact ⟨_, rfl, h1⟩
  | _, _, i + 1, v, .cons _ h2, e => by
    obtain ⟨d, h3, h4⟩ := RpA.getD (i := i) (d := v) h2 (by simpa using e)
    exact ⟨d, by simpa using h3, h4⟩
theorem RpA.app : ∀ {ds es : List D} {vs us : List V}, RpA K μ H vs ds → RpA K μ H us es → RpA K μ H (vs ++ us) (ds ++ es)
  | _, _, _, _, .nil, h => h
  | _, _, _, _, .cons h1 h2, h => .cons h1 (RpA.app h2 h)
theorem RpA.snoc {d : D} {ds : List D} {v : V} {vs : List V} (h : RpA K μ H vs ds) (h1 : Rp K μ H v d) : RpA K μ H (vs ++ [v]) (ds ++ [d]) := h.app (.cons h1 .nil)
theorem RpA.take : ∀ (n : Nat) {ds : List D} {vs : List V}, RpA K μ H vs ds → RpA K μ H (vs.take n) (ds.take n)
  | 0, _, _, _ => by simp; exact .nil
  | n + 1, _, _, .nil => by simp; exact .nil
  | n + 1, _, _, .cons h1 h2 => by simp only [List.take_succ_cons]; exact .cons h1 (RpA.take n h2)
theorem RpA.drop : ∀ (n : Nat) {ds : List D} {vs : List V}, RpA K μ H vs ds → RpA K μ H (vs.drop n) (ds.drop n)
  | 0, _, _, h => by simpa using h
  | n + 1, _, _, .nil => by simp; exact .nil
  | n + 1, _, _, .cons h1 h2 => by simp only [List.drop_succ_cons]; exact RpA.drop n h2
theorem RpA.ints : ∀ {ns : List Int}, RpA K μ H (ns.map V.int) (ns.map D.int)
  | [] => .nil
  | n :: ns => .cons (.int n) RpA.ints
theorem RpA.strs : ∀ {ns : List Str}, RpA K μ H (ns.map V.str) (ns.map D.str)
  | [] => .nil
  | n :: ns => .cons (.str n) RpA.strs
end

/-! ### equality of data -/
mutual
def D.py : D → PyData
  | .non => .none
  | .bool b => .bool b
  | .int i => .int i
  | .str x => .str x
  | .lst ds => .list (D.pyA ds)
  | .tup ds => .tuple (D.pyA ds)
  | .scr ns => .list (ns.map PyData.int)
  | .loc _ => .dict []
def D.pyA : List D → List PyData
  | [] => []
  | d :: ds => d.py :: D.pyA ds
end
section
variable {K : PySem.W.Frag} {μ : List Addr} {H : Hp}
theorem dpAll_ints : ∀ {ns : List Int}, DpAll K H (ns.map V.int) (ns.map PyData.int)
  | [] => .nil
  | n :: ns => .cons (.int n) dpAll_ints
mutual
theorem Rp.dp : ∀ (d : D) (v : V), Rp K μ H v d → d.py.canLay0 = true → Dp K H v d.py
  | .non, _, h, _ => by cases h; exact .non
  | .bool b, _, h, _ => by cases h; exact .bl _
  | .int i, _, h, _ => by cases h; exact .int _
  | .str x, _, h, _ => by cases h; exact .str _
  | .lst ds, _, h, c => by
    cases h with
    | lst h1 h2 => exact .lst (SqL.of h1) (RpA.dp _ _ h2 c)
  | .tup ds, _, h, c => by
    cases h with
    | tup h1 h2 => exact .tup h1 (RpA.dp _ _ h2 c)
  | .scr ns, _, h, _ => by
    cases h with
    | scr h1 => exact .lst h1 dpAll_ints
  | .loc _, _, _, c => nomatch c
theorem RpA.dp : ∀ (ds : List D) (vs : List V), RpA K μ H vs ds → PyData.canLayAll0 (D.pyA ds) = true → DpAll K H vs (D.pyA ds)
  | [], _, h, _ => by cases h; exact .nil
  | d :: ds, _, h, c => by
    have c' : (d.py.canLay0 && PyData.canLayAll0 (D.pyA ds)) = true := c
    rw [Bool.and_eq_true] at c'
    cases h with
    | cons h1 h2 => exact .cons (Rp.dp _ _ h1 c'.1) (RpA.dp _ _ h2 c'.2)
end
end

/-! ### a part of the heap that grows -/
structure Ext (Hs H Hs' H' : Hp) : Prop where
  all : Same H H'
  part : Same Hs Hs'
  sub : Same Hs' H'
  new : ∀ a o, Hs' a = some o → Hs a = some o ∨ H a = none
theorem Ext.refl {Hs H : Hp} (s : Same Hs H) : Ext Hs H Hs H := ⟨Same.refl _, Same.refl _, s, fun _ _ h => .inl h⟩
theorem Ext.trans {Hs H Hs1 H1 Hs2 H2 : Hp} (a : Ext Hs H Hs1 H1) (b : Ext Hs1 H1 Hs2 H2) : Ext Hs H Hs2 H2 :=
  ⟨a.all.trans b.all, a.part.trans b.part, b.sub, fun x o h => by
    rcases b.new x o h with h1 | h1
    · exact a.new x o h1
    · exact .inr (a.all.free h1)⟩
/-- a new object -/
theorem Ext.made {Hs H : Hp} (s : Same Hs H) {p : Addr} {o : HO} (hp : H p = none) : Ext Hs H (upd Hs p o) (upd H p o) := by
  have hs : Hs p = none := s.free hp
  refine ⟨fun b u h => ?_, fun b u h => ?_, fun b u h => ?_, fun b u h => ?_⟩
  · rw [upd_ne (ne_of_none h hp)]; exact h
  · rw [upd_ne (ne_of_none h hs)]; exact h
  · by_cases hb : b = p
    · subst hb; rw [upd_same] at h ⊢; exact h
    · rw [upd_ne hb] at h ⊢; exact s b u h
  · by_cases hb : b = p
    · subst hb; exact .inr hp
    · rw [upd_ne hb] at h; exact .inl h
/-- new objects beside the part -/
theorem Ext.side {Hs H H' : Hp} (s : Same Hs H) (e : Same H H') : Ext Hs H Hs H' := ⟨e, Same.refl _, s.trans e, fun _ _ h => .inl h⟩

/-! ### slots -/
inductive Sl where
  | val (d : D) | own (ds : List D) | raw (v : V) | junk
  | exc (a : Addr) (d : Option Addr) (fs : List (Str × D))
abbrev Rho := List Sl
def VOk (K : PySem.W.Frag) (μ : List Addr) (Hs : Hp) (ov : Option V) : Sl → Prop
  | .val d => ∃ v, ov = some v ∧ Rp K μ Hs v d
  | .raw v => ov = some v
  | .own _ => True
  | .junk => True
  | .exc a d fs => ov = some (.ref a) ∧ (fs = [] ∨ ∃ dd vs, d = some dd ∧ Hs dd = some (.xd vs) ∧ Paired (fun p q => p.1 = q.1 ∧ Rp K μ Hs p.2 q.2) vs fs)
def VEnv (K : PySem.W.Frag) (μ : List Addr) (Hs : Hp) (σ : St) (ρ : Rho) : Prop := Paired (VOk K μ Hs) σ ρ
theorem paired_imp {α β : Type} {F G : α → β → Prop} (i : ∀ a b, F a b → G a b) : ∀ {l : List α} {m : List β}, Paired F l m → Paired G l m
  | _, _, .nil => .nil
  | _, _, .cons h t => .cons (i _ _ h) (paired_imp i t)
theorem VOk.mono {K : PySem.W.Frag} {μ : List Addr} {H H' : Hp} (e : Same H H') {ov : Option V} : ∀ {x : Sl}, VOk K μ H ov x → VOk K μ H' ov x
  | .val d, ⟨v, h1, h2⟩ => ⟨v, h1, h2.mono e⟩
  | .raw v, h => h
  | .own _, _ => trivial
  | .junk, _ => trivial
  | .exc _ _ _, ⟨h1, h2⟩ => ⟨h1, h2.imp id fun ⟨dd, vs, q1, q2, q3⟩ => ⟨dd, vs, q1, e _ _ q2, paired_imp (fun _ _ z => ⟨z.1, z.2.mono e⟩) q3⟩⟩
theorem VEnv.mono {K : PySem.W.Frag} {μ : List Addr} {H H' : Hp} (e : Same H H') {σ : St} {ρ : Rho} (h : VEnv K μ H σ ρ) : VEnv K μ H' σ ρ := paired_imp (fun _ _ => VOk.mono e) h
theorem paired_get {α β : Type} {F : α → β → Prop} : ∀ {l : List α} {m : List β} {i : Nat} {b : β}, Paired F l m → m[i]? = some b → ∃ a, l[i]? = some a ∧ F a b
  | _, _, _, _, .nil, e => by simp at e
  | _, _, 0, _, .cons h _, e => by simp at e; subst e; exact ⟨_, rfl, h⟩
  | _, _, i + 1, b, .cons _ t, e => by
    obtain ⟨a, h1, h2⟩ := paired_get (i := i) (b := b) t (by simpa using e)
    exact ⟨a, by simpa using h1, h2⟩
theorem paired_set {α β : Type} {F : α → β → Prop} {a : α} {b : β} (h : F a b) : ∀ {l : List α} {m : List β} (i : Nat), Paired F l m → Paired F (l.set i a) (m.set i b)
  | _, _, _, .nil => .nil
  | _, _, 0, .cons _ t => .cons h t
  | _, _, i + 1, .cons h1 t => .cons h1 (paired_set h i t)

/-! ### the judgements -/
abbrev F := Rho → Option D
abbrev Fs := Rho → Option (List D)
abbrev Ft := Rho → Option Bool
def tD (K : PySem.W.Frag) (f : F) : TE := fun σ H Q => ∃ (μ : List Addr) (Hs : Hp) (ρ : Rho) (d : D), Same Hs H ∧ VEnv K μ Hs σ ρ ∧ f ρ = some d ∧ ∀ v H' Hs', Ext Hs H Hs' H' → Rp K μ Hs' v d → Q v H'
def tDs (K : PySem.W.Frag) (f : Fs) : TA := fun σ H Q => ∃ (μ : List Addr) (Hs : Hp) (ρ : Rho) (ds : List D), Same Hs H ∧ VEnv K μ Hs σ ρ ∧ f ρ = some ds ∧ ∀ vs H' Hs', Ext Hs H Hs' H' → RpA K μ Hs' vs ds → Q vs H'
def tDT (K : PySem.W.Frag) (f : Ft) : TT := fun σ H Q => ∃ (μ : List Addr) (Hs : Hp) (ρ : Rho) (b : Bool), Same Hs H ∧ VEnv K μ Hs σ ρ ∧ f ρ = some b ∧ ∀ H', Same H H' → Q b H'

theorem pe_imp {X : Cx} {e : Expr} {t t' : TE} (h : PE X e t) (i : ∀ σ H Q, t' σ H Q → t σ H Q) : PE X e t' := ⟨fun pins s σ H Q I q => h.run pins s σ H Q I (i _ _ _ q)⟩
theorem pt_imp {X : Cx} {e : Expr} {t t' : TT} (h : PT X e t) (i : ∀ σ H Q, t' σ H Q → t σ H Q) : PT X e t' := ⟨fun pins s σ H Q I q => h.run pins s σ H Q I (i _ _ _ q)⟩
theorem pw_imp {X : Cx} {e : Expr} {t t' : TT} (h : PW X e t) (i : ∀ σ H Q, t' σ H Q → t σ H Q) : PW X e t' := ⟨fun wh pins s σ H Q I q => h.run wh pins s σ H Q I (i _ _ _ q)⟩
theorem pa_imp {X : Cx} {es : List Expr} {t t' : TA} (h : PA X es t) (i : ∀ σ H Q, t' σ H Q → t σ H Q) : PA X es t' := ⟨fun p pins s σ H Q I q => h.run p pins s σ H Q I (i _ _ _ q)⟩
theorem ps_imp {X : Cx} {st : Stmt} {t t' : TS} (h : PS X st t) (i : ∀ Dn σ H, t' Dn σ H → t Dn σ H) : PS X st t' := ⟨fun pins s σ H Dn I q => h.run pins s σ H Dn I (i _ _ _ q)⟩
theorem pss_imp {X : Cx} {st : List Stmt} {t t' : TS} (h : PSs X st t) (i : ∀ Dn σ H, t' Dn σ H → t Dn σ H) : PSs X st t' := ⟨fun pins s σ H Dn I q => h.run pins s σ H Dn I (i _ _ _ q)⟩

/-- b = F a: binds -/
def b1 {α β : Type} (a : Option α) (G : α → Option β) : Option β := match a with
  | some x => G x
  | none => none
theorem b1_some {α β : Type} {a : α} {G : α → Option β} : b1 (some a) G = G a := rfl
theorem b1_none {α β : Type} {G : α → Option β} : b1 (none : Option α) G = none := rfl
theorem b1_eq {α β : Type} {a : Option α} {G : α → Option β} {y : β} (h : b1 a G = some y) : ∃ x, a = some x ∧ G x = some y := by
  cases a with
  | none => cases h
  | some x => exact ⟨x, rfl, h⟩

def fVar (i : Nat) : F := fun ρ => match ρ[i]? with
  | some (.val d) => some d
  | _ => none
def fC (d : D) : F := fun _ => some d
def f1 (G : D → Option D) (f : F) : F := fun ρ => b1 (f ρ) G
def f2 (G : D → D → Option D) (f g : F) : F := fun ρ => b1 (f ρ) fun d => b1 (g ρ) fun e => G d e
def fNil : Fs := fun _ => some []
def fCons (f : F) (g : Fs) : Fs := fun ρ => b1 (f ρ) fun d => b1 (g ρ) fun ds => some (d :: ds)
def fL (G : List D → Option D) (f : Fs) : F := fun ρ => b1 (f ρ) G

section
variable {X : Cx} {e a b c : Expr} {es : List Expr} {f g h : F} {fs : Fs} {pos : Pos}
theorem pd_var (i : Nat) {x : Str} (hN : X.N[i]? = some x := by rfl) (hv : Vis X.env.scope x := by first | exact Or.inl rfl | exact Or.inr (Or.inl rfl) | exact Or.inr (Or.inr rfl)) (hd : (x == ("__debug__" : Str)) = false := by decide)
    (hcd : (x == ("__classdict__" : Str)) = false := by decide) : PE X (.Name x pos) (tD X.K (fVar i)) := by
  refine pe_imp (pe_var hN hv hd hcd) fun σ H Q ⟨μ, Hs, ρ, d, s, env, e, k⟩ => ?_
  unfold fVar at e
  cases q : ρ[i]? with
  | none => rw [q] at e; cases e
  | some x =>
    rw [q] at e
    cases x with
    | val d' =>
      cases e
      obtain ⟨ov, h1, v, h2, h3⟩ := paired_get env q
      subst h2
      exact ⟨v, h1, k v H Hs (Ext.refl s) h3⟩
    | own _ => cases e
    | raw _ => cases e
    | junk => cases e
    | exc _ _ _ => cases e
theorem pd_const {v : V} {d : D} (h : PE X e (tC v)) (hr : ∀ μ H, Rp X.K μ H v d) : PE X e (tD X.K (fC d)) :=
  pe_imp h fun σ H Q ⟨μ, Hs, ρ, d', s, env, e, k⟩ => by cases e; exact k v H Hs (Ext.refl s) (hr _ _)
theorem pd_int {i : Int} {j} : PE X (.Constant (.int i) j pos) (tD X.K (fC (.int i))) := pd_const pe_int fun _ _ => .int _
theorem pd_bool {i : Bool} {j} : PE X (.Constant (.bool i) j pos) (tD X.K (fC (.bool i))) := pd_const pe_bl fun _ _ => .bool _
theorem pd_str {i : Str} {j} : PE X (.Constant (.str i) j pos) (tD X.K (fC (.str i))) := pd_const pe_str fun _ _ => .str _
theorem pd_non {j} : PE X (.Constant .none j pos) (tD X.K (fC .non)) := pd_const pe_non fun _ _ => .non
/-- a module's constant: a number, a text -/
theorem pd_glob {x : Str} {v : V} {d : D} {u : Value} (hm : X.mg x = some u) (r : RelV v u) (hr : ∀ μ H, Rp X.K μ H v d) (hg : Gl X x := by rfl) (hd : (x == ("__debug__" : Str)) = false := by decide) : PE X (.Name x pos) (tD X.K (fC d)) :=
  pd_const (pe_glob hg hm r hd) hr

/-- a rule for one value -/
def Imp1 (K : PySem.W.Frag) (r : V → Hp → VK → Prop) (G : D → Option D) : Prop := ∀ μ H Hs x d o Q, Same Hs H → Rp K μ Hs x d → G d = some o → (∀ v H' Hs', Ext Hs H Hs' H' → Rp K μ Hs' v o → Q v H') → r x H Q
def Imp2 (K : PySem.W.Frag) (r : R2) (G : D → D → Option D) : Prop := ∀ μ H Hs x y d e o Q, Same Hs H → Rp K μ Hs x d → Rp K μ Hs y e → G d e = some o → (∀ v H' Hs', Ext Hs H Hs' H' → Rp K μ Hs' v o → Q v H') → r x y H Q
def ImpL (K : PySem.W.Frag) (r : List V → Hp → VK → Prop) (G : List D → Option D) : Prop := ∀ μ H Hs xs ds o Q, Same Hs H → RpA K μ Hs xs ds → G ds = some o → (∀ v H' Hs', Ext Hs H Hs' H' → Rp K μ Hs' v o → Q v H') → r xs H Q
theorem tD_1 {K : PySem.W.Frag} {r : V → Hp → VK → Prop} {G : D → Option D} (hG : Imp1 K r G) : ∀ σ H Q, tD K (f1 G f) σ H Q → tUn r (tD K f) σ H Q := by
  rintro σ H Q ⟨μ, Hs, ρ, d, s, env, e, k⟩
  obtain ⟨d1, e1, e2⟩ := b1_eq e
  exact ⟨μ, Hs, ρ, d1, s, env, e1, fun v H1 Hs1 x1 r1 => hG _ H1 Hs1 v d1 d Q x1.sub r1 e2 fun v' H' Hs' x2 r2 => k v' H' Hs' (x1.trans x2) r2⟩
theorem tD_2 {K : PySem.W.Frag} {r : R2} {G : D → D → Option D} (hG : Imp2 K r G) : ∀ σ H Q, tD K (f2 G f g) σ H Q → tOp r (tD K f) (tD K g) σ H Q := by
  rintro σ H Q ⟨μ, Hs, ρ, d, s, env, e, k⟩
  obtain ⟨d1, e1, e2⟩ := b1_eq e
  obtain ⟨d2, e3, e4⟩ := b1_eq e2
  refine ⟨μ, Hs, ρ, d1, s, env, e1, fun v H1 Hs1 x1 r1 => ⟨μ, Hs1, ρ, d2, x1.sub, env.mono x1.part, e3, fun u H2 Hs2 x2 r2 => ?_⟩⟩
  exact hG _ H2 Hs2 v u d1 d2 d Q x2.sub (r1.mono x2.part) r2 e4 fun v' H' Hs' x3 r3 => k v' H' Hs' (x1.trans (x2.trans x3)) r3
theorem pda_nil : PA X [] (tDs X.K fNil) := pa_imp pa_nil fun σ H Q ⟨μ, Hs, ρ, d, s, env, e, k⟩ => by cases e; exact k [] H Hs (Ext.refl s) .nil
theorem pda_cons (he : PE X e (tD X.K f)) (ht : PA X es (tDs X.K fs)) (hs : starEach (e :: es) X.env = (false, eval e X.env) :: starEach es X.env := by rfl) : PA X (e :: es) (tDs X.K (fCons f fs)) := by
  refine pa_imp (pa_cons he ht hs) fun σ H Q ⟨μ, Hs, ρ, d, s, env, e, k⟩ => ?_
  obtain ⟨d1, e1, e2⟩ := b1_eq e
  obtain ⟨d2, e3, e4⟩ := b1_eq e2
  cases e4
  refine ⟨μ, Hs, ρ, d1, s, env, e1, fun v H1 Hs1 x1 r1 => ⟨μ, Hs1, ρ, d2, x1.sub, env.mono x1.part, e3, fun u H2 Hs2 x2 r2 => ?_⟩⟩
  exact k _ H2 Hs2 (x1.trans x2) (.cons (r1.mono x2.part) r2)
theorem tD_L {K : PySem.W.Frag} {r : List V → Hp → VK → Prop} {G : List D → Option D} (hG : ImpL K r G) : ∀ σ H Q, tD K (fL G fs) σ H Q → tCB r (tDs K fs) σ H Q := by
  rintro σ H Q ⟨μ, Hs, ρ, d, s, env, e, k⟩
  obtain ⟨d1, e1, e2⟩ := b1_eq e
  exact ⟨μ, Hs, ρ, d1, s, env, e1, fun v H1 Hs1 x1 r1 => hG _ H1 Hs1 v d1 d Q x1.sub r1 e2 fun v' H' Hs' x2 r2 => k v' H' Hs' (x1.trans x2) r2⟩

theorem pd_op {op : Operator} {r : R2} {G : D → D → Option D} (ho : OpR X (binaryOp op) r) (hG : Imp2 X.K r G) (ha : PE X a (tD X.K f)) (hb : PE X b (tD X.K g)) : PE X (.BinOp a op b pos) (tD X.K (f2 G f g)) := pe_imp (pe_op ho ha hb) (tD_2 hG)
theorem pd_cmp {op : CmpOp} {r : R2} {G : D → D → Option D} (ho : OpR X (compareOp op) r) (hG : Imp2 X.K r G) (ha : PE X a (tD X.K f)) (hb : PE X b (tD X.K g)) (hm : behindInMarks op b = false := by first | exact nomark _ | rfl) :
    PE X (.Compare a [op] [b] pos) (tD X.K (f2 G f g)) := pe_imp (pe_cmpR ho ha hb hm) (tD_2 hG)
theorem pd_un {op : UnaryOp} {r : V → Hp → VK → Prop} {G : D → Option D} (ho : UnR X (unaryOp op) r) (hG : Imp1 X.K r G) (ha : PE X a (tD X.K f)) : PE X (.UnaryOp op a pos) (tD X.K (f1 G f)) := pe_imp (pe_un ho ha) (tD_1 hG)
theorem pd_ix {r : R2} {G : D → D → Option D} (hr : IxR X r) (hG : Imp2 X.K r G) (ha : PE X a (tD X.K f)) (hb : PE X b (tD X.K g)) (hs : PlainIx b := by exact fun _ _ => rfl) : PE X (.Subscript a b pos) (tD X.K (f2 G f g)) := pe_imp (pe_ix hr ha hb hs) (tD_2 hG)
theorem pd_callB {id : String} {r : List V → Hp → VK → Prop} {G : List D → Option D} {x : Str} {p : Pos} (hc : CallR X (.builtin id) r) (hG : ImpL X.K r G) (hm : X.mg x = none) (ha : PA X (e :: es) (tDs X.K fs)) (hg : Gl X x := by rfl) (hv : bootBuiltins x = some (.builtin id) := by decide +kernel)
    (hn : x ≠ "__name__" := by decide) (hdb : (x == ("__debug__" : Str)) = false := by decide) (he : starEach (e :: es) X.env = (false, eval e X.env) :: starEach es X.env := by rfl) (hpl : (backTo pos (starEach es X.env)).any (·.1) = false := by rfl) :
    PE X (.Call (.Name x p) (e :: es) [] pos) (tD X.K (fL G fs)) := pe_imp (pe_callB hc hg hm hv ha hn hdb he hpl) (tD_L hG)
theorem pd_callTy {T : String} {r : List V → Hp → VK → Prop} {G : List D → Option D} {x : Str} {p : Pos} (hc : CallR X (.type T) r) (hG : ImpL X.K r G) (hm : X.mg x = none) (ha : PA X (e :: es) (tDs X.K fs)) (hg : Gl X x := by rfl) (hv : bootBuiltins x = some (.type T) := by decide +kernel)
    (hn : x ≠ "__name__" := by decide) (hdb : (x == ("__debug__" : Str)) = false := by decide) (he : starEach (e :: es) X.env = (false, eval e X.env) :: starEach es X.env := by rfl) (hpl : (backTo pos (starEach es X.env)).any (·.1) = false := by rfl) :
    PE X (.Call (.Name x p) (e :: es) [] pos) (tD X.K (fL G fs)) := pe_imp (pe_callTy hc hg hm hv ha hn hdb he hpl) (tD_L hG)
end
end Pd

/-! Pd1: the operations on data. -/
namespace Pd
open PySem PySem.Spec L2
open PyProof.Rows hiding St

theorem OpR.or {X : Cx} {f : Value → Value → Sem Value} {r r' : R2} (h : OpR X f r) (h' : OpR X f r') : OpR X f (fun x y H Q => r x y H Q ∨ r' x y H Q) := by
  intro pins s σ H x y v u Q I rx ry q
  rcases q with q | q
  · exact h pins s σ H x y v u Q I rx ry q
  · exact h' pins s σ H x y v u Q I rx ry q
def rOr (r r' : R2) : R2 := fun x y H Q => r x y H Q ∨ r' x y H Q
/-! ### arithmetic -/
def gI (G : Int → Int → Option D) : D → D → Option D
  | .int i, .int j => G i j
  | _, _ => none
theorem imp_I0 {K : PySem.W.Frag} {g : Int → Int → V} {G : Int → Int → D} (hG : ∀ μ i j H, Rp K μ H (g i j) (G i j)) : Imp2 K (rI0 g) (gI fun i j => some (G i j)) := by
  intro μ H Hs x y d e o Q s rx ry gg k
  cases rx <;> cases ry <;> try (cases gg)
  exact ⟨_, _, rfl, rfl, k _ H Hs (Ext.refl s) (hG _ _ _ _)⟩
theorem imp_I {K : PySem.W.Frag} {C : Int → Int → Prop} [DecidableRel C] {g : Int → Int → V} {G : Int → Int → D} (hG : ∀ μ i j H, Rp K μ H (g i j) (G i j)) : Imp2 K (rI C g) (gI fun i j => if C i j then some (G i j) else none) := by
  intro μ H Hs x y d e o Q s rx ry gg k
  cases rx <;> cases ry <;> try (cases gg)
  rename_i i j
  by_cases hc : C i j
  · have gg' : (if C i j then some (G i j) else none) = some o := gg
    rw [if_pos hc] at gg'
    cases gg'
    exact ⟨_, _, rfl, rfl, hc, k _ H Hs (Ext.refl s) (hG _ _ _ _)⟩
  · have gg' : (if C i j then some (G i j) else none) = some o := gg
    rw [if_neg hc] at gg'
    cases gg'
instance : DecidableRel CMul := fun i j => by unfold CMul; infer_instance
instance : DecidableRel CDiv := fun i j => by unfold CDiv; infer_instance
instance : DecidableRel (fun (_ j : Int) => 0 < j) := fun i j => by infer_instance
def gSub : D → D → Option D := gI fun i j => some (.int (i - j))
def gMul : D → D → Option D := gI fun i j => if CMul i j then some (.int (i * j)) else none
def gDiv : D → D → Option D := gI fun i j => if CDiv i j then some (.int (i / j)) else none
def gMod : D → D → Option D := gI fun i j => if 0 < j then some (.int (i % j)) else none
theorem imp_sub {K : PySem.W.Frag} : Imp2 K (rI0 fun i j => .int (i - j)) gSub := imp_I0 fun _ _ _ _ => .int _
theorem imp_mul {K : PySem.W.Frag} : Imp2 K (rI CMul fun i j => .int (i * j)) gMul := imp_I fun _ _ _ _ => .int _
theorem imp_div {K : PySem.W.Frag} : Imp2 K (rI CDiv fun i j => .int (i / j)) gDiv := imp_I fun _ _ _ _ => .int _
theorem imp_mod {K : PySem.W.Frag} : Imp2 K (rI (fun _ j => 0 < j) fun i j => .int (i % j)) gMod := imp_I fun _ _ _ _ => .int _

/-- a + b: numbers, texts, lists, tuples -/
def gAdd : D → D → Option D
  | .int i, .int j => some (.int (i + j))
  | .str a, .str b => if a.length + b.length ≤ sizeLine then some (.str (a ++ b)) else none
  | .lst xs, .lst ys => if xs.length + ys.length ≤ sizeLine then some (.lst (xs ++ ys)) else none
  | .tup xs, .tup ys => if xs.length + ys.length ≤ sizeLine then some (.tup (xs ++ ys)) else none
  | _, _ => none
def rAddA (K : PySem.W.Frag) : R2 := fun x y H Q => (rI0 fun i j => .int (i + j)) x y H Q ∨ (∃ i j, x = .str i ∧ y = .str j ∧ i.length + j.length ≤ sizeLine ∧ Q (.str (i ++ j)) H) ∨ rCat x y H Q ∨ rCatA K x y H Q
theorem op_addA {X : Cx} : OpR X (binaryOp .Add) (rAddA X.K) := OpR.or op_add (OpR.or op_add_str (OpR.or op_cat op_catA))
theorem ite_some {α : Type} {c : Prop} [Decidable c] {a b : α} (h : (if c then some a else none) = some b) : c ∧ a = b := by
  by_cases hc : c
  · rw [if_pos hc] at h
    cases h
    exact ⟨hc, rfl⟩
  · rw [if_neg hc] at h
    cases h
theorem imp_add {K : PySem.W.Frag} : Imp2 K (rAddA K) gAdd := by
  intro μ H Hs x y d e o Q s rx ry g k
  cases rx with
  | int i =>
    cases ry <;> try (cases g)
    exact .inl ⟨_, _, rfl, rfl, k _ H Hs (Ext.refl s) (.int _)⟩
  | str a =>
    cases ry <;> try (cases g)
    obtain ⟨hc, rfl⟩ := ite_some g
    exact .inr (.inl ⟨_, _, rfl, rfl, hc, k _ H Hs (Ext.refl s) (.str _)⟩)
  | lst h1 r1 =>
    cases ry <;> try (cases g)
    rename_i h2 r2
    obtain ⟨hc, rfl⟩ := ite_some g
    refine .inr (.inr (.inl ⟨_, _, _, _, rfl, rfl, s _ _ h1, s _ _ h2, by rw [r1.len, r2.len]; exact hc, fun p hp => ?_⟩))
    exact k _ _ _ (Ext.made s hp) (.lst upd_same ((r1.app r2).mono (Ext.made s hp).part))
  | tup h1 r1 =>
    cases ry <;> try (cases g)
    rename_i h2 r2
    obtain ⟨hc, rfl⟩ := ite_some g
    refine .inr (.inr (.inr ⟨_, _, _, _, rfl, rfl, sqT_mono s h1, sqT_mono s h2, by rw [r1.len, r2.len]; exact hc, fun e1 => ?_, fun e1 e2 => ?_, fun e1 e2 p hp => ?_⟩))
    · subst e1
      cases r1
      exact k _ H Hs (Ext.refl s) (.tup h2 r2)
    · subst e2
      cases r2
      exact k _ H Hs (Ext.refl s) (.tup h1 (by simpa using r1))
    · exact k _ _ _ (Ext.made s hp) (.tup (SqT.of upd_same) ((r1.app r2).mono (Ext.made s hp).part))
  | non => cases g
  | bool b => cases g
  | scr h1 => cases g
  | loc h1 => cases g

/-! ### comparisons -/
def D.sc2 : D → D → Bool
  | .non, .non => true | .non, .int _ => true | .int _, .non => true | .non, .bool _ => true | .bool _, .non => true | .non, .str _ => true | .str _, .non => true
  | .int _, .int _ => true | .bool _, .bool _ => true | .str _, .str _ => true
  | .int _, .str _ => true | .str _, .int _ => true | .bool _, .str _ => true | .str _, .bool _ => true
  | _, _ => false
def D.eqs : D → D → Bool
  | .non, .non => true
  | .int i, .int j => decide (i = j)
  | .bool i, .bool j => decide (i = j)
  | .str i, .str j => decide (i = j)
  | _, _ => false
def gEq (d e : D) : Option D := if d.sc2 e then some (.bool (d.eqs e)) else if SeqAt.shaped d.py && SeqAt.shaped e.py then some (.bool (PyData.eqv d.py e.py)) else none
def gNe (d e : D) : Option D := if d.sc2 e then some (.bool (!d.eqs e)) else if SeqAt.shaped d.py && SeqAt.shaped e.py then some (.bool (!PyData.eqv d.py e.py)) else none
theorem eqs_v {K : PySem.W.Frag} {μ : List Addr} {H : Hp} {x y : V} {d e : D} (rx : Rp K μ H x d) (ry : Rp K μ H y e) (h : d.sc2 e = true) : scal x y = true ∧ decide (x = y) = d.eqs e := by
  cases rx <;> cases ry <;> first | exact ⟨rfl, by simp [D.eqs]⟩ | (exact absurd h (by decide)) | (exact absurd h Bool.false_ne_true)
theorem imp_eq {K : PySem.W.Frag} : Imp2 K (fun x y H Q => rEq x y H Q ∨ rEqD K x y H Q) gEq := by
  intro μ H Hs x y d e o Q s rx ry g k
  unfold gEq at g
  by_cases h1 : d.sc2 e = true
  · rw [if_pos h1] at g
    cases g
    obtain ⟨a, b⟩ := eqs_v rx ry h1
    exact .inl ⟨a, by rw [b]; exact k _ H Hs (Ext.refl s) (.bool _)⟩
  · rw [if_neg h1] at g
    by_cases h2 : (SeqAt.shaped d.py && SeqAt.shaped e.py) = true
    · rw [if_pos h2] at g
      cases g
      rw [Bool.and_eq_true] at h2
      exact .inr ⟨_, _, Rp.dp _ _ (rx.mono s) (SeqAt.canLay_of_shaped h2.1), Rp.dp _ _ (ry.mono s) (SeqAt.canLay_of_shaped h2.2), h2.1, h2.2, k _ H Hs (Ext.refl s) (.bool _)⟩
    · rw [if_neg h2] at g
      cases g
theorem imp_ne {K : PySem.W.Frag} : Imp2 K (fun x y H Q => rNe x y H Q ∨ rNeD K x y H Q) gNe := by
  intro μ H Hs x y d e o Q s rx ry g k
  unfold gNe at g
  by_cases h1 : d.sc2 e = true
  · rw [if_pos h1] at g
    cases g
    obtain ⟨a, b⟩ := eqs_v rx ry h1
    exact .inl ⟨a, by rw [b]; exact k _ H Hs (Ext.refl s) (.bool _)⟩
  · rw [if_neg h1] at g
    by_cases h2 : (SeqAt.shaped d.py && SeqAt.shaped e.py) = true
    · rw [if_pos h2] at g
      cases g
      rw [Bool.and_eq_true] at h2
      exact .inr ⟨_, _, Rp.dp _ _ (rx.mono s) (SeqAt.canLay_of_shaped h2.1), Rp.dp _ _ (ry.mono s) (SeqAt.canLay_of_shaped h2.2), h2.1, h2.2, k _ H Hs (Ext.refl s) (.bool _)⟩
    · rw [if_neg h2] at g
      cases g
theorem op_eqA {X : Cx} (hu : X.A.units + 64 < cLine) : OpR X (compareOp .Eq) (fun x y H Q => rEq x y H Q ∨ rEqD X.K x y H Q) := OpR.or op_eq (op_eqD hu)
theorem op_neA {X : Cx} (hu : X.A.units + 64 < cLine) : OpR X (compareOp .NotEq) (fun x y H Q => rNe x y H Q ∨ rNeD X.K x y H Q) := OpR.or op_ne (op_neD hu)

/-- order: numbers, texts -/
def gOrd (p : Int → Int → Bool) (q : List Nat → List Nat → Bool) : D → D → Option D
  | .int i, .int j => some (.bool (p i j))
  | .str a, .str b => some (.bool (q a.cps.toList b.cps.toList))
  | _, _ => none
def rOrd (p : Int → Int → Bool) (q : List Nat → List Nat → Bool) : R2 := fun x y H Q => (rI0 fun i j => .bl (p i j)) x y H Q ∨ ∃ i j, x = .str i ∧ y = .str j ∧ Q (.bl (q i.cps.toList j.cps.toList)) H
theorem imp_ord {K : PySem.W.Frag} {p : Int → Int → Bool} {q : List Nat → List Nat → Bool} : Imp2 K (rOrd p q) (gOrd p q) := by
  intro μ H Hs x y d e o Q s rx ry g k
  cases rx <;> cases ry <;> try (cases g)
  · exact .inl ⟨_, _, rfl, rfl, k _ H Hs (Ext.refl s) (.bool _)⟩
  · exact .inr ⟨_, _, rfl, rfl, k _ H Hs (Ext.refl s) (.bool _)⟩
def gLt : D → D → Option D := gOrd (fun i j => decide (i < j)) (fun a b => decide (a < b))
def gLe : D → D → Option D := gOrd (fun i j => decide (i ≤ j)) (fun a b => !decide (b < a))
def gGt : D → D → Option D := gOrd (fun i j => decide (j < i)) (fun a b => decide (b < a))
def gGe : D → D → Option D := gOrd (fun i j => decide (j ≤ i)) (fun a b => !decide (a < b))
section
variable {X : Cx}
theorem op_ltA : OpR X (compareOp .Lt) (rOrd (fun i j => decide (i < j)) (fun a b => decide (a < b))) := OpR.or op_lt op_lt_str
theorem op_leA : OpR X (compareOp .LtE) (rOrd (fun i j => decide (i ≤ j)) (fun a b => !decide (b < a))) := OpR.or op_le op_le_str
theorem op_gtA : OpR X (compareOp .Gt) (rOrd (fun i j => decide (j < i)) (fun a b => decide (b < a))) := OpR.or op_gt op_gt_str
theorem op_geA : OpR X (compareOp .GtE) (rOrd (fun i j => decide (j ≤ i)) (fun a b => !decide (a < b))) := OpR.or op_ge op_ge_str
end

/-- x in y: one sign in a text, an item in a list or tuple of plain items, data in a list of data -/
def D.flat : D → Bool
  | .non => true | .bool _ => true | .int _ => true | .str _ => true
  | _ => false
def D.eqF : D → D → Bool
  | .non, .non => true
  | .bool a, .bool b => a == b
  | .bool a, .int b => (if a then 1 else 0) == b
  | .int a, .bool b => a == (if b then 1 else 0)
  | .int a, .int b => a == b
  | .str a, .str b => a == b
  | _, _ => false
def D.v : D → V
  | .non => .non | .bool b => .bl b | .int i => .int i | .str x => .str x
  | _ => .non
def gIn0 : D → D → Option Bool
  | .str a, .str z => match a.cps with
    | ⟨[c]⟩ => some (decide (c ∈ z.cps.toList))
    | _ => none
  | d, .lst ds => if d.flat && ds.all D.flat then some (ds.any fun z => z.eqF d) else if SeqAt.shaped d.py && SeqAt.shaped (D.lst ds).py then some ((D.pyA ds).any fun z => PyData.eqv z d.py) else none
  | d, .tup ds => if d.flat && ds.all D.flat then some (ds.any fun z => z.eqF d) else none
  | _, _ => none
def gIn (d e : D) : Option D := b1 (gIn0 d e) fun b => some (.bool b)
def gNotIn (d e : D) : Option D := b1 (gIn0 d e) fun b => some (.bool (!b))
section
variable {K : PySem.W.Frag} {μ : List Addr} {H : Hp}
theorem Rp.flat {v : V} {d : D} (r : Rp K μ H v d) (f : d.flat = true) : flatV v = true ∧ v = d.v := by
  cases r <;> first | exact ⟨rfl, rfl⟩ | (exact absurd f Bool.false_ne_true)
theorem RpA.flat : ∀ {ds : List D} {vs : List V}, RpA K μ H vs ds → ds.all D.flat = true → vs.all flatV = true ∧ vs = ds.map D.v
  | _, _, .nil, _ => ⟨rfl, rfl⟩
  | _, _, .cons h t, f => by
    rw [List.all_cons, Bool.and_eq_true] at f
    obtain ⟨a, b⟩ := h.flat f.1
    obtain ⟨a', b'⟩ := t.flat f.2
    exact ⟨by rw [List.all_cons, a, a']; rfl, by rw [List.map_cons, ← b, ← b']⟩
theorem eqF_v : ∀ {d e : D}, d.flat = true → e.flat = true → eqV d.v e.v = d.eqF e := by
  intro d e h1 h2
  cases d <;> cases e <;> first | rfl | (exact absurd h1 Bool.false_ne_true) | (exact absurd h2 Bool.false_ne_true)
theorem inV_eq {d : D} {ds : List D} (h1 : d.flat = true) (h2 : ds.all D.flat = true) : inV d.v (ds.map D.v) = ds.any fun z => z.eqF d := by
  unfold inV
  rw [List.any_map]
  induction ds with
  | nil => rfl
  | cons z ds ih =>
    rw [List.all_cons, Bool.and_eq_true] at h2
    rw [List.any_cons, List.any_cons, ih h2.2]
    show (eqV z.v d.v || _) = _
    rw [eqF_v h2.1 h1]
end
def rInA (K : PySem.W.Frag) : R2 := fun x y H Q => (∃ (c : Nat) (z : Str), x = .str ⟨#[c]⟩ ∧ y = .str z ∧ Q (.bl (decide (c ∈ z.cps.toList))) H) ∨ rIn K false x y H Q ∨ rInD K x y H Q
def rNotInA (K : PySem.W.Frag) : R2 := fun x y H Q => (∃ (c : Nat) (z : Str), x = .str ⟨#[c]⟩ ∧ y = .str z ∧ Q (.bl (!decide (c ∈ z.cps.toList))) H) ∨ rIn K true x y H Q ∨ rNotInD K x y H Q
theorem op_inA {X : Cx} (hu : X.A.units + 65 < cLine) : OpR X (compareOp .In) (rInA X.K) := OpR.or op_in_sign (OpR.or op_in_seq (op_inD hu))
theorem op_notInA {X : Cx} (hu : X.A.units + 65 < cLine) : OpR X (compareOp .NotIn) (rNotInA X.K) := OpR.or op_notIn_sign (OpR.or op_notIn_seq (op_notInD hu))
theorem in0_cases {K : PySem.W.Frag} {μ : List Addr} {H Hs : Hp} {x y : V} {d e : D} {b : Bool} (s : Same Hs H) (rx : Rp K μ Hs x d) (ry : Rp K μ Hs y e) (g : gIn0 d e = some b) :
    (∃ (c : Nat) (z : Str), x = .str ⟨#[c]⟩ ∧ y = .str z ∧ b = decide (c ∈ z.cps.toList)) ∨
    (∃ p xs, y = .ref p ∧ (SqL K H p xs ∨ SqT K H p xs) ∧ flatV x = true ∧ xs.all flatV = true ∧ b = inV x xs) ∨
    (∃ ds, Dp K H x d.py ∧ Dp K H y (.list ds) ∧ SeqAt.shaped d.py = true ∧ SeqAt.shaped (.list ds) = true ∧ b = ds.any fun z => PyData.eqv z d.py) := by
  cases ry with
  | str z =>
    cases rx with
    | str a =>
      obtain ⟨⟨l⟩⟩ := a
      cases l with
      | nil => exact nomatch g
      | cons c l =>
        cases l with
        | nil => cases g; exact .inl ⟨c, z, rfl, rfl, rfl⟩
        | cons c2 l => exact nomatch g
    | _ => exact nomatch g
  | lst h1 r1 =>
    rename_i a xs ds
    have g' : (if (d.flat && ds.all D.flat) = true then some (ds.any fun z => z.eqF d) else if (SeqAt.shaped d.py && SeqAt.shaped (D.lst ds).py) = true then some ((D.pyA ds).any fun z => PyData.eqv z d.py) else none) = some b := by
      cases rx <;> exact g
    by_cases hf : (d.flat && ds.all D.flat) = true
    · rw [if_pos hf] at g'
      rw [Bool.and_eq_true] at hf
      obtain ⟨f1, rfl⟩ := rx.flat hf.1
      obtain ⟨f2, rfl⟩ := r1.flat hf.2
      cases g'
      exact .inr (.inl ⟨a, _, rfl, .inl (SqL.of (s _ _ h1)), f1, f2, (inV_eq hf.1 hf.2).symm⟩)
    · rw [if_neg hf] at g'
      obtain ⟨hc, rfl⟩ := ite_some g'
      rw [Bool.and_eq_true] at hc
      exact .inr (.inr ⟨D.pyA ds, Rp.dp _ _ (rx.mono s) (SeqAt.canLay_of_shaped hc.1), .lst (SqL.of (s _ _ h1)) (RpA.dp _ _ (r1.mono s) (SeqAt.canLay_of_shaped hc.2)), hc.1, hc.2, rfl⟩)
  | tup h1 r1 =>
    rename_i a xs ds
    have g' : (if (d.flat && ds.all D.flat) = true then some (ds.any fun z => z.eqF d) else none) = some b := by
      cases rx <;> exact g
    obtain ⟨hf, rfl⟩ := ite_some g'
    rw [Bool.and_eq_true] at hf
    obtain ⟨f1, rfl⟩ := rx.flat hf.1
    obtain ⟨f2, rfl⟩ := r1.flat hf.2
    exact .inr (.inl ⟨a, _, rfl, .inr (sqT_mono s h1), f1, f2, (inV_eq hf.1 hf.2).symm⟩)
  | non => exact absurd g (by cases rx <;> (intro q; exact nomatch q))
  | bool _ => exact absurd g (by cases rx <;> (intro q; exact nomatch q))
  | int _ => exact absurd g (by cases rx <;> (intro q; exact nomatch q))
  | scr _ => exact absurd g (by cases rx <;> (intro q; exact nomatch q))
  | loc _ => exact absurd g (by cases rx <;> (intro q; exact nomatch q))
theorem imp_in {K : PySem.W.Frag} : Imp2 K (rInA K) gIn := by
  intro μ H Hs x y d e o Q s rx ry g k
  obtain ⟨b, g1, g2⟩ := b1_eq g
  cases g2
  have kk := k (.bl b) H Hs (Ext.refl s) (.bool _)
  rcases in0_cases s rx ry g1 with ⟨c, z, h1, h2, rfl⟩ | ⟨p, xs, h1, h2, h3, h4, rfl⟩ | ⟨ds, h1, h2, h3, h4, rfl⟩
  · exact .inl ⟨c, z, h1, h2, kk⟩
  · exact .inr (.inl ⟨p, xs, h1, h2, h3, h4, kk⟩)
  · exact .inr (.inr ⟨_, ds, h1, h2, h3, h4, kk⟩)
theorem imp_notIn {K : PySem.W.Frag} : Imp2 K (rNotInA K) gNotIn := by
  intro μ H Hs x y d e o Q s rx ry g k
  obtain ⟨b, g1, g2⟩ := b1_eq g
  cases g2
  have kk := k (.bl (!b)) H Hs (Ext.refl s) (.bool _)
  rcases in0_cases s rx ry g1 with ⟨c, z, h1, h2, rfl⟩ | ⟨p, xs, h1, h2, h3, h4, rfl⟩ | ⟨ds, h1, h2, h3, h4, rfl⟩
  · exact .inl ⟨c, z, h1, h2, kk⟩
  · exact .inr (.inl ⟨p, xs, h1, h2, h3, h4, kk⟩)
  · exact .inr (.inr ⟨_, ds, h1, h2, h3, h4, kk⟩)

/-- is None -/
def gIsN : D → D → Option D
  | .non, .non => some (.bool true)
  | _, .non => some (.bool false)
  | _, _ => none
def gNotN : D → D → Option D
  | .non, .non => some (.bool false)
  | _, .non => some (.bool true)
  | _, _ => none
theorem imp_isN {K : PySem.W.Frag} : Imp2 K (fun x y H Q => y = .non ∧ Q (.bl (decide (x = .non))) H) gIsN := by
  intro μ H Hs x y d e o Q s rx ry g k
  cases ry <;> cases rx <;> first | (cases g; exact ⟨rfl, k _ H Hs (Ext.refl s) (.bool _)⟩) | exact nomatch g
theorem imp_notN {K : PySem.W.Frag} : Imp2 K (fun x y H Q => y = .non ∧ Q (.bl (!decide (x = .non))) H) gNotN := by
  intro μ H Hs x y d e o Q s rx ry g k
  cases ry <;> cases rx <;> first | (cases g; exact ⟨rfl, k _ H Hs (Ext.refl s) (.bool _)⟩) | exact nomatch g

/-! ### items -/
def gIx : D → D → Option D
  | .lst xs, .int i => atI xs i
  | .tup xs, .int i => atI xs i
  | .str z, .int i => if z.length ≤ sizeLine then (atI z.cps.toList i).map fun c => .str ⟨#[c]⟩ else none
  | .scr ns, .int i => (atI ns i).map D.int
  | _, _ => none
section
variable {K : PySem.W.Frag} {μ : List Addr} {H : Hp}
theorem RpA.atI {ds : List D} {vs : List V} {i : Int} {d : D} (r : RpA K μ H vs ds) (h : atI ds i = some d) : ∃ v, atI vs i = some v ∧ Rp K μ H v d := by
  unfold L2.atI at h ⊢
  rw [r.len]
  cases q : ixN ds.length i with
  | none => rw [q] at h; cases h
  | some j =>
    rw [q] at h
    exact r.getD h
end
theorem imp_ix {K : PySem.W.Frag} : Imp2 K (rIx K) gIx := by
  intro μ H Hs x y d e o Q s rx ry g k
  cases ry with
  | int i =>
    cases rx with
    | lst h1 r1 =>
      obtain ⟨v, e1, r2⟩ := r1.atI g
      exact .inl ⟨_, _, _, v, rfl, rfl, SqL.of (s _ _ h1), e1, k v H Hs (Ext.refl s) r2⟩
    | tup h1 r1 =>
      obtain ⟨v, e1, r2⟩ := r1.atI g
      exact .inr (.inl ⟨_, _, _, v, rfl, rfl, sqT_mono s h1, e1, k v H Hs (Ext.refl s) r2⟩)
    | str z =>
      have g' : (if z.length ≤ sizeLine then (atI z.cps.toList i).map fun c => D.str ⟨#[c]⟩ else none) = some o := g
      by_cases hz : z.length ≤ sizeLine
      · rw [if_pos hz] at g'
        cases q : atI z.cps.toList i with
        | none => rw [q] at g'; cases g'
        | some c =>
          rw [q] at g'
          cases g'
          exact .inr (.inr ⟨_, _, c, rfl, rfl, hz, q, k _ H Hs (Ext.refl s) (.str _)⟩)
      · rw [if_neg hz] at g'
        cases g'
    | scr h1 =>
      rename_i a ns
      have g' : (atI ns i).map D.int = some o := g
      cases q : atI ns i with
      | none => rw [q] at g'; cases g'
      | some n =>
        rw [q] at g'
        cases g'
        refine .inl ⟨_, _, _, .int n, rfl, rfl, s.seq h1, ?_, k _ H Hs (Ext.refl s) (.int _)⟩
        unfold atI at q ⊢
        rw [List.length_map]
        cases q2 : ixN ns.length i with
        | none => rw [q2] at q; cases q
        | some j =>
          rw [q2] at q
          show (ns.map V.int)[j]? = _
          rw [List.getElem?_map, show ns[j]? = some n from q]
          rfl
    | non => exact nomatch g
    | bool _ => exact nomatch g
    | int _ => exact nomatch g
    | loc _ => exact nomatch g
  | _ => exact absurd g (by cases rx <;> (intro q; exact nomatch q))
end Pd

/-! Pd2: slices, calls, methods, displays, tests. -/
namespace Pd
open PySem PySem.Spec L2 SkE
open PyProof.Rows hiding St

/-! ### slices -/
abbrev Fo := Rho → Option (Option Int)
def tDO (K : PySem.W.Frag) (f : Fo) : TO := fun σ H Q => ∃ (μ : List Addr) (Hs : Hp) (ρ : Rho) (d : Option Int), Same Hs H ∧ VEnv K μ Hs σ ρ ∧ f ρ = some d ∧ ∀ H', Same H H' → Q d H'
def foNo : Fo := fun _ => some none
def foE (f : F) : Fo := fun ρ => b1 (f ρ) fun d => match d with
  | .int i => some (some i)
  | _ => none
theorem po_imp {X : Cx} {e : Option Expr} {t t' : TO} (h : PO X e t) (i : ∀ σ H Q, t' σ H Q → t σ H Q) : PO X e t' := ⟨fun pins s σ H Q I q => h.run pins s σ H Q I (i _ _ _ q)⟩
def cutD (xs : List D) (lo hi : Option Int) : List D := (xs.drop (HT.sIx xs.length 0 lo)).take (HT.sIx xs.length xs.length hi - HT.sIx xs.length 0 lo)
def cutN (xs : List Int) (lo hi : Option Int) : List Int := (xs.drop (HT.sIx xs.length 0 lo)).take (HT.sIx xs.length xs.length hi - HT.sIx xs.length 0 lo)
def gSl (d : D) (lo hi : Option Int) : Option D := match d with
  | .lst xs => some (.lst (cutD xs lo hi))
  | .tup xs => some (.tup (cutD xs lo hi))
  | .str z => if z.length ≤ sizeLine then some (.str (cutS z lo hi)) else none
  | .scr ns => some (.lst ((cutN ns lo hi).map D.int))
  | _ => none
def fSl (f : F) (l h : Fo) : F := fun ρ => b1 (f ρ) fun d => b1 (l ρ) fun lo => b1 (h ρ) fun hi => gSl d lo hi
section
variable {X : Cx} {e a b c : Expr} {es : List Expr} {f g h : F} {fs : Fs} {pos p2 : Pos}
theorem pdo_none : PO X none (tDO X.K foNo) := po_imp po_none fun σ H Q ⟨μ, Hs, ρ, d, s, env, e, k⟩ => by cases e; exact k H (Same.refl _)
theorem pdo_some (he : PE X e (tD X.K f)) : PO X (some e) (tDO X.K (foE f)) := po_imp (po_some he) fun σ H Q ⟨μ, Hs, ρ, d, s, env, e, k⟩ => by
  obtain ⟨d1, e1, e2⟩ := b1_eq e
  refine ⟨μ, Hs, ρ, d1, s, env, e1, fun v H' Hs' x r => ?_⟩
  cases d1 with
  | int i => cases e2; cases r; exact ⟨i, rfl, k _ x.all⟩
  | _ => exact nomatch e2
theorem cut_rp {K : PySem.W.Frag} {μ : List Addr} {H : Hp} {xs : List V} {ds : List D} (r : RpA K μ H xs ds) (lo hi : Option Int) : RpA K μ H (cutV xs lo hi) (cutD ds lo hi) := by
  unfold cutV cutD
  rw [r.len]
  exact (r.drop _).take _
theorem cut_ints (ns : List Int) (lo hi : Option Int) : cutV (ns.map V.int) lo hi = (cutN ns lo hi).map V.int := by
  unfold cutV cutN
  rw [List.length_map, List.map_take, List.map_drop]
theorem pd_slice {lo hi : Option Expr} {fl fh : Fo} (he : PE X e (tD X.K f)) (hl : PO X lo (tDO X.K fl)) (hh : PO X hi (tDO X.K fh)) : PE X (.Subscript e (.Slice lo hi none p2) pos) (tD X.K (fSl f fl fh)) := by
  refine pe_imp (pe_slice (SlR.or sl_list (SlR.or sl_tupA sl_str)) he hl hh) fun σ H Q ⟨μ, Hs, ρ, d, s, env, e, k⟩ => ?_
  obtain ⟨d1, e1, e2⟩ := b1_eq e
  obtain ⟨l1, e3, e4⟩ := b1_eq e2
  obtain ⟨h1, e5, e6⟩ := b1_eq e4
  refine ⟨μ, Hs, ρ, d1, s, env, e1, fun v H1 Hs1 x1 r1 => ⟨μ, Hs, ρ, l1, s.trans x1.all, env, e3, fun H2 y2 => ⟨μ, Hs, ρ, h1, s.trans (x1.all.trans y2), env, e5, fun H3 y3 => ?_⟩⟩⟩
  have x3 : Ext Hs H Hs1 H3 := x1.trans ((Ext.side x1.sub y2).trans (Ext.side (x1.sub.trans y2) y3))
  cases r1 with
  | lst q1 q2 =>
    cases e6
    refine .inl ⟨_, _, rfl, SqL.of (x3.sub _ _ q1), fun p hp => ?_⟩
    exact k _ _ _ (x3.trans (Ext.made x3.sub hp)) (.lst upd_same ((cut_rp q2 _ _).mono (Ext.made x3.sub hp).part))
  | tup q1 q2 =>
    cases e6
    refine .inr (.inl ⟨_, _, rfl, sqT_mono x3.sub q1, fun w => ?_, fun w p hp => ?_⟩)
    · refine k _ _ _ x3 (.tup q1 ?_)
      have e7 : ∀ (ds : List D), HT.sIx ds.length 0 l1 = 0 → HT.sIx ds.length ds.length h1 = ds.length → cutD ds l1 h1 = ds := fun ds w1 w2 => by
        unfold cutD
        rw [w1, w2]
        simp
      rw [q2.len] at w
      rw [e7 _ w.1 w.2]
      exact q2
    · exact k _ _ _ (x3.trans (Ext.made x3.sub hp)) (.tup (SqT.of upd_same) ((cut_rp q2 _ _).mono (Ext.made x3.sub hp).part))
  | str z =>
    obtain ⟨hz, rfl⟩ := ite_some e6
    exact .inr (.inr ⟨_, rfl, hz, k _ _ _ x3 (.str _)⟩)
  | scr q1 =>
    cases e6
    refine .inl ⟨_, _, rfl, x3.sub.seq q1, fun p hp => ?_⟩
    rw [cut_ints]
    exact k _ _ _ (x3.trans (Ext.made x3.sub hp)) (.lst upd_same RpA.ints)
  | _ => exact nomatch e6

/-! ### displays -/
theorem pd_tup {x1} (ha : PA X es (tDs X.K fs)) : PE X (.Tuple es x1 pos) (tD X.K (fL (fun ds => if ds.length ≤ sizeLine then some (.tup ds) else none) fs)) := by
  refine pe_imp (pe_tup ha) fun σ H Q ⟨μ, Hs, ρ, d, s, env, e, k⟩ => ?_
  obtain ⟨d1, e1, e2⟩ := b1_eq e
  obtain ⟨hz, rfl⟩ := ite_some e2
  refine ⟨μ, Hs, ρ, d1, s, env, e1, fun vs H1 Hs1 x1 r1 => ⟨by rw [r1.len]; exact hz, fun p hp => ?_⟩⟩
  exact k _ _ _ (x1.trans (Ext.made x1.sub hp)) (.tup (SqT.of upd_same) (r1.mono (Ext.made x1.sub hp).part))
theorem pd_lst (ha : PA X es (tDs X.K fs)) : PE X (.List es pos) (tD X.K (fL (fun ds => if ds.length ≤ sizeLine then some (.lst ds) else none) fs)) := by
  refine pe_imp (pe_lst ha) fun σ H Q ⟨μ, Hs, ρ, d, s, env, e, k⟩ => ?_
  obtain ⟨d1, e1, e2⟩ := b1_eq e
  obtain ⟨hz, rfl⟩ := ite_some e2
  refine ⟨μ, Hs, ρ, d1, s, env, e1, fun vs H1 Hs1 x1 r1 => ⟨by rw [r1.len]; exact hz, fun p hp => ?_⟩⟩
  exact k _ _ _ (x1.trans (Ext.made x1.sub hp)) (.lst upd_same (r1.mono (Ext.made x1.sub hp).part))

/-! ### tests -/
def D.tru : D → Option Bool
  | .non => some false
  | .bool b => some b
  | .int i => some (i != 0)
  | .str x => if x.length ≤ sizeLine then some ((x.length : Int) != 0) else none
  | .lst ds => some (!ds.isEmpty)
  | .tup ds => some (!ds.isEmpty)
  | .scr ns => some (!ns.isEmpty)
  | .loc _ => none
def ftV (f : F) : Ft := fun ρ => b1 (f ρ) D.tru
def ftB (f : F) : Ft := fun ρ => b1 (f ρ) fun d => match d with
  | .bool b => some b
  | _ => none
def ftAnd (f g : Ft) : Ft := fun ρ => b1 (f ρ) fun b => if b = true then g ρ else some false
def ftOr (f g : Ft) : Ft := fun ρ => b1 (f ρ) fun b => if b = true then some true else g ρ
def ftNot (f : Ft) : Ft := fun ρ => b1 (f ρ) fun b => some (!b)
theorem isEmpty_rp {K : PySem.W.Frag} {μ : List Addr} {H : Hp} {xs : List V} {ds : List D} (r : RpA K μ H xs ds) : xs.isEmpty = ds.isEmpty := by cases r <;> rfl
theorem Rp.tru {K : PySem.W.Frag} {μ : List Addr} {H : Hp} {v : V} {d : D} {b : Bool} (r : Rp K μ H v d) (h : d.tru = some b) : TruV K v H b := by
  cases r with
  | non => cases h; rfl
  | bool _ => cases h; rfl
  | int _ => cases h; rfl
  | str x => obtain ⟨hz, rfl⟩ := ite_some h; exact ⟨hz, rfl⟩
  | lst h1 h2 => cases h; exact .inl ⟨_, SqL.of h1, by rw [isEmpty_rp h2]⟩
  | tup h1 h2 => cases h; exact .inr (.inl ⟨_, h1, by rw [isEmpty_rp h2]⟩)
  | scr h1 => cases h; exact .inl ⟨_, h1, by cases ‹List Int› <;> rfl⟩
  | loc h1 => exact nomatch h
theorem pdt_val (ha : PE X e (tD X.K f)) (he : ∀ whole, isTrue e X.env whole = (do let v ← whole; standAt e.pos; holding [v] (truthy v)) := by intro _; rfl) : PT X e (tDT X.K (ftV f)) := by
  refine pt_imp (pt_truth ha he) fun σ H Q ⟨μ, Hs, ρ, b, s, env, e, k⟩ => ?_
  obtain ⟨d1, e1, e2⟩ := b1_eq e
  exact ⟨μ, Hs, ρ, d1, s, env, e1, fun v H1 Hs1 x1 r1 => ⟨b, (r1.mono x1.sub).tru e2, k _ x1.all⟩⟩
theorem pdt_cmp {op : CmpOp} {r : R2} {G : D → D → Option D} (ho : OpR X (compareOp op) r) (hG : Imp2 X.K r G) (ha : PE X a (tD X.K f)) (hb : PE X b (tD X.K g)) (hm : behindInMarks op b = false := by first | exact nomark _ | rfl) :
    PT X (.Compare a [op] [b] pos) (tDT X.K (ftB (f2 G f g))) := by
  refine pt_imp (pt_cmpR ho ha hb hm) fun σ H Q ⟨μ, Hs, ρ, b, s, env, e, k⟩ => ?_
  obtain ⟨d1, e1, e2⟩ := b1_eq e
  refine tD_2 hG σ H _ ⟨μ, Hs, ρ, d1, s, env, e1, fun v H1 Hs1 x1 r1 => ?_⟩
  cases d1 with
  | bool b' => cases e2; cases r1; exact ⟨_, rfl, k _ x1.all⟩
  | _ => exact nomatch e2
theorem pdw_and1 {ft : Ft} (h : PT X a (tDT X.K ft)) : PW X (.BoolOp .And [a] pos) (tDT X.K ft) := pw_and1 h
theorem pdw_or1 {ft : Ft} (h : PT X a (tDT X.K ft)) : PW X (.BoolOp .Or [a] pos) (tDT X.K ft) := pw_or1 h
theorem pdw_and {ft gt : Ft} (h : PT X a (tDT X.K ft)) (h2 : PW X (.BoolOp .And (b :: es) pos) (tDT X.K gt)) : PW X (.BoolOp .And (a :: b :: es) pos) (tDT X.K (ftAnd ft gt)) := by
  refine pw_imp (pw_and h h2) fun σ H Q ⟨μ, Hs, ρ, r, s, env, e, k⟩ => ?_
  obtain ⟨b1', e1, e2⟩ := b1_eq e
  refine ⟨μ, Hs, ρ, b1', s, env, e1, fun H' x => ?_⟩
  cases b1' with
  | true => exact iteT ⟨μ, Hs, ρ, r, s.trans x, env, e2, fun H2 x2 => k H2 (x.trans x2)⟩
  | false => cases e2; exact iteF (k H' x)
theorem pdw_or {ft gt : Ft} (h : PT X a (tDT X.K ft)) (h2 : PW X (.BoolOp .Or (b :: es) pos) (tDT X.K gt)) : PW X (.BoolOp .Or (a :: b :: es) pos) (tDT X.K (ftOr ft gt)) := by
  refine pw_imp (pw_or h h2) fun σ H Q ⟨μ, Hs, ρ, r, s, env, e, k⟩ => ?_
  obtain ⟨b1', e1, e2⟩ := b1_eq e
  refine ⟨μ, Hs, ρ, b1', s, env, e1, fun H' x => ?_⟩
  cases b1' with
  | false => exact iteF ⟨μ, Hs, ρ, r, s.trans x, env, e2, fun H2 x2 => k H2 (x.trans x2)⟩
  | true => cases e2; exact iteT (k H' x)
theorem pdt_w {ft : Ft} (h : PW X e (tDT X.K ft)) : PT X e (tDT X.K ft) := h.pt
theorem pdt_not {ft : Ft} (h : PT X a (tDT X.K ft)) : PT X (.UnaryOp .Not a pos) (tDT X.K (ftNot ft)) := by
  refine pt_imp (pt_not h) fun σ H Q ⟨μ, Hs, ρ, r, s, env, e, k⟩ => ?_
  obtain ⟨b1', e1, e2⟩ := b1_eq e
  cases e2
  exact ⟨μ, Hs, ρ, b1', s, env, e1, fun H' x => k H' x⟩
/-- and, or, not as values -/
def fAnd (f g : F) : F := fun ρ => b1 (f ρ) fun d => b1 d.tru fun b => if b = true then g ρ else some d
def fOr (f g : F) : F := fun ρ => b1 (f ρ) fun d => b1 d.tru fun b => if b = true then some d else g ρ
def fNot (f : F) : F := fun ρ => b1 (f ρ) fun d => b1 d.tru fun b => some (.bool (!b))
def fIf (c : Ft) (f g : F) : F := fun ρ => b1 (c ρ) fun b => if b = true then f ρ else g ρ
theorem pd_one {op} (h : PE X a (tD X.K f)) : PE X (.BoolOp op [a] pos) (tD X.K f) := pe_one h
theorem pd_and (ha : PE X a (tD X.K f)) (hb : PE X (.BoolOp .And (b :: es) pos) (tD X.K g)) : PE X (.BoolOp .And (a :: b :: es) pos) (tD X.K (fAnd f g)) := by
  refine pe_imp (pe_andT ha hb) fun σ H Q ⟨μ, Hs, ρ, d, s, env, e, k⟩ => ?_
  obtain ⟨d1, e1, e2⟩ := b1_eq e
  obtain ⟨t, e3, e4⟩ := b1_eq e2
  refine ⟨μ, Hs, ρ, d1, s, env, e1, fun v H1 Hs1 x1 r1 => ⟨t, (r1.mono x1.sub).tru e3, ?_⟩⟩
  cases t with
  | true => exact iteT ⟨μ, Hs1, ρ, d, x1.sub, env.mono x1.part, e4, fun v H' Hs' x r => k v H' Hs' (x1.trans x) r⟩
  | false => cases e4; exact iteF (k v H1 Hs1 x1 r1)
theorem pd_or (ha : PE X a (tD X.K f)) (hb : PE X (.BoolOp .Or (b :: es) pos) (tD X.K g)) : PE X (.BoolOp .Or (a :: b :: es) pos) (tD X.K (fOr f g)) := by
  refine pe_imp (pe_orT ha hb) fun σ H Q ⟨μ, Hs, ρ, d, s, env, e, k⟩ => ?_
  obtain ⟨d1, e1, e2⟩ := b1_eq e
  obtain ⟨t, e3, e4⟩ := b1_eq e2
  refine ⟨μ, Hs, ρ, d1, s, env, e1, fun v H1 Hs1 x1 r1 => ⟨t, (r1.mono x1.sub).tru e3, ?_⟩⟩
  cases t with
  | false => exact iteF ⟨μ, Hs1, ρ, d, x1.sub, env.mono x1.part, e4, fun v H' Hs' x r => k v H' Hs' (x1.trans x) r⟩
  | true => cases e4; exact iteT (k v H1 Hs1 x1 r1)
theorem pd_not (ha : PE X a (tD X.K f)) : PE X (.UnaryOp .Not a pos) (tD X.K (fNot f)) := by
  refine pe_imp (pe_notT ha) fun σ H Q ⟨μ, Hs, ρ, d, s, env, e, k⟩ => ?_
  obtain ⟨d1, e1, e2⟩ := b1_eq e
  obtain ⟨t, e3, e4⟩ := b1_eq e2
  cases e4
  exact ⟨μ, Hs, ρ, d1, s, env, e1, fun v H1 Hs1 x1 r1 => ⟨t, (r1.mono x1.sub).tru e3, k _ H1 Hs1 x1 (.bool _)⟩⟩
theorem pd_ifExp {ft : Ft} (hc : PT X c (tDT X.K ft)) (ha : PE X a (tD X.K f)) (hb : PE X b (tD X.K g)) : PE X (.IfExp c a b pos) (tD X.K (fIf ft f g)) := by
  refine pe_imp (pe_ifExp hc ha hb) fun σ H Q ⟨μ, Hs, ρ, d, s, env, e, k⟩ => ?_
  obtain ⟨t, e1, e2⟩ := b1_eq e
  refine ⟨μ, Hs, ρ, t, s, env, e1, fun H1 x1 => ?_⟩
  have y1 : Ext Hs H Hs H1 := Ext.side s x1
  cases t with
  | true => exact iteT ⟨μ, Hs, ρ, d, y1.sub, env, e2, fun v H' Hs' x r => k v H' Hs' (y1.trans x) r⟩
  | false => exact iteF ⟨μ, Hs, ρ, d, y1.sub, env, e2, fun v H' Hs' x r => k v H' Hs' (y1.trans x) r⟩
/-- a op b op c -/
def fChain (G G' : D → D → Option D) (f g h : F) : F := fun ρ => b1 (f ρ) fun d => b1 (g ρ) fun e => b1 (G d e) fun o => match o with
  | .bool true => b1 (h ρ) fun e' => G' e e'
  | .bool false => some (.bool false)
  | _ => none
theorem tD_ch {K : PySem.W.Frag} {r r' : R2} {G G' : D → D → Option D} (hG : Imp2 K r G) (hG' : Imp2 K r' G') : ∀ σ H Q, tD K (fChain G G' f g h) σ H Q → tChain r r' (tD K f) (tD K g) (tD K h) σ H Q := by
  rintro σ H Q ⟨μ, Hs, ρ, d, s, env, e, k⟩
  obtain ⟨d1, e1, e2⟩ := b1_eq e
  obtain ⟨d2, e3, e4⟩ := b1_eq e2
  obtain ⟨o, e5, e6⟩ := b1_eq e4
  refine ⟨μ, Hs, ρ, d1, s, env, e1, fun v H1 Hs1 x1 r1 => ⟨μ, Hs1, ρ, d2, x1.sub, env.mono x1.part, e3, fun u H2 Hs2 x2 r2 => ?_⟩⟩
  refine hG _ H2 Hs2 v u d1 d2 o _ x2.sub (r1.mono x2.part) r2 e5 fun z H3 Hs3 x3 r3 => ?_
  have x13 := x1.trans (x2.trans x3)
  cases o with
  | bool b =>
    cases r3
    refine ⟨b, rfl, ?_⟩
    cases b with
    | true =>
      obtain ⟨d3, e7, e8⟩ := b1_eq e6
      refine iteT ⟨μ, Hs3, ρ, d3, x3.sub, env.mono x13.part, e7, fun w H4 Hs4 x4 r4 => ?_⟩
      exact hG' _ H4 Hs4 u w d2 d3 d Q x4.sub (r2.mono (x3.trans x4).part) r4 e8 fun v' H' Hs' x5 r5 => k v' H' Hs' (x13.trans (x4.trans x5)) r5
    | false => cases e6; exact iteF (k _ H3 Hs3 x13 (.bool _))
  | _ => exact nomatch e6
theorem pd_chain {op op' : CmpOp} {r r' : R2} {G G' : D → D → Option D} (ho : OpR X (compareOp op) r) (ho' : OpR X (compareOp op') r') (hG : Imp2 X.K r G) (hG' : Imp2 X.K r' G') (ha : PE X a (tD X.K f)) (hb : PE X b (tD X.K g)) (hc : PE X c (tD X.K h))
    (hm : lastMarks [op, op'] [b, c] = false := by with_unfolding_all rfl) : PE X (.Compare a [op, op'] [b, c] pos) (tD X.K (fChain G G' f g h)) := pe_imp (pe_chain ho ho' ha hb hc hm) (tD_ch hG hG')
theorem pdt_chain {op op' : CmpOp} {r r' : R2} {G G' : D → D → Option D} (ho : OpR X (compareOp op) r) (ho' : OpR X (compareOp op') r') (hG : Imp2 X.K r G) (hG' : Imp2 X.K r' G') (ha : PE X a (tD X.K f)) (hb : PE X b (tD X.K g)) (hc : PE X c (tD X.K h))
    (hm : lastMarks [op, op'] [b, c] = false := by with_unfolding_all rfl) : PT X (.Compare a [op, op'] [b, c] pos) (tDT X.K (ftB (fChain G G' f g h))) := by
  refine pt_imp (pt_chain ho ho' ha hb hc hm) fun σ H Q ⟨μ, Hs, ρ, b, s, env, e, k⟩ => ?_
  obtain ⟨d1, e1, e2⟩ := b1_eq e
  refine tD_ch hG hG' σ H _ ⟨μ, Hs, ρ, d1, s, env, e1, fun v H1 Hs1 x1 r1 => ?_⟩
  cases d1 with
  | bool b' => cases e2; cases r1; exact ⟨_, rfl, k _ x1.all⟩
  | _ => exact nomatch e2

/-! ### built-in calls -/
def one (G : D → Option D) (ds : List D) : Option D := match ds with
  | [d] => G d
  | _ => none
def two (G : D → D → Option D) (ds : List D) : Option D := match ds with
  | [d, e] => G d e
  | _ => none
theorem one_eq {G : D → Option D} {ds : List D} {o : D} (h : one G ds = some o) : ∃ d, ds = [d] ∧ G d = some o := by
  match ds, h with
  | [d], h => exact ⟨d, rfl, h⟩
  | [], h => exact nomatch h
  | _ :: _ :: _, h => exact nomatch h
theorem two_eq {G : D → D → Option D} {ds : List D} {o : D} (h : two G ds = some o) : ∃ d e, ds = [d, e] ∧ G d e = some o := by
  match ds, h with
  | [d, e], h => exact ⟨d, e, rfl, h⟩
  | [], h => exact nomatch h
  | [_], h => exact nomatch h
  | _ :: _ :: _ :: _, h => exact nomatch h
def gLen1 : D → Option D
  | .str x => if x.length ≤ sizeLine then some (.int x.length) else none
  | .lst ds => some (.int ds.length)
  | .tup ds => some (.int ds.length)
  | .scr ns => some (.int ns.length)
  | _ => none
def gLen : List D → Option D := one gLen1
theorem rpa1 {K : PySem.W.Frag} {μ : List Addr} {H : Hp} {vs : List V} {d : D} (r : RpA K μ H vs [d]) : ∃ v, vs = [v] ∧ Rp K μ H v d := by
  cases r with
  | cons h t => cases t; exact ⟨_, rfl, h⟩
theorem rpa2 {K : PySem.W.Frag} {μ : List Addr} {H : Hp} {vs : List V} {d e : D} (r : RpA K μ H vs [d, e]) : ∃ v u, vs = [v, u] ∧ Rp K μ H v d ∧ Rp K μ H u e := by
  cases r with
  | cons h t =>
    obtain ⟨u, rfl, h2⟩ := rpa1 t
    exact ⟨_, _, rfl, h, h2⟩
theorem imp_len {K : PySem.W.Frag} : ImpL K (fun xs H Q => ∃ x n, xs = [x] ∧ LenV K x H n ∧ Q (.int n) H) gLen := by
  intro μ H Hs xs ds o Q s r g k
  obtain ⟨d, rfl, g⟩ := one_eq g
  · obtain ⟨v, rfl, rv⟩ := rpa1 r
    cases rv with
    | str z =>
      obtain ⟨hz, rfl⟩ := ite_some g
      exact ⟨_, _, rfl, ⟨hz, rfl⟩, k _ H Hs (Ext.refl s) (.int _)⟩
    | lst h1 h2 =>
      cases g
      refine ⟨_, _, rfl, .inl ⟨_, SqL.of (s _ _ h1), rfl⟩, ?_⟩
      rw [h2.len]
      exact k _ H Hs (Ext.refl s) (.int _)
    | tup h1 h2 =>
      cases g
      refine ⟨_, _, rfl, .inr ⟨_, sqT_mono s h1, rfl⟩, ?_⟩
      rw [h2.len]
      exact k _ H Hs (Ext.refl s) (.int _)
    | scr h1 =>
      cases g
      refine ⟨_, _, rfl, .inl ⟨_, s.seq h1, rfl⟩, ?_⟩
      rw [List.length_map]
      exact k _ H Hs (Ext.refl s) (.int _)
    | _ => exact nomatch g
/-- int(x): a number, a truth value, a text of digits -/
def gInt1 : D → Option D
  | .int i => some (.int i)
  | .bool k => some (.int (if k then 1 else 0))
  | .str a => if a.length ≤ 640 then (PySem.intText? a).map D.int else none
  | _ => none
def gInt : List D → Option D := one gInt1
def rInt : List V → Hp → VK → Prop := fun xs H Q => ((∃ i, xs = [.int i] ∧ Q (.int i) H) ∨ ∃ k, xs = [.bl k] ∧ Q (.int (if k then 1 else 0)) H) ∨ ∃ a n, xs = [.str a] ∧ PySem.intText? a = some n ∧ a.length ≤ 640 ∧ Q (.int n) H
theorem call_intA : CallR X (.type "int") rInt := CallR.or call_int1 call_int_str
theorem imp_int {K : PySem.W.Frag} : ImpL K rInt gInt := by
  intro μ H Hs xs ds o Q s r g k
  obtain ⟨d, rfl, g⟩ := one_eq g
  · obtain ⟨v, rfl, rv⟩ := rpa1 r
    cases rv with
    | int i => cases g; exact .inl (.inl ⟨_, rfl, k _ H Hs (Ext.refl s) (.int _)⟩)
    | bool i => cases g; exact .inl (.inr ⟨_, rfl, k _ H Hs (Ext.refl s) (.int _)⟩)
    | str a =>
      have g' : (if a.length ≤ 640 then (PySem.intText? a).map D.int else none) = some o := g
      by_cases hz : a.length ≤ 640
      · rw [if_pos hz] at g'
        cases q : PySem.intText? a with
        | none => rw [q] at g'; cases g'
        | some n => rw [q] at g'; cases g'; exact .inr ⟨a, n, rfl, q, hz, k _ H Hs (Ext.refl s) (.int _)⟩
      · rw [if_neg hz] at g'
        cases g'
    | _ => exact nomatch g
def gStr1 : D → Option D
  | .int i => if i.natAbs.log2 < 1920 then some (.str (toString i)) else none
  | .str a => some (.str a)
  | _ => none
def gStr : List D → Option D := one gStr1
def rStr : List V → Hp → VK → Prop := fun xs H Q => (∃ i, xs = [.int i] ∧ i.natAbs.log2 < 1920 ∧ Q (.str (toString i)) H) ∨ ∃ a, xs = [.str a] ∧ Q (.str a) H
theorem call_strA : CallR X (.type "str") rStr := CallR.or call_str_int call_str_str
theorem imp_str {K : PySem.W.Frag} : ImpL K rStr gStr := by
  intro μ H Hs xs ds o Q s r g k
  obtain ⟨d, rfl, g⟩ := one_eq g
  · obtain ⟨v, rfl, rv⟩ := rpa1 r
    cases rv with
    | int i => obtain ⟨hz, rfl⟩ := ite_some g; exact .inl ⟨_, rfl, hz, k _ H Hs (Ext.refl s) (.str _)⟩
    | str i => cases g; exact .inr ⟨_, rfl, k _ H Hs (Ext.refl s) (.str _)⟩
    | _ => exact nomatch g
def gAbs1 : D → Option D
  | .int i => some (.int (if i < 0 then -i else i))
  | _ => none
def gAbs : List D → Option D := one gAbs1
theorem imp_abs {K : PySem.W.Frag} : ImpL K (fun xs H Q => ∃ i, xs = [.int i] ∧ Q (.int (if i < 0 then -i else i)) H) gAbs := by
  intro μ H Hs xs ds o Q s r g k
  obtain ⟨d, rfl, g⟩ := one_eq g
  · obtain ⟨v, rfl, rv⟩ := rpa1 r
    cases rv with
    | int i => cases g; exact ⟨_, rfl, k _ H Hs (Ext.refl s) (.int _)⟩
    | _ => exact nomatch g
def gMax21 : D → D → Option D
  | .int i, .int j => some (.int (if j > i then j else i))
  | _, _ => none
def gMax2 : List D → Option D := two gMax21
def gMin21 : D → D → Option D
  | .int i, .int j => some (.int (if j < i then j else i))
  | _, _ => none
def gMin2 : List D → Option D := two gMin21
theorem imp_max2 {K : PySem.W.Frag} : ImpL K (fun xs H Q => ∃ i j, xs = [.int i, .int j] ∧ Q (.int (if j > i then j else i)) H) gMax2 := by
  intro μ H Hs xs ds o Q s r g k
  obtain ⟨d, e, rfl, g⟩ := two_eq g
  · obtain ⟨v, u, rfl, rv, ru⟩ := rpa2 r
    cases rv <;> cases ru <;> first | (cases g; exact ⟨_, _, rfl, k _ H Hs (Ext.refl s) (.int _)⟩) | exact nomatch g
theorem imp_min2 {K : PySem.W.Frag} : ImpL K (fun xs H Q => ∃ i j, xs = [.int i, .int j] ∧ Q (.int (if j < i then j else i)) H) gMin2 := by
  intro μ H Hs xs ds o Q s r g k
  obtain ⟨d, e, rfl, g⟩ := two_eq g
  · obtain ⟨v, u, rfl, rv, ru⟩ := rpa2 r
    cases rv <;> cases ru <;> first | (cases g; exact ⟨_, _, rfl, k _ H Hs (Ext.refl s) (.int _)⟩) | exact nomatch g
/-- list(x), tuple(x) -/
def gList1 : D → Option D
  | .lst ds => some (.lst ds)
  | .tup ds => some (.lst ds)
  | .scr ns => some (.lst (ns.map D.int))
  | _ => none
def gList : List D → Option D := one gList1
def gTuple1 : D → Option D
  | .lst ds => some (.tup ds)
  | .tup ds => some (.tup ds)
  | _ => none
def gTuple : List D → Option D := one gTuple1
theorem imp_list {K : PySem.W.Frag} : ImpL K (fun xs H Q => ∃ p ys, xs = [.ref p] ∧ (SqL K H p ys ∨ SqT K H p ys) ∧ ∀ l, H l = none → Q (.ref l) (upd H l (.lst ys))) gList := by
  intro μ H Hs xs ds o Q s r g k
  obtain ⟨d, rfl, g⟩ := one_eq g
  · obtain ⟨v, rfl, rv⟩ := rpa1 r
    cases rv with
    | lst h1 h2 => cases g; exact ⟨_, _, rfl, .inl (SqL.of (s _ _ h1)), fun l hl => k _ _ _ (Ext.made s hl) (.lst upd_same (h2.mono (Ext.made s hl).part))⟩
    | tup h1 h2 => cases g; exact ⟨_, _, rfl, .inr (sqT_mono s h1), fun l hl => k _ _ _ (Ext.made s hl) (.lst upd_same (h2.mono (Ext.made s hl).part))⟩
    | scr h1 => cases g; exact ⟨_, _, rfl, .inl (s.seq h1), fun l hl => k _ _ _ (Ext.made s hl) (.lst upd_same RpA.ints)⟩
    | _ => exact nomatch g
theorem imp_tuple {K : PySem.W.Frag} : ImpL K (fun xs H Q => ∃ p ys, xs = [.ref p] ∧ ((SqL K H p ys ∧ ∀ l, H l = none → Q (.ref l) (upd H l (.tup ys))) ∨ (SqT K H p ys ∧ Q (.ref p) H))) gTuple := by
  intro μ H Hs xs ds o Q s r g k
  obtain ⟨d, rfl, g⟩ := one_eq g
  · obtain ⟨v, rfl, rv⟩ := rpa1 r
    cases rv with
    | lst h1 h2 => cases g; exact ⟨_, _, rfl, .inl ⟨SqL.of (s _ _ h1), fun l hl => k _ _ _ (Ext.made s hl) (.tup (SqT.of upd_same) (h2.mono (Ext.made s hl).part))⟩⟩
    | tup h1 h2 => cases g; exact ⟨_, _, rfl, .inr ⟨sqT_mono s h1, k _ H Hs (Ext.refl s) (.tup h1 h2)⟩⟩
    | _ => exact nomatch g
/-- a list of numbers, of texts -/
def D.ints? : List D → Option (List Int)
  | [] => some []
  | .int i :: ds => (D.ints? ds).map (i :: ·)
  | _ :: _ => none
def D.strs? : List D → Option (List Str)
  | [] => some []
  | .str i :: ds => (D.strs? ds).map (i :: ·)
  | _ :: _ => none
theorem ints_rp {K : PySem.W.Frag} {μ : List Addr} {H : Hp} : ∀ {ds : List D} {vs : List V} {ns : List Int}, RpA K μ H vs ds → D.ints? ds = some ns → vs = ns.map V.int
  | [], _, _, r, h => by cases r; cases h; rfl
  | d :: ds, _, _, r, h => by
    cases r with
    | cons r1 r2 =>
      cases d with
      | int i =>
        cases q : D.ints? ds with
        | none => simp only [D.ints?, q] at h; cases h
        | some ns => simp only [D.ints?, q] at h; cases h; cases r1; rw [ints_rp r2 q]; rfl
      | _ => exact nomatch h
theorem strs_rp {K : PySem.W.Frag} {μ : List Addr} {H : Hp} : ∀ {ds : List D} {vs : List V} {ns : List Str}, RpA K μ H vs ds → D.strs? ds = some ns → vs = ns.map V.str
  | [], _, _, r, h => by cases r; cases h; rfl
  | d :: ds, _, _, r, h => by
    cases r with
    | cons r1 r2 =>
      cases d with
      | str i =>
        cases q : D.strs? ds with
        | none => simp only [D.strs?, q] at h; cases h
        | some ns => simp only [D.strs?, q] at h; cases h; cases r1; rw [strs_rp r2 q]; rfl
      | _ => exact nomatch h
theorem ints_map (ns : List Int) : D.ints? (ns.map D.int) = some ns := by
  induction ns with
  | nil => rfl
  | cons n ns ih => simp only [List.map_cons, D.ints?, ih, Option.map_some]
theorem strs_map (ns : List Str) : D.strs? (ns.map D.str) = some ns := by
  induction ns with
  | nil => rfl
  | cons n ns ih => simp only [List.map_cons, D.strs?, ih, Option.map_some]
def gSum1 : D → Option D
  | .lst ds => (D.ints? ds).map fun ns => .int ns.sum
  | .scr ns => some (.int ns.sum)
  | _ => none
def gSum : List D → Option D := one gSum1
theorem imp_sum {K : PySem.W.Frag} : ImpL K (rSum K) gSum := by
  intro μ H Hs xs ds o Q s r g k
  obtain ⟨d, rfl, g⟩ := one_eq g
  · obtain ⟨v, rfl, rv⟩ := rpa1 r
    cases rv with
    | lst h1 h2 =>
      have g' : (D.ints? _).map (fun ns => D.int ns.sum) = some o := g
      cases q : D.ints? ‹_› with
      | none => rw [q] at g'; cases g'
      | some ns =>
        rw [q] at g'
        cases g'
        rw [ints_rp h2 q] at h1
        exact ⟨_, ns, rfl, SqL.of (s _ _ h1), k _ H Hs (Ext.refl s) (.int _)⟩
    | scr h1 => cases g; exact ⟨_, _, rfl, s.seq h1, k _ H Hs (Ext.refl s) (.int _)⟩
    | _ => exact nomatch g
end
end Pd

/-! Pd3: methods, walks, comprehensions, statements, defs. -/
namespace Pd
open PySem PySem.Spec L2 SkE
open PyProof.Rows hiding St

/-! ### methods of texts and lists -/
def TyD (T : String) : D → Prop
  | .str _ => T = "str"
  | .lst _ => T = "list"
  | .scr _ => T = "list"
  | _ => False
theorem Rp.ty {K : PySem.W.Frag} {μ : List Addr} {H : Hp} {v : V} {d : D} {T : String} (r : Rp K μ H v d) (h : TyD T d) : tyV K T v H := by
  cases r with
  | str _ => exact h
  | lst h1 _ => exact .inl ⟨h, _, SqL.of h1⟩
  | scr h1 => exact .inl ⟨h, _, h1⟩
  | _ => exact h.elim
def ImpM (K : PySem.W.Frag) (T : String) (r : V → List V → Hp → VK → Prop) (G : D → List D → Option D) : Prop := ∀ μ H Hs x xs d ds o Q, Same Hs H → Rp K μ Hs x d → RpA K μ Hs xs ds → G d ds = some o → (∀ v H' Hs', Ext Hs H Hs' H' → Rp K μ Hs' v o → Q v H') → r x xs H Q
def fM (G : D → List D → Option D) (f : F) (fs : Fs) : F := fun ρ => b1 (f ρ) fun d => b1 (fs ρ) fun ds => G d ds
def mS0 (G : Str → Option D) : D → List D → Option D
  | .str a, [] => G a
  | _, _ => none
def mS1 (G : Str → Str → Option D) : D → List D → Option D
  | .str a, [.str b] => G a b
  | _, _ => none
section
variable {X : Cx} {e a b c o : Expr} {es : List Expr} {f g h : F} {fs : Fs} {pos p2 apos cpos : Pos}
theorem mS0_eq {G : Str → Option D} {d : D} {ds : List D} {o : D} (h : mS0 G d ds = some o) : ∃ a, d = .str a ∧ ds = [] ∧ G a = some o := by
  cases d with
  | str a =>
    cases ds with
    | nil => exact ⟨a, rfl, rfl, h⟩
    | cons _ _ => exact nomatch h
  | _ => exact nomatch h
theorem mS1_eq {G : Str → Str → Option D} {d : D} {ds : List D} {o : D} (h : mS1 G d ds = some o) : ∃ a b, d = .str a ∧ ds = [.str b] ∧ G a b = some o := by
  cases d with
  | str a =>
    match ds, h with
    | [.str b], h => exact ⟨a, b, rfl, rfl, h⟩
    | [], h => exact nomatch h
    | [.non], h => exact nomatch h
    | [.bool _], h => exact nomatch h
    | [.int _], h => exact nomatch h
    | [.lst _], h => exact nomatch h
    | [.tup _], h => exact nomatch h
    | [.scr _], h => exact nomatch h
    | [.loc _], h => exact nomatch h
    | _ :: _ :: _, h => exact absurd h (by unfold mS1; intro q; split at q <;> simp_all)
  | _ => exact nomatch h
theorem pd_m0 {T id : String} {name : Str} {r : V → List V → Hp → VK → Prop} {G : D → List D → Option D} (pa : PlainAttrs T) (slot : Slot T name id) (hty : typeOf (.builtin id) = pure (.type "method_descriptor")) (hm : MtR X id r) (hG : ImpM X.K T r G) (hT : ∀ d ds o, G d ds = some o → TyD T d)
    (ho : PE X o (tD X.K f)) (hbase : attributeBase o name X.env (eval o X.env) = eval o X.env := by rfl) (hline : (apos.endLine == cpos.line) = true := by rfl) : PE X (.Call (.Attribute o name apos) [] [] cpos) (tD X.K (fM G f fNil)) := by
  refine pe_imp (pe_bm0 pa slot hty hm ho hbase hline) fun σ H Q ⟨μ, Hs, ρ, d, s, env, e, k⟩ => ?_
  obtain ⟨d1, e1, e2⟩ := b1_eq e
  exact ⟨μ, Hs, ρ, d1, s, env, e1, fun v H1 Hs1 x1 r1 => ⟨(r1.mono x1.sub).ty (hT _ _ _ e2), hG _ H1 Hs1 v [] d1 [] d Q x1.sub r1 .nil e2 fun v' H' Hs' x2 r2 => k v' H' Hs' (x1.trans x2) r2⟩⟩
theorem pd_m {T id : String} {name : Str} {r : V → List V → Hp → VK → Prop} {G : D → List D → Option D} (pa : PlainAttrs T) (slot : Slot T name id) (hty : typeOf (.builtin id) = pure (.type "method_descriptor")) (hm : MtR X id r) (hG : ImpM X.K T r G) (hT : ∀ d ds o, G d ds = some o → TyD T d)
    (ho : PE X o (tD X.K f)) (ha : PA X (e :: es) (tDs X.K fs)) (hbase : attributeBase o name X.env (eval o X.env) = eval o X.env := by rfl)
    (hfew : ((backTo cpos (starEach (e :: es) X.env)).all (fun x => !x.1) && (backToKw cpos (keywordEach [] X.env)).all (fun x => x.1.isSome)
      && decide ((e :: es).length + ([] : List Keyword).length + (if ([] : List Keyword).isEmpty then 0 else 1) < 30)) = true := by rfl)
    (hline : (apos.endLine == cpos.line) = true := by rfl) (hs : starEach (e :: es) X.env = (false, eval e X.env) :: starEach es X.env := by rfl) (hplain : (backTo cpos (starEach es X.env)).any (·.1) = false := by rfl) :
    PE X (.Call (.Attribute o name apos) (e :: es) [] cpos) (tD X.K (fM G f fs)) := by
  refine pe_imp (pe_bm pa slot hty hm ho ha hbase hfew hline hs hplain) fun σ H Q ⟨μ, Hs, ρ, d, s, env, e, k⟩ => ?_
  obtain ⟨d1, e1, e2⟩ := b1_eq e
  obtain ⟨ds, e3, e4⟩ := b1_eq e2
  refine ⟨μ, Hs, ρ, d1, s, env, e1, fun v H1 Hs1 x1 r1 => ⟨(r1.mono x1.sub).ty (hT _ _ _ e4), μ, Hs1, ρ, ds, x1.sub, env.mono x1.part, e3, fun vs H2 Hs2 x2 r2 => ?_⟩⟩
  exact hG _ H2 Hs2 v vs d1 ds d Q x2.sub (r1.mono x2.part) r2 e4 fun v' H' Hs' x3 r3 => k v' H' Hs' (x1.trans (x2.trans x3)) r3
theorem ty_S0 {G : Str → Option D} : ∀ d ds o, mS0 G d ds = some o → TyD "str" d := fun d ds o h => by obtain ⟨a, rfl, _⟩ := mS0_eq h; rfl
theorem ty_S1 {G : Str → Str → Option D} : ∀ d ds o, mS1 G d ds = some o → TyD "str" d := fun d ds o h => by obtain ⟨a, b, rfl, _⟩ := mS1_eq h; rfl
def gSplit : D → List D → Option D := mS1 fun a b => if (b.length == 0) = false ∧ a.length + 2 ≤ sizeLine then some (.lst ((Txt.split a b).map D.str)) else none
def gPartition : D → List D → Option D := mS1 fun a b => if (b.length == 0) = false ∧ a.length ≤ sizeLine then some (.tup [.str (Txt.partition a b).1, .str (Txt.partition a b).2.1, .str (Txt.partition a b).2.2]) else none
def gStarts : D → List D → Option D := mS1 fun a b => some (.bool (Txt.startswith a b))
def gEnds : D → List D → Option D := mS1 fun a b => some (.bool (Txt.endswith a b))
def gUpper : D → List D → Option D := mS0 fun a => if a.length ≤ 5592405 then some (.str (Txt.upper a)) else none
def gJoin : D → List D → Option D
  | .str a, [.lst ds] => b1 (D.strs? ds) fun ys => if (ys.map (·.length)).sum + ys.length * a.length ≤ 16777216 then some (.str (Txt.join a ys)) else none
  | .str a, [.tup ds] => b1 (D.strs? ds) fun ys => if (ys.map (·.length)).sum + ys.length * a.length ≤ 16777216 then some (.str (Txt.join a ys)) else none
  | _, _ => none
theorem ty_join : ∀ d ds o, gJoin d ds = some o → TyD "str" d := fun d ds o h => by
  cases d with
  | str a => rfl
  | _ => exact nomatch h
theorem pd_split (ho : PE X o (tD X.K f)) (ha : PE X e (tD X.K g)) (hs : starEach [e] X.env = (false, eval e X.env) :: starEach [] X.env := by rfl) (hbase : attributeBase o "split" X.env (eval o X.env) = eval o X.env := by rfl) (hline : (apos.endLine == cpos.line) = true := by rfl)
    (hfew : ((backTo cpos (starEach [e] X.env)).all (fun x => !x.1) && (backToKw cpos (keywordEach [] X.env)).all (fun x => x.1.isSome) && decide ([e].length + ([] : List Keyword).length + (if ([] : List Keyword).isEmpty then 0 else 1) < 30)) = true := by rfl) :
    PE X (.Call (.Attribute o "split" apos) [e] [] cpos) (tD X.K (fM gSplit f (fCons g fNil))) :=
  pd_m PySem.F.plainAttrs_str PySem.F.slot_str_split PySem.F.type_str_split mt_split (fun μ H Hs x xs d ds o Q s rx rs gg k => by
    obtain ⟨a, b, rfl, rfl, g2⟩ := mS1_eq gg
    obtain ⟨⟨h1, h2⟩, rfl⟩ := ite_some g2
    obtain ⟨v, rfl, rv⟩ := rpa1 rs
    cases rx
    cases rv
    exact ⟨a, b, rfl, rfl, h1, h2, fun p hp => k _ _ _ (Ext.made s hp) (.lst upd_same RpA.strs)⟩) ty_S1 ho (pda_cons ha pda_nil hs) hbase hfew hline hs
theorem pd_partition (ho : PE X o (tD X.K f)) (ha : PE X e (tD X.K g)) (hs : starEach [e] X.env = (false, eval e X.env) :: starEach [] X.env := by rfl) (hbase : attributeBase o "partition" X.env (eval o X.env) = eval o X.env := by rfl) (hline : (apos.endLine == cpos.line) = true := by rfl)
    (hfew : ((backTo cpos (starEach [e] X.env)).all (fun x => !x.1) && (backToKw cpos (keywordEach [] X.env)).all (fun x => x.1.isSome) && decide ([e].length + ([] : List Keyword).length + (if ([] : List Keyword).isEmpty then 0 else 1) < 30)) = true := by rfl) :
    PE X (.Call (.Attribute o "partition" apos) [e] [] cpos) (tD X.K (fM gPartition f (fCons g fNil))) :=
  pd_m PySem.F.plainAttrs_str PySem.F.slot_str_partition PySem.F.type_str_partition mt_partition (fun μ H Hs x xs d ds o Q s rx rs gg k => by
    obtain ⟨a, b, rfl, rfl, g2⟩ := mS1_eq gg
    obtain ⟨⟨h1, h2⟩, rfl⟩ := ite_some g2
    obtain ⟨v, rfl, rv⟩ := rpa1 rs
    cases rx
    cases rv
    exact ⟨a, b, rfl, rfl, h1, h2, fun p hp => k _ _ _ (Ext.made s hp) (.tup (SqT.of upd_same) (.cons (.str _) (.cons (.str _) (.cons (.str _) .nil))))⟩) ty_S1 ho (pda_cons ha pda_nil hs) hbase hfew hline hs
theorem pd_starts (ho : PE X o (tD X.K f)) (ha : PE X e (tD X.K g)) (hs : starEach [e] X.env = (false, eval e X.env) :: starEach [] X.env := by rfl) (hbase : attributeBase o "startswith" X.env (eval o X.env) = eval o X.env := by rfl) (hline : (apos.endLine == cpos.line) = true := by rfl)
    (hfew : ((backTo cpos (starEach [e] X.env)).all (fun x => !x.1) && (backToKw cpos (keywordEach [] X.env)).all (fun x => x.1.isSome) && decide ([e].length + ([] : List Keyword).length + (if ([] : List Keyword).isEmpty then 0 else 1) < 30)) = true := by rfl) :
    PE X (.Call (.Attribute o "startswith" apos) [e] [] cpos) (tD X.K (fM gStarts f (fCons g fNil))) :=
  pd_m PySem.F.plainAttrs_str PySem.F.slot_str_startswith PySem.F.type_str_startswith mt_startswith (fun μ H Hs x xs d ds o Q s rx rs gg k => by
    obtain ⟨a, b, rfl, rfl, g2⟩ := mS1_eq gg
    cases g2
    obtain ⟨v, rfl, rv⟩ := rpa1 rs
    cases rx
    cases rv
    exact ⟨a, b, rfl, rfl, k _ _ _ (Ext.refl s) (.bool _)⟩) ty_S1 ho (pda_cons ha pda_nil hs) hbase hfew hline hs
theorem pd_ends (ho : PE X o (tD X.K f)) (ha : PE X e (tD X.K g)) (hs : starEach [e] X.env = (false, eval e X.env) :: starEach [] X.env := by rfl) (hbase : attributeBase o "endswith" X.env (eval o X.env) = eval o X.env := by rfl) (hline : (apos.endLine == cpos.line) = true := by rfl)
    (hfew : ((backTo cpos (starEach [e] X.env)).all (fun x => !x.1) && (backToKw cpos (keywordEach [] X.env)).all (fun x => x.1.isSome) && decide ([e].length + ([] : List Keyword).length + (if ([] : List Keyword).isEmpty then 0 else 1) < 30)) = true := by rfl) :
    PE X (.Call (.Attribute o "endswith" apos) [e] [] cpos) (tD X.K (fM gEnds f (fCons g fNil))) :=
  pd_m PySem.F.plainAttrs_str PySem.F.slot_str_endswith PySem.F.type_str_endswith mt_endswith (fun μ H Hs x xs d ds o Q s rx rs gg k => by
    obtain ⟨a, b, rfl, rfl, g2⟩ := mS1_eq gg
    cases g2
    obtain ⟨v, rfl, rv⟩ := rpa1 rs
    cases rx
    cases rv
    exact ⟨a, b, rfl, rfl, k _ _ _ (Ext.refl s) (.bool _)⟩) ty_S1 ho (pda_cons ha pda_nil hs) hbase hfew hline hs
theorem pd_upper (ho : PE X o (tD X.K f)) (hbase : attributeBase o "upper" X.env (eval o X.env) = eval o X.env := by rfl) (hline : (apos.endLine == cpos.line) = true := by rfl) :
    PE X (.Call (.Attribute o "upper" apos) [] [] cpos) (tD X.K (fM gUpper f fNil)) :=
  pd_m0 PySem.F.plainAttrs_str PySem.F.slot_str_upper PySem.F.type_str_upper mt_upper (fun μ H Hs x xs d ds o Q s rx rs gg k => by
    obtain ⟨a, rfl, rfl, g2⟩ := mS0_eq gg
    obtain ⟨h1, rfl⟩ := ite_some g2
    cases rx
    cases rs
    exact ⟨a, rfl, rfl, h1, k _ _ _ (Ext.refl s) (.str _)⟩) ty_S0 ho hbase hline
theorem pd_join (ho : PE X o (tD X.K f)) (ha : PE X e (tD X.K g)) (hs : starEach [e] X.env = (false, eval e X.env) :: starEach [] X.env := by rfl) (hbase : attributeBase o "join" X.env (eval o X.env) = eval o X.env := by rfl) (hline : (apos.endLine == cpos.line) = true := by rfl)
    (hfew : ((backTo cpos (starEach [e] X.env)).all (fun x => !x.1) && (backToKw cpos (keywordEach [] X.env)).all (fun x => x.1.isSome) && decide ([e].length + ([] : List Keyword).length + (if ([] : List Keyword).isEmpty then 0 else 1) < 30)) = true := by rfl) :
    PE X (.Call (.Attribute o "join" apos) [e] [] cpos) (tD X.K (fM gJoin f (fCons g fNil))) :=
  pd_m PySem.F.plainAttrs_str PySem.F.slot_str_join PySem.F.type_str_join mt_join (fun μ H Hs x xs d ds o Q s rx rs gg k => by
    cases rx with
    | str a =>
      match ds, rs, gg with
      | [d], rs, gg =>
        obtain ⟨v, rfl, rv⟩ := rpa1 rs
        cases rv with
        | lst h1 h2 =>
          obtain ⟨ys, q1, q2⟩ := b1_eq gg
          obtain ⟨hz, rfl⟩ := ite_some q2
          rw [strs_rp h2 q1] at h1
          exact ⟨a, _, ys, rfl, rfl, .inl (SqL.of (s _ _ h1)), hz, k _ _ _ (Ext.refl s) (.str _)⟩
        | tup h1 h2 =>
          obtain ⟨ys, q1, q2⟩ := b1_eq gg
          obtain ⟨hz, rfl⟩ := ite_some q2
          rw [strs_rp h2 q1] at h1
          exact ⟨a, _, ys, rfl, rfl, .inr (sqT_mono s h1), hz, k _ _ _ (Ext.refl s) (.str _)⟩
        | _ => exact nomatch gg
      | [], _, gg => exact nomatch gg
      | .lst _ :: _ :: _, _, gg => exact nomatch gg
      | .tup _ :: _ :: _, _, gg => exact nomatch gg
      | .non :: _ :: _, _, gg => exact nomatch gg
      | .bool _ :: _ :: _, _, gg => exact nomatch gg
      | .int _ :: _ :: _, _, gg => exact nomatch gg
      | .str _ :: _ :: _, _, gg => exact nomatch gg
      | .scr _ :: _ :: _, _, gg => exact nomatch gg
      | .loc _ :: _ :: _, _, gg => exact nomatch gg
    | _ => exact nomatch gg) ty_join ho (pda_cons ha pda_nil hs) hbase hfew hline hs
end

/-! ### walks -/
structure Wk (K : PySem.W.Frag) (μ : List Addr) (J : It) (ds : List D) (Hs : Hp) : Prop where
  go : ∀ i H, Same Hs H → i < ds.length → J.go i H
  stop : ∀ i H, Same Hs H → ds.length ≤ i → J.stop i H
  yld : ∀ i H Hs1 x H', Same Hs Hs1 → Same Hs1 H → J.yld i H x H' → ∀ d, ds[i]? = some d → ∃ Hs', Ext Hs1 H Hs' H' ∧ Rp K μ Hs' x d
theorem Wk.mono {K : PySem.W.Frag} {μ : List Addr} {J : It} {ds : List D} {Hs Hs' : Hp} (e : Same Hs Hs') (w : Wk K μ J ds Hs) : Wk K μ J ds Hs' :=
  ⟨fun i H s => w.go i H (e.trans s), fun i H s => w.stop i H (e.trans s), fun i H Hs1 x H' s1 => w.yld i H Hs1 x H' (e.trans s1)⟩
def tDI (K : PySem.W.Frag) (f : Fs) : TI := fun σ H R => ∃ (μ : List Addr) (Hs : Hp) (ρ : Rho) (ds : List D), Same Hs H ∧ VEnv K μ Hs σ ρ ∧ f ρ = some ds ∧ ∀ J H' Hs', Ext Hs H Hs' H' → Wk K μ J ds Hs' → R J H'
theorem pi_imp {X : Cx} {tg e : Expr} {t t' : TI} (h : PI X tg e t) (i : ∀ σ H Q, t' σ H Q → t σ H Q) : PI X tg e t' := ⟨fun pins s σ H Q I q => h.run pins s σ H Q I (i _ _ _ q)⟩
def itL : D → Option (List D)
  | .lst ds => some ds
  | .scr ns => some (ns.map D.int)
  | _ => none
def itT : D → Option (List D)
  | .tup ds => some ds
  | _ => none
def itS : D → Option (List D)
  | .str z => some (z.cps.toList.map fun c => .str ⟨#[c]⟩)
  | _ => none
def fI (G : D → Option (List D)) (f : F) : Fs := fun ρ => b1 (f ρ) G
theorem wk_list {K : PySem.W.Frag} {μ : List Addr} {Hs : Hp} {a : Addr} {xs : List V} {ds : List D} (h : SqL K Hs a xs) (r : RpA K μ Hs xs ds) : Wk K μ (Itl K a) ds Hs := by
  refine ⟨fun i H s hi => ?_, fun i H s hi => ⟨xs, s.seq h, by rw [r.len]; exact hi⟩, fun i H Hs1 x H' s1 s hy d hd => ?_⟩
  · have hl : i < xs.length := by rw [r.len]; exact hi
    exact ⟨xs, xs[i], s.seq h, by simp [hl]⟩
  · obtain ⟨rfl, hy⟩ := hy
    obtain ⟨v, e1, r1⟩ := r.getD hd
    have e2 := hy xs ((s1.trans s).seq h)
    rw [e1] at e2
    cases e2
    exact ⟨Hs1, Ext.refl s, r1.mono s1⟩
theorem wk_tup {K : PySem.W.Frag} {μ : List Addr} {Hs : Hp} {a : Addr} {xs : List V} {ds : List D} (h : SqT K Hs a xs) (r : RpA K μ Hs xs ds) : Wk K μ (Itt K a) ds Hs := by
  refine ⟨fun i H s hi => ?_, fun i H s hi => ⟨xs, sqT_mono s h, by rw [r.len]; exact hi⟩, fun i H Hs1 x H' s1 s hy d hd => ?_⟩
  · have hl : i < xs.length := by rw [r.len]; exact hi
    exact ⟨xs, xs[i], sqT_mono s h, by simp [hl]⟩
  · obtain ⟨rfl, hy⟩ := hy
    obtain ⟨v, e1, r1⟩ := r.getD hd
    have e2 := hy xs (sqT_mono (s1.trans s) h)
    rw [e1] at e2
    cases e2
    exact ⟨Hs1, Ext.refl s, r1.mono s1⟩
theorem wk_str {K : PySem.W.Frag} {μ : List Addr} {Hs : Hp} {z : Str} : Wk K μ (Its z) (z.cps.toList.map fun c => .str ⟨#[c]⟩) Hs := by
  refine ⟨fun i H s hi => ?_, fun i H s hi => ?_, fun i H Hs1 x H' s1 s hy d hd => ?_⟩
  · show i < z.cps.size
    simpa using hi
  · show z.cps.size ≤ i
    simpa using hi
  · obtain ⟨rfl, c, e1, rfl⟩ := hy
    have e2 : z.cps.toList[i]? = some c := by simpa using e1
    rw [List.getElem?_map, e2] at hd
    cases hd
    exact ⟨Hs1, Ext.refl s, .str _⟩
def rngD (lo : Int) (n : Nat) : List D := (List.range n).map fun k => .int (lo + (k : Nat))
theorem wk_range {K : PySem.W.Frag} {μ : List Addr} {Hs : Hp} {lo : Int} {n : Nat} : Wk K μ (Itr lo n) (rngD lo n) Hs := by
  refine ⟨fun i H s hi => ?_, fun i H s hi => ?_, fun i H Hs1 x H' s1 s hy d hd => ?_⟩
  · show i < n
    simpa [rngD] using hi
  · show n ≤ i
    simpa [rngD] using hi
  · obtain ⟨rfl, rfl⟩ := hy
    unfold rngD at hd
    rw [List.getElem?_map] at hd
    by_cases hi : i < n
    · rw [List.getElem?_range hi] at hd
      cases hd
      exact ⟨Hs1, Ext.refl s, .int _⟩
    · rw [List.getElem?_eq_none (by simpa using hi)] at hd
      cases hd
section
variable {X : Cx} {tg e a b c o : Expr} {es : List Expr} {f g h : F} {fs : Fs} {pos p p2 apos cpos tpos : Pos}
theorem pdi_list (he : PE X e (tD X.K f)) : PI X tg e (tDI X.K (fI itL f)) := by
  refine pi_imp (pi_list he) fun σ H R ⟨μ, Hs, ρ, ds, s, env, e, k⟩ => ?_
  obtain ⟨d1, e1, e2⟩ := b1_eq e
  refine ⟨μ, Hs, ρ, d1, s, env, e1, fun v H1 Hs1 x1 r1 => ?_⟩
  cases r1 with
  | lst h1 h2 => cases e2; exact ⟨_, rfl, ⟨_, SqL.of (x1.sub _ _ h1)⟩, k _ _ Hs1 x1 (wk_list (SqL.of h1) h2)⟩
  | scr h1 => cases e2; exact ⟨_, rfl, ⟨_, x1.sub.seq h1⟩, k _ _ Hs1 x1 (wk_list h1 RpA.ints)⟩
  | _ => exact nomatch e2
theorem pdi_tup (he : PE X e (tD X.K f)) : PI X tg e (tDI X.K (fI itT f)) := by
  refine pi_imp (pi_tup he) fun σ H R ⟨μ, Hs, ρ, ds, s, env, e, k⟩ => ?_
  obtain ⟨d1, e1, e2⟩ := b1_eq e
  refine ⟨μ, Hs, ρ, d1, s, env, e1, fun v H1 Hs1 x1 r1 => ?_⟩
  cases r1 with
  | tup h1 h2 => cases e2; exact ⟨_, rfl, ⟨_, sqT_mono x1.sub h1⟩, k _ _ Hs1 x1 (wk_tup h1 h2)⟩
  | _ => exact nomatch e2
theorem pdi_str (he : PE X e (tD X.K f)) : PI X tg e (tDI X.K (fI itS f)) := by
  refine pi_imp (pi_str he) fun σ H R ⟨μ, Hs, ρ, ds, s, env, e, k⟩ => ?_
  obtain ⟨d1, e1, e2⟩ := b1_eq e
  refine ⟨μ, Hs, ρ, d1, s, env, e1, fun v H1 Hs1 x1 r1 => ?_⟩
  cases r1 with
  | str z => cases e2; exact ⟨_, rfl, k _ _ Hs1 x1 wk_str⟩
  | _ => exact nomatch e2
theorem ite_someI {c : Prop} {inst : Decidable c} {α : Type} {x y : α} (h : @ite _ c inst (some x) none = some y) : c ∧ x = y := by
  by_cases hc : c
  · rw [if_pos hc] at h; cases h; exact ⟨hc, rfl⟩
  · rw [if_neg hc] at h; cases h
@[irreducible] def decR (j : Int) : Decidable (-(2 ^ 62) ≤ j ∧ j < 2 ^ 62) := inferInstance
@[irreducible] def decR2 (i j : Int) : Decidable (-(2 ^ 62) ≤ i ∧ i < 2 ^ 62 ∧ -(2 ^ 62) ≤ j ∧ j < 2 ^ 62) := inferInstance
/-- range(n), range(a, b) -/
def itR1 : List D → Option (List D)
  | [.int j] => @ite _ (-(2 ^ 62) ≤ j ∧ j < 2 ^ 62) (decR j) (some (rngD 0 j.toNat)) none
  | _ => none
def itR2 : List D → Option (List D)
  | [.int i, .int j] => @ite _ (-(2 ^ 62) ≤ i ∧ i < 2 ^ 62 ∧ -(2 ^ 62) ≤ j ∧ j < 2 ^ 62) (decR2 i j) (some (rngD i (j - i).toNat)) none
  | _ => none
def fIs (G : List D → Option (List D)) (f : Fs) : Fs := fun ρ => b1 (f ρ) G
theorem pdi_range1 (hm : X.mg "range" = none) (ha : PA X [a] (tDs X.K fs)) (hg : Gl X "range" := by rfl) (hs : starEach [a] X.env = [(false, eval a X.env)] := by rfl) : PI X tg (.Call (.Name "range" p) [a] [] pos) (tDI X.K (fIs itR1 fs)) := by
  refine pi_imp (pi_range1 hg hm ha hs) fun σ H R ⟨μ, Hs, ρ, ds, s, env, e, k⟩ => ?_
  obtain ⟨d1, e1, e2⟩ := b1_eq e
  refine ⟨μ, Hs, ρ, d1, s, env, e1, fun vs H1 Hs1 x1 r1 => ?_⟩
  match d1, r1, e2 with
  | [.int j], r1, e2 =>
    obtain ⟨v, rfl, rv⟩ := rpa1 r1
    cases rv
    obtain ⟨hz, rfl⟩ := ite_someI e2
    exact ⟨j, rfl, hz.1, hz.2, k _ _ Hs1 x1 wk_range⟩
  | [], _, e2 => exact nomatch e2
  | [.non], _, e2 => exact nomatch e2
  | [.bool _], _, e2 => exact nomatch e2
  | [.str _], _, e2 => exact nomatch e2
  | [.lst _], _, e2 => exact nomatch e2
  | [.tup _], _, e2 => exact nomatch e2
  | [.scr _], _, e2 => exact nomatch e2
  | [.loc _], _, e2 => exact nomatch e2
  | _ :: _ :: _, _, e2 => exact absurd e2 (by unfold itR1; intro q; split at q <;> simp_all)
theorem itR2_eq {ds o : List D} (h : itR2 ds = some o) : ∃ i j, ds = [.int i, .int j] ∧ (-(2 ^ 62) ≤ i ∧ i < 2 ^ 62 ∧ -(2 ^ 62) ≤ j ∧ j < 2 ^ 62) ∧ rngD i (j - i).toNat = o := by
  unfold itR2 at h
  split at h
  · rename_i i j
    obtain ⟨h1, h2⟩ := ite_someI h
    exact ⟨i, j, rfl, h1, h2⟩
  · cases h
theorem pdi_range2 (hm : X.mg "range" = none) (ha : PA X [a, b] (tDs X.K fs)) (hg : Gl X "range" := by rfl) (hs : starEach [a, b] X.env = [(false, eval a X.env), (false, eval b X.env)] := by rfl) (hs2 : starEach [b] X.env = [(false, eval b X.env)] := by rfl) : PI X tg (.Call (.Name "range" p) [a, b] [] pos) (tDI X.K (fIs itR2 fs)) := by
  refine pi_imp (pi_range2 hg hm ha hs hs2) fun σ H R ⟨μ, Hs, ρ, ds, s, env, e, k⟩ => ?_
  obtain ⟨d1, e1, e2⟩ := b1_eq e
  refine ⟨μ, Hs, ρ, d1, s, env, e1, fun vs H1 Hs1 x1 r1 => ?_⟩
  obtain ⟨i, j, rfl, hz, rfl⟩ := itR2_eq e2
  obtain ⟨v, u, rfl, rv, ru⟩ := rpa2 r1
  cases rv
  cases ru
  exact ⟨i, j, rfl, hz, k _ _ Hs1 x1 wk_range⟩
/-- zip of two lists -/
def D.zipD : List D → List D → List D
  | d :: ds, e :: es => .tup [d, e] :: D.zipD ds es
  | _, _ => []
theorem zipD_len : ∀ (ds es : List D), (D.zipD ds es).length = min ds.length es.length
  | [], _ => by simp [D.zipD]
  | _ :: _, [] => by simp [D.zipD]
  | d :: ds, e :: es => by simp only [D.zipD, List.length_cons, zipD_len ds es]; omega
theorem zipD_get : ∀ (ds es : List D) (i : Nat) (d : D), (D.zipD ds es)[i]? = some d → ∃ d1 d2, ds[i]? = some d1 ∧ es[i]? = some d2 ∧ d = .tup [d1, d2]
  | [], _, _, _, h => by simp [D.zipD] at h
  | _ :: _, [], _, _, h => by simp [D.zipD] at h
  | d :: ds, e :: es, 0, x, h => by
    simp only [D.zipD, List.getElem?_cons_zero, Option.some.injEq] at h
    exact ⟨d, e, rfl, rfl, h.symm⟩
  | d :: ds, e :: es, i + 1, x, h => by
    simp only [D.zipD, List.getElem?_cons_succ] at h
    obtain ⟨d1, d2, a, b, c⟩ := zipD_get ds es i x h
    exact ⟨d1, d2, by simpa using a, by simpa using b, c⟩
def itZ : List D → Option (List D)
  | [.lst ds, .lst es] => some (D.zipD ds es)
  | _ => none
theorem wk_zip {K : PySem.W.Frag} {μ : List Addr} {Hs : Hp} {a b : Addr} {xs ys : List V} {ds es : List D} (h : SqL K Hs a xs) (r : RpA K μ Hs xs ds) (h2 : SqL K Hs b ys) (r2 : RpA K μ Hs ys es) : Wk K μ (Itz K a b) (D.zipD ds es) Hs := by
  refine ⟨fun i H s hi => ?_, fun i H s hi => ?_, fun i H Hs1 x H' s1 s hy d hd => ?_⟩
  · rw [zipD_len] at hi
    have hl : i < xs.length := by rw [r.len]; omega
    have hl2 : i < ys.length := by rw [r2.len]; omega
    exact ⟨xs, ys, xs[i], ys[i], s.seq h, s.seq h2, by simp [hl], by simp [hl2]⟩
  · rw [zipD_len] at hi
    refine ⟨xs, ys, s.seq h, s.seq h2, ?_⟩
    rw [r.len, r2.len]
    omega
  · obtain ⟨T, x1, x2, rfl, hT, rfl, g1, g2⟩ := hy
    obtain ⟨d1, d2, e1, e2, rfl⟩ := zipD_get _ _ _ _ hd
    obtain ⟨v1, f1, q1⟩ := r.getD e1
    obtain ⟨v2, f2, q2⟩ := r2.getD e2
    have z1 := g1 xs ((s1.trans s).seq h)
    have z2 := g2 ys ((s1.trans s).seq h2)
    rw [f1] at z1
    rw [f2] at z2
    cases z1
    cases z2
    exact ⟨_, Ext.made s hT, .tup (SqT.of upd_same) (.cons (q1.mono (s1.trans (Ext.made s hT).part)) (.cons (q2.mono (s1.trans (Ext.made s hT).part)) .nil))⟩
theorem pdi_zip {elts : List Expr} {kk : Nat} (hm : X.mg "zip" = none) (ha : PA X [a, b] (tDs X.K fs)) (hg : Gl X "zip" := by rfl) (hs : starEach [a, b] X.env = (false, eval a X.env) :: starEach [b] X.env := by rfl) (hpl : (backTo pos (starEach [b] X.env)).any (·.1) = false := by rfl) :
    PI X (.Tuple elts kk tpos) (.Call (.Name "zip" p) [a, b] [] pos) (tDI X.K (fIs itZ fs)) := by
  refine pi_imp (pi_zip hg hm ha hs hpl) fun σ H R ⟨μ, Hs, ρ, ds, s, env, e, k⟩ => ?_
  obtain ⟨d1, e1, e2⟩ := b1_eq e
  refine ⟨μ, Hs, ρ, d1, s, env, e1, fun vs H1 Hs1 x1 r1 => ?_⟩
  unfold itZ at e2
  split at e2
  · cases e2
    obtain ⟨v, u, rfl, rv, ru⟩ := rpa2 r1
    cases rv with
    | lst h1 h2 =>
      cases ru with
      | lst h3 h4 => exact ⟨_, _, _, _, rfl, SqL.of (x1.sub _ _ h1), SqL.of (x1.sub _ _ h3), k _ _ Hs1 x1 (wk_zip (SqL.of h1) h2 (SqL.of h3) h4)⟩
  · cases e2
/-- enumerate of a list -/
def D.enumD : Nat → List D → List D
  | _, [] => []
  | i, d :: ds => .tup [.int (i : Nat), d] :: D.enumD (i + 1) ds
theorem enumD_len : ∀ (k : Nat) (ds : List D), (D.enumD k ds).length = ds.length
  | _, [] => rfl
  | k, d :: ds => by simp only [D.enumD, List.length_cons, enumD_len (k + 1) ds]
theorem enumD_get : ∀ (k : Nat) (ds : List D) (i : Nat) (d : D), (D.enumD k ds)[i]? = some d → ∃ d1, ds[i]? = some d1 ∧ d = .tup [.int ((k + i : Nat) : Int), d1]
  | _, [], _, _, h => by simp [D.enumD] at h
  | k, d :: ds, 0, x, h => by
    simp only [D.enumD, List.getElem?_cons_zero, Option.some.injEq] at h
    exact ⟨d, rfl, h.symm⟩
  | k, d :: ds, i + 1, x, h => by
    simp only [D.enumD, List.getElem?_cons_succ] at h
    obtain ⟨d1, a, b⟩ := enumD_get (k + 1) ds i x h
    refine ⟨d1, by simpa using a, ?_⟩
    rw [b, show k + 1 + i = k + (i + 1) by omega]
def itE : List D → Option (List D)
  | [.lst ds] => some (D.enumD 0 ds)
  | _ => none
theorem wk_enum {K : PySem.W.Frag} {μ : List Addr} {Hs : Hp} {a : Addr} {xs : List V} {ds : List D} (h : SqL K Hs a xs) (r : RpA K μ Hs xs ds) : Wk K μ (Ite K a) (D.enumD 0 ds) Hs := by
  refine ⟨fun i H s hi => ?_, fun i H s hi => ?_, fun i H Hs1 x H' s1 s hy d hd => ?_⟩
  · rw [enumD_len] at hi
    have hl : i < xs.length := by rw [r.len]; omega
    exact ⟨xs, xs[i], s.seq h, by simp [hl]⟩
  · rw [enumD_len] at hi
    exact ⟨xs, s.seq h, by rw [r.len]; exact hi⟩
  · obtain ⟨T, x1, rfl, hT, rfl, g1⟩ := hy
    obtain ⟨d1, e1, rfl⟩ := enumD_get _ _ _ _ hd
    obtain ⟨v1, f1, q1⟩ := r.getD e1
    have z1 := g1 xs ((s1.trans s).seq h)
    rw [f1] at z1
    cases z1
    refine ⟨_, Ext.made s hT, .tup (SqT.of upd_same) (.cons ?_ (.cons (q1.mono (s1.trans (Ext.made s hT).part)) .nil))⟩
    rw [Nat.zero_add]
    exact .int _
theorem pdi_enum {elts : List Expr} {kk : Nat} (hm : X.mg "enumerate" = none) (ha : PA X [a] (tDs X.K fs)) (hg : Gl X "enumerate" := by rfl) (hs : starEach [a] X.env = [(false, eval a X.env)] := by rfl) :
    PI X (.Tuple elts kk tpos) (.Call (.Name "enumerate" p) [a] [] pos) (tDI X.K (fIs itE fs)) := by
  refine pi_imp (pi_enum hg hm ha hs) fun σ H R ⟨μ, Hs, ρ, ds, s, env, e, k⟩ => ?_
  obtain ⟨d1, e1, e2⟩ := b1_eq e
  refine ⟨μ, Hs, ρ, d1, s, env, e1, fun vs H1 Hs1 x1 r1 => ?_⟩
  unfold itE at e2
  split at e2
  · cases e2
    obtain ⟨v, rfl, rv⟩ := rpa1 r1
    cases rv with
    | lst h1 h2 => exact ⟨_, _, rfl, SqL.of (x1.sub _ _ h1), k _ _ Hs1 x1 (wk_enum (SqL.of h1) h2)⟩
  · cases e2
end

/-! ### targets -/
structure TgD (K : PySem.W.Frag) (g : TG) (set : D → Rho → Option Rho) (vs : List Nat) : Prop where
  run : ∀ μ Hs H σ ρ d ρ' v (k : St → Hp → Prop), Same Hs H → VEnv K μ Hs σ ρ → set d ρ = some ρ' → Rp K μ Hs v d → (∀ σ', VEnv K μ Hs σ' ρ' → σ'.length = σ.length → (∀ i, i ∉ vs → σ'[i]? = σ[i]?) → k σ' H) → g v σ H k
  keep : ∀ d ρ ρ', set d ρ = some ρ' → ∀ i, i ∉ vs → ρ'[i]? = ρ[i]?
  put : ∀ d ρ ρ', set d ρ = some ρ' → ∀ (i : Nat) (x : Sl), i ∈ vs → ρ'[i]? = some x → (∃ d', x = .val d') ∨ ρ[i]? = some x
def st1 (i : Nat) : D → Rho → Option Rho := fun d ρ => some (ρ.set i (.val d))
def st2 (i j : Nat) : D → Rho → Option Rho := fun d ρ => match d with
  | .tup [d1, d2] => some ((ρ.set i (.val d1)).set j (.val d2))
  | _ => none
def st3 (i j k : Nat) : D → Rho → Option Rho := fun d ρ => match d with
  | .tup [d1, d2, d3] => some (((ρ.set i (.val d1)).set j (.val d2)).set k (.val d3))
  | _ => none
theorem get_set_ne' {α : Type} {l : List α} {i j : Nat} {a : α} (h : i ≠ j) : (l.set j a)[i]? = l[i]? := List.getElem?_set_ne (Ne.symm h)
theorem get_set_val {ρ : Rho} {i j : Nat} {d : D} {x : Sl} (h : (ρ.set j (.val d))[i]? = some x) : (∃ d', x = .val d') ∨ ρ[i]? = some x := by
  by_cases hij : i = j
  · subst hij
    by_cases hl : i < ρ.length
    · rw [List.getElem?_set_self hl] at h
      cases h
      exact .inl ⟨d, rfl⟩
    · rw [List.getElem?_eq_none (by simpa using hl)] at h
      cases h
  · rw [get_set_ne' hij] at h
    exact .inr h
theorem tg_1 {K : PySem.W.Frag} (i : Nat) : TgD K (gName i) (st1 i) [i] := by
  refine ⟨fun μ Hs H σ ρ d ρ' v k s env e r kk => ?_, fun d ρ ρ' e j hj => ?_, fun d ρ ρ' e j x hj hx => ?_⟩
  · cases e
    exact kk _ (paired_set ⟨v, rfl, r⟩ i env) (by simp) fun j hj => get_set_ne' (by simpa using hj)
  · cases e
    exact get_set_ne' (by simpa using hj)
  · cases e
    exact get_set_val hx
theorem tg_2 {K : PySem.W.Frag} (i j : Nat) : TgD K (gTup K 2 (gCons (gName i) (gCons (gName j) gNil))) (st2 i j) [i, j] := by
  refine ⟨fun μ Hs H σ ρ d ρ' v k s env e r kk => ?_, fun d ρ ρ' e m hm => ?_, fun d ρ ρ' e m x hm hx => ?_⟩
  · unfold st2 at e
    split at e
    · cases e
      cases r with
      | tup h1 h2 =>
        obtain ⟨v1, v2, rfl, r1, r2⟩ := rpa2 h2
        refine ⟨_, _, rfl, sqT_mono s h1, rfl, v1, [v2], rfl, v2, [], rfl, rfl, ?_⟩
        refine kk _ (paired_set ⟨v2, rfl, r2⟩ j (paired_set ⟨v1, rfl, r1⟩ i env)) (by simp) fun m hm => ?_
        have hm' : m ≠ i ∧ m ≠ j := by simpa using hm
        rw [get_set_ne' hm'.2, get_set_ne' hm'.1]
    · cases e
  · unfold st2 at e
    split at e
    · cases e
      have hm' : m ≠ i ∧ m ≠ j := by simpa using hm
      rw [get_set_ne' hm'.2, get_set_ne' hm'.1]
    · cases e
  · unfold st2 at e
    split at e
    · cases e
      rcases get_set_val hx with h | h
      · exact .inl h
      · exact get_set_val h
    · cases e
theorem rpa3 {K : PySem.W.Frag} {μ : List Addr} {H : Hp} {vs : List V} {d e c : D} (r : RpA K μ H vs [d, e, c]) : ∃ v u w, vs = [v, u, w] ∧ Rp K μ H v d ∧ Rp K μ H u e ∧ Rp K μ H w c := by
  cases r with
  | cons h t =>
    obtain ⟨u, w, rfl, h2, h3⟩ := rpa2 t
    exact ⟨_, _, _, rfl, h, h2, h3⟩
theorem tg_3 {K : PySem.W.Frag} (i j l : Nat) : TgD K (gTup K 3 (gCons (gName i) (gCons (gName j) (gCons (gName l) gNil)))) (st3 i j l) [i, j, l] := by
  refine ⟨fun μ Hs H σ ρ d ρ' v k s env e r kk => ?_, fun d ρ ρ' e m hm => ?_, fun d ρ ρ' e m x hm hx => ?_⟩
  · unfold st3 at e
    split at e
    · cases e
      cases r with
      | tup h1 h2 =>
        obtain ⟨v1, v2, v3, rfl, r1, r2, r3⟩ := rpa3 h2
        refine ⟨_, _, rfl, sqT_mono s h1, rfl, v1, [v2, v3], rfl, v2, [v3], rfl, v3, [], rfl, rfl, ?_⟩
        refine kk _ (paired_set ⟨v3, rfl, r3⟩ l (paired_set ⟨v2, rfl, r2⟩ j (paired_set ⟨v1, rfl, r1⟩ i env))) (by simp) fun m hm => ?_
        have hm' : m ≠ i ∧ m ≠ j ∧ m ≠ l := by simpa using hm
        rw [get_set_ne' hm'.2.2, get_set_ne' hm'.2.1, get_set_ne' hm'.1]
    · cases e
  · unfold st3 at e
    split at e
    · cases e
      have hm' : m ≠ i ∧ m ≠ j ∧ m ≠ l := by simpa using hm
      rw [get_set_ne' hm'.2.2, get_set_ne' hm'.2.1, get_set_ne' hm'.1]
    · cases e
  · unfold st3 at e
    split at e
    · cases e
      rcases get_set_val hx with h | h
      · exact .inl h
      · rcases get_set_val h with h | h
        · exact .inl h
        · exact get_set_val h
    · cases e
/-! ### comprehensions -/
def wipeR (ρ : Rho) : List Nat → Rho
  | [] => ρ
  | v :: vs => (wipeR ρ vs).set v .junk
theorem wipe_env {K : PySem.W.Frag} {μ : List Addr} {H : Hp} {σ : St} {ρ : Rho} (e : VEnv K μ H σ ρ) : ∀ vs, VEnv K μ H (wipe σ vs) (wipeR ρ vs)
  | [] => e
  | v :: vs => paired_set trivial v (wipe_env e vs)
theorem wipe_get (σ : St) : ∀ (vs : List Nat) (i : Nat), (wipe σ vs)[i]? = if i ∈ vs then (σ[i]?).map (fun _ => none) else σ[i]?
  | [], i => by simp [wipe]
  | v :: vs, i => by
    have ih := wipe_get σ vs i
    show ((wipe σ vs).set v none)[i]? = _
    by_cases hiv : i = v
    · subst hiv
      rw [if_pos (by simp)]
      by_cases hl : i < σ.length
      · rw [List.getElem?_set_self (by rw [wipe_length]; exact hl), List.getElem?_eq_getElem hl]
        rfl
      · rw [List.getElem?_eq_none (by simpa [wipe_length] using hl), List.getElem?_eq_none (by simpa using hl)]
        rfl
    · rw [get_set_ne' hiv, ih]
      by_cases hm : i ∈ vs
      · rw [if_pos hm, if_pos (by simp [hm])]
      · rw [if_neg hm, if_neg (by simp [hm, hiv])]
theorem wipe_congr {σ σ' : St} {vs : List Nat} (hl : σ'.length = σ.length) (h : ∀ i, i ∉ vs → σ'[i]? = σ[i]?) : wipe σ' vs = wipe σ vs := by
  refine List.ext_getElem? fun i => ?_
  rw [wipe_get, wipe_get]
  by_cases hm : i ∈ vs
  · rw [if_pos hm, if_pos hm]
    by_cases hi : i < σ.length
    · rw [List.getElem?_eq_getElem hi, List.getElem?_eq_getElem (by omega)]
      rfl
    · rw [List.getElem?_eq_none (by omega), List.getElem?_eq_none (by omega)]
  · rw [if_neg hm, if_neg hm, h i hm]
theorem wipe_idem (σ : St) (vs : List Nat) : wipe (wipe σ vs) vs = wipe σ vs := by
  refine List.ext_getElem? fun i => ?_
  rw [wipe_get]
  by_cases hm : i ∈ vs
  · rw [if_pos hm, wipe_get, if_pos hm]
    cases σ[i]? <;> rfl
  · rw [if_neg hm]
/-- the items kept, their values -/
def lcGo (set : D → Rho → Option Rho) (ft : Ft) (fe : F) (ρ : Rho) : List D → Option (List D)
  | [] => some []
  | d :: ds => b1 (set d ρ) fun ρ' => b1 (ft ρ') fun b => if b = true then b1 (fe ρ') fun y => b1 (lcGo set ft fe ρ ds) fun ys => some (y :: ys) else lcGo set ft fe ρ ds
def fLc (fi : Fs) (set : D → Rho → Option Rho) (ft : Ft) (fe : F) (vs : List Nat) : F := fun ρ => b1 (fi ρ) fun ds => if ds.length ≤ 1000000 then b1 (lcGo set ft fe (wipeR ρ vs) ds) fun ys => some (.lst ys) else none
def ftYes : Ft := fun _ => some true
theorem tYes_D {K : PySem.W.Frag} : ∀ σ H Q, tDT K ftYes σ H Q → tYes σ H Q := fun σ H Q ⟨μ, Hs, ρ, b, s, env, e, k⟩ => by cases e; exact k H (Same.refl _)
theorem lc_read {K : PySem.W.Frag} {fi : Fs} {wi : TI} {g : TG} {tt : TT} {te : TE} {set : D → Rho → Option Rho} {ft : Ft} {fe : F} {vs : List Nat} (hi : ∀ σ H R, tDI K fi σ H R → wi σ H R) (hg : TgD K g set vs) (ht : ∀ σ H Q, tDT K ft σ H Q → tt σ H Q) (he : ∀ σ H Q, tD K fe σ H Q → te σ H Q) :
    ∀ σ H Q, tD K (fLc fi set ft fe vs) σ H Q → tLc wi g tt te vs σ H Q := by
  rintro σ H Q ⟨μ, Hs, ρ, d, s, env, e, k⟩
  obtain ⟨ds, e1, e2⟩ := b1_eq e
  have e2' : (if ds.length ≤ 1000000 then b1 (lcGo set ft fe (wipeR ρ vs) ds) fun ys => some (D.lst ys) else none) = some d := e2
  by_cases hz : ds.length ≤ 1000000
  · rw [if_pos hz] at e2'
    obtain ⟨ys, e3, e4⟩ := b1_eq e2'
    cases e4
    refine hi _ _ _ ⟨μ, Hs, ρ, ds, s, env, e1, fun J H1 Hs1 x1 wk D0 hD => ?_⟩
    have hDs : Hs1 D0 = none := x1.sub.free hD
    refine ⟨fun i m H2 => m = ds.length - i ∧ i ≤ ds.length ∧ ∃ Hs2 acc accD rest, Same Hs1 Hs2 ∧ Same Hs2 H2 ∧ Same H1 H2 ∧ (∀ a o, Hs2 a = some o → Hs1 a = some o ∨ H1 a = none) ∧ Hs2 D0 = none ∧ H2 D0 = some (.lst acc) ∧ RpA K μ Hs2 acc accD ∧ acc.length ≤ i ∧
      lcGo set ft fe (wipeR ρ vs) (ds.drop i) = some rest ∧ accD ++ rest = ys, ⟨_, rfl, Nat.zero_le _, Hs1, [], [], ys, Same.refl _, x1.sub.trans (Ext.made (Same.refl H1) hD).all, (Ext.made (Same.refl H1) hD).all, fun _ _ h => .inl h, hDs, upd_same, .nil, Nat.zero_le _, by simpa using e3, rfl⟩, ?_⟩
    rintro i m H2 ⟨rfl, hi2, Hs2, acc, accD, rest, s1, s2, s3, nw, d2, d1, ra, hl, eg, ea⟩
    by_cases hlt : i < ds.length
    · obtain ⟨d0, hd0⟩ : ∃ d0, ds[i]? = some d0 := ⟨ds[i], by simp [hlt]⟩
      have hdrop : ds.drop i = d0 :: ds.drop (i + 1) := by
        rw [List.drop_eq_getElem_cons hlt]
        rw [List.getElem?_eq_getElem hlt] at hd0
        cases hd0
        rfl
      rw [hdrop] at eg
      obtain ⟨ρ', g1, g2⟩ := b1_eq eg
      obtain ⟨b, g3, g4⟩ := b1_eq g2
      refine .inr ⟨wk.go i H2 (s1.trans s2) hlt, fun H3 => ∃ Hs2 acc accD rest, Same Hs1 Hs2 ∧ Same Hs2 H3 ∧ Same H1 H3 ∧ (∀ a o, Hs2 a = some o → Hs1 a = some o ∨ H1 a = none) ∧ Hs2 D0 = none ∧ H3 D0 = some (.lst acc) ∧ RpA K μ Hs2 acc accD ∧ acc.length ≤ i + 1 ∧
        lcGo set ft fe (wipeR ρ vs) (ds.drop (i + 1)) = some rest ∧ accD ++ rest = ys, fun H' hN => ⟨_, by omega, rfl, hlt, hN⟩, fun x H3 hy => ?_⟩
      obtain ⟨Hs3, x3, r3⟩ := wk.yld i H2 Hs2 x H3 s1 s2 hy d0 hd0
      have envw := wipe_env (env.mono (x1.part.trans (s1.trans x3.part))) vs
      have d3 : H3 D0 = some (.lst acc) := x3.all _ _ d1
      have ds3 : Hs3 D0 = none := by
        cases q : Hs3 D0 with
        | none => rfl
        | some o =>
          rcases x3.new _ _ q with h | h
          · rw [d2] at h; cases h
          · rw [d1] at h; cases h
      have nw3 : ∀ a o, Hs3 a = some o → Hs1 a = some o ∨ H1 a = none := fun a o h => by
        rcases x3.new a o h with h1 | h1
        · exact nw a o h1
        · exact .inr (s3.free h1)
      refine hg.run _ Hs3 H3 _ _ d0 ρ' x _ x3.sub envw g1 r3 fun σ' env' hlen hkeep => ⟨by rw [wipe_congr hlen hkeep]; exact wipe_idem _ _, ?_⟩
      refine ht _ _ _ ⟨μ, Hs3, ρ', b, x3.sub, env', g3, fun H4 s4 => ?_⟩
      cases b with
      | true =>
        rw [if_pos rfl] at g4
        obtain ⟨y, g5, g6⟩ := b1_eq g4
        obtain ⟨ys', g7, g8⟩ := b1_eq g6
        cases g8
        refine iteT (he _ _ _ ⟨μ, Hs3, ρ', y, x3.sub.trans s4, env', g5, fun v H5 Hs5 x5 r5 => ?_⟩)
        have d5 : H5 D0 = some (.lst acc) := x5.all _ _ (s4 _ _ d3)
        have ds5 : Hs5 D0 = none := by
          cases q : Hs5 D0 with
          | none => rfl
          | some o =>
            rcases x5.new _ _ q with h | h
            · rw [ds3] at h; cases h
            · rw [s4 _ _ d3] at h; cases h
        have nosub : ∀ (A B : Hp) (o' : HO), A D0 = none → Same A B → Same A (upd B D0 o') := fun A B o' hA hs b u hb => by
          rw [upd_ne (fun z => by subst z; rw [hA] at hb; cases hb)]
          exact hs b u hb
        refine ⟨acc, d5, by rw [sizeLine_eq]; omega, Hs5, acc ++ [v], accD ++ [y], ys', s1.trans (x3.part.trans x5.part), nosub _ _ _ ds5 x5.sub, nosub _ _ _ hD (s3.trans (x3.all.trans (s4.trans x5.all))), fun a o h => ?_, ds5, upd_same, (ra.mono (x3.part.trans x5.part)).snoc r5, by simp only [List.length_append, List.length_singleton]; omega, g7, by rw [← ea]; simp⟩
        rcases x5.new a o h with h1 | h1
        · exact nw3 a o h1
        · exact .inr ((s3.trans (x3.all.trans s4)).free h1)
      | false =>
        rw [if_neg Bool.false_ne_true] at g4
        exact iteF ⟨Hs3, acc, accD, rest, s1.trans x3.part, x3.sub.trans s4, s3.trans (x3.all.trans s4), nw3, ds3, s4 _ _ d3, ra.mono x3.part, by omega, g4, ea⟩
    · have e5 : i = ds.length := by omega
      subst e5
      rw [List.drop_length] at eg
      cases eg
      rw [List.append_nil] at ea
      subst ea
      refine .inl ⟨wk.stop _ H2 (s1.trans s2) (Nat.le_refl _), ?_⟩
      have hsub : Same (upd Hs2 D0 (.lst acc)) H2 := fun b u hb => by
        by_cases hbD : b = D0
        · subst hbD
          rw [upd_same] at hb
          cases hb
          exact d1
        · rw [upd_ne hbD] at hb
          exact s2 b u hb
      have hp : Same Hs2 (upd Hs2 D0 (.lst acc)) := fun b u hb => by
        rw [upd_ne (fun z => by subst z; rw [d2] at hb; cases hb)]
        exact hb
      refine k _ H2 (upd Hs2 D0 (.lst acc)) ⟨x1.all.trans s3, x1.part.trans (s1.trans hp), hsub, fun a o h => ?_⟩ (.lst upd_same (ra.mono hp))
      by_cases ha : a = D0
      · subst ha
        exact .inr (x1.all.free hD)
      · rw [upd_ne ha] at h
        rcases nw a o h with h1 | h1
        · exact x1.new a o h1
        · exact .inr (x1.all.free h1)
  · rw [if_neg hz] at e2'
    cases e2'
section
variable {X : Cx} {tg e elt iter : Expr} {ifs : List Expr} {fi : Fs} {fe : F} {ft : Ft} {pos : Pos}
theorem pd_lc {scope : Scope} {own : List (Str × Nat)} {g : TG} {set : D → Rho → Option Rho} {tt : TT} (hc : X.calm = true) (hN : X.N.Nodup) (hi : PI X tg iter (tDI X.K fi)) (ok : BlkOk X.N X.env.scope scope own) (hg : TgD X.K g set (own.map (·.2)))
    (hpg : ∀ (s : Shared) (H : Hp) (C : Addr) (cl : List (Str × Addr)) (fp : List Addr), PG (X.blk s H scope (compEnvC scope cl C X.env) fp) tg g)
    (ht : ∀ σ H Q, tDT X.K ft σ H Q → tt σ H Q) (hpt : ∀ (s : Shared) (H : Hp) (C : Addr) (cl : List (Str × Addr)) (fp : List Addr), PTs (X.blk s H scope (compEnvC scope cl C X.env) fp) ifs tt)
    (hpe : ∀ (s : Shared) (H : Hp) (C : Addr) (cl : List (Str × Addr)) (fp : List Addr), PE (X.blk s H scope (compEnvC scope cl C X.env) fp) elt (tD X.K fe)) (hs : ∀ x, foldedSetIterable iter X.env x = pure x := by intro _; rfl) :
    PE X (.ListComp elt [⟨tg, iter, ifs, 0⟩] scope pos) (tD X.K (fLc fi set ft fe (own.map (·.2)))) :=
  pe_imp (pe_lc (own := own) (g := g) (tt := tt) hc hN hi ok hpg hpt hpe hs) (lc_read (fun _ _ _ h => h) hg ht (fun _ _ _ h => h))
end
end Pd

/-! Pd4: statements, defs, calls. -/
namespace Pd
open PySem PySem.Spec L2 SkE
open PyProof.Rows hiding St

inductive Fl where
  | nx (ρ : Rho) | bk (ρ : Rho) | ct (ρ : Rho) | rt (d : D)
abbrev Gs := Rho → Option Fl
/-- the slots of a running def: what it only reads stands in the part Hs; the lists that it fills stand beside -/
structure SEnv (K : PySem.W.Frag) (μ : List Addr) (Hs0 H0 Hs H : Hp) (σ : St) (ρ : Rho) : Prop where
  ext : Ext Hs0 H0 Hs H
  env : VEnv K μ Hs σ ρ
  own : ∀ (i : Nat) (ds : List D), ρ[i]? = some (Sl.own ds) → ∃ (a : Addr) (vs : List V), σ[i]? = some (some (V.ref a)) ∧ H a = some (HO.lst vs) ∧ Hs a = none ∧ H0 a = none ∧ RpA K μ Hs vs ds
  one : ∀ (i j : Nat) (ds es : List D) (a : Addr), i ≠ j → ρ[i]? = some (Sl.own ds) → ρ[j]? = some (Sl.own es) → σ[i]? = some (some (V.ref a)) → σ[j]? ≠ some (some (V.ref a))
def After (K : PySem.W.Frag) (μ : List Addr) (Hs0 H0 Hb : Hp) (Dn : Ends) : Fl → Prop
  | .nx ρ => ∀ σ H Hs, SEnv K μ Hs0 H0 Hs H σ ρ → Same Hb Hs → Dn.nx σ H
  | .bk ρ => ∀ σ H Hs, SEnv K μ Hs0 H0 Hs H σ ρ → Same Hb Hs → Dn.bk σ H
  | .ct ρ => ∀ σ H Hs, SEnv K μ Hs0 H0 Hs H σ ρ → Same Hb Hs → Dn.ct σ H
  | .rt d => ∀ v H Hs, Ext Hs0 H0 Hs H → Rp K μ Hs v d → Dn.rt v H
def tS (K : PySem.W.Frag) (μ : List Addr) (Hs0 H0 : Hp) (g : Gs) : TS := fun Dn σ H => ∃ (Hs : Hp) (ρ : Rho) (fl : Fl), SEnv K μ Hs0 H0 Hs H σ ρ ∧ g ρ = some fl ∧ After K μ Hs0 H0 Hs Dn fl
theorem After.base {K : PySem.W.Frag} {μ : List Addr} {Hs0 H0 Hb Hc : Hp} {Dn : Ends} (s : Same Hb Hc) : ∀ {fl : Fl}, After K μ Hs0 H0 Hb Dn fl → After K μ Hs0 H0 Hc Dn fl
  | .nx _, k => fun σ H Hs S z => k σ H Hs S (s.trans z)
  | .bk _, k => fun σ H Hs S z => k σ H Hs S (s.trans z)
  | .ct _, k => fun σ H Hs S z => k σ H Hs S (s.trans z)
  | .rt _, k => k
section
variable {K : PySem.W.Frag} {μ : List Addr} {Hs0 H0 Hs H : Hp} {σ : St} {ρ : Rho}
theorem SEnv.sub (S : SEnv K μ Hs0 H0 Hs H σ ρ) : Same Hs H := S.ext.sub
/-- more objects beside; the part too -/
theorem SEnv.more {Hs' H' : Hp} (S : SEnv K μ Hs0 H0 Hs H σ ρ) (x : Ext Hs H Hs' H') : SEnv K μ Hs0 H0 Hs' H' σ ρ := by
  refine ⟨S.ext.trans x, S.env.mono x.part, fun i ds h => ?_, S.one⟩
  obtain ⟨a, vs, h1, h2, h3, h4, h5⟩ := S.own i ds h
  refine ⟨a, vs, h1, x.all _ _ h2, ?_, h4, h5.mono x.part⟩
  cases q : Hs' a with
  | none => rfl
  | some o =>
    rcases x.new a o q with z | z
    · rw [h3] at z; cases z
    · rw [h2] at z; cases z
theorem SEnv.side {H' : Hp} (S : SEnv K μ Hs0 H0 Hs H σ ρ) (x : Same H H') : SEnv K μ Hs0 H0 Hs H' σ ρ := S.more (Ext.side S.sub x)
/-- a slot is set to data -/
theorem SEnv.put (S : SEnv K μ Hs0 H0 Hs H σ ρ) {v : V} {d : D} (r : Rp K μ Hs v d) (i : Nat) : SEnv K μ Hs0 H0 Hs H (σ.set i (some v)) (ρ.set i (.val d)) := by
  have no : ∀ j ds, (ρ.set i (.val d))[j]? = some (.own ds) → j ≠ i ∧ ρ[j]? = some (.own ds) := fun j ds h => by
    by_cases hij : j = i
    · subst hij
      by_cases hl : j < ρ.length
      · rw [List.getElem?_set_self hl] at h; cases h
      · rw [List.getElem?_eq_none (by simpa using hl)] at h; cases h
    · exact ⟨hij, by rw [get_set_ne' hij] at h; exact h⟩
  refine ⟨S.ext, paired_set ⟨v, rfl, r⟩ i S.env, fun j ds h => ?_, fun j k ds es a hjk h1 h2 h3 => ?_⟩
  · obtain ⟨n1, n2⟩ := no j ds h
    rw [get_set_ne' n1]
    exact S.own j ds n2
  · obtain ⟨n1, n2⟩ := no j ds h1
    obtain ⟨m1, m2⟩ := no k es h2
    rw [get_set_ne' n1] at h3
    rw [get_set_ne' m1]
    exact S.one j k ds es a hjk n2 m2 h3
/-- several slots are set to data -/
theorem SEnv.puts {g : TG} {set : D → Rho → Option Rho} {vs : List Nat} (T : TgD K g set vs) (S : SEnv K μ Hs0 H0 Hs H σ ρ) {d : D} {ρ' : Rho} {σ' : St} (e : set d ρ = some ρ') (env : VEnv K μ Hs σ' ρ') (keep : ∀ i, i ∉ vs → σ'[i]? = σ[i]?)
    (hv : ∀ i ds, i ∈ vs → ρ'[i]? ≠ some (.own ds)) : SEnv K μ Hs0 H0 Hs H σ' ρ' := by
  have no : ∀ j ds, ρ'[j]? = some (.own ds) → j ∉ vs ∧ ρ[j]? = some (.own ds) := fun j ds h => by
    by_cases hj : j ∈ vs
    · exact absurd h (hv j ds hj)
    · exact ⟨hj, by rw [← T.keep _ _ _ e j hj]; exact h⟩
  refine ⟨S.ext, env, fun j ds h => ?_, fun j k ds es a hjk h1 h2 h3 => ?_⟩
  · obtain ⟨n1, n2⟩ := no j ds h
    rw [keep j n1]
    exact S.own j ds n2
  · obtain ⟨n1, n2⟩ := no j ds h1
    obtain ⟨m1, m2⟩ := no k es h2
    rw [keep j n1] at h3
    rw [keep k m1]
    exact S.one j k ds es a hjk n2 m2 h3
/-- the lists that the def fills, as data to read -/
def shw : Rho → Rho := List.map fun x => match x with
  | .own ds => .val (.lst ds)
  | x => x
theorem SEnv.show_ (S : SEnv K μ Hs0 H0 Hs H σ ρ) : ∃ Hs', Ext Hs H Hs H ∧ Same Hs Hs' ∧ Same Hs' H ∧ Ext Hs0 H0 Hs' H ∧ VEnv K μ Hs' σ (shw ρ) := by
  classical
  let P : Addr → Prop := fun b => ∃ (i : Nat) (ds : List D), ρ[i]? = some (Sl.own ds) ∧ σ[i]? = some (some (V.ref b))
  have hP : ∀ b, P b → (∃ vs, H b = some (.lst vs)) ∧ Hs b = none ∧ H0 b = none := fun b ⟨i, ds, h1, h2⟩ => by
    obtain ⟨a, vs, q1, q2, q3, q4, q5⟩ := S.own i ds h1
    rw [q1] at h2
    cases h2
    exact ⟨⟨vs, q2⟩, q3, q4⟩
  refine ⟨fun b => if P b then H b else Hs b, Ext.refl S.sub, fun b o h => ?_, fun b o h => ?_, ⟨S.ext.all, fun b o h => ?_, fun b o h => ?_, fun b o h => ?_⟩, ?_⟩
  · show (if P b then H b else Hs b) = some o
    by_cases hb : P b
    · rw [(hP b hb).2.1] at h; cases h
    · rw [if_neg hb]; exact h
  · have h' : (if P b then H b else Hs b) = some o := h
    by_cases hb : P b
    · rw [if_pos hb] at h'; exact h'
    · rw [if_neg hb] at h'; exact S.sub _ _ h'
  · show (if P b then H b else Hs b) = some o
    have h2 := S.ext.part _ _ h
    by_cases hb : P b
    · rw [(hP b hb).2.1] at h2; cases h2
    · rw [if_neg hb]; exact h2
  · have h' : (if P b then H b else Hs b) = some o := h
    by_cases hb : P b
    · rw [if_pos hb] at h'; exact h'
    · rw [if_neg hb] at h'; exact S.sub _ _ h'
  · have h' : (if P b then H b else Hs b) = some o := h
    by_cases hb : P b
    · exact .inr (hP b hb).2.2
    · rw [if_neg hb] at h'; exact S.ext.new _ _ h'
  · have mono : Same Hs (fun b => if P b then H b else Hs b) := fun b o h => by
      show (if P b then H b else Hs b) = some o
      by_cases hb : P b
      · rw [(hP b hb).2.1] at h; cases h
      · rw [if_neg hb]; exact h
    have gen : ∀ (σ' : St) (ρ' : Rho) (k : Nat), (∀ i x, ρ'[i]? = some x → ρ[k + i]? = some x) → (∀ i x, σ'[i]? = some x → σ[k + i]? = some x) → VEnv K μ Hs σ' ρ' → VEnv K μ (fun b => if P b then H b else Hs b) σ' (shw ρ') := by
      intro σ' ρ'
      induction ρ' generalizing σ' with
      | nil => intro k _ _ e; cases e; exact .nil
      | cons x ρ' ih =>
        intro k h1 h2 e
        cases e with
        | @cons ov _ σ'' _ e1 e2 =>
          refine .cons ?_ (ih _ (k + 1) (fun i y hy => ?_) (fun i y hy => ?_) e2)
          · cases x with
            | val d => exact e1.mono mono
            | raw v => exact e1
            | junk => trivial
            | exc _ _ _ => exact e1.mono mono
            | own ds =>
              have q0 := h1 0 (.own ds) rfl
              obtain ⟨a, vs, q1, q2, q3, q4, q5⟩ := S.own k ds q0
              have q6 : σ[k]? = some ov := h2 0 ov rfl
              rw [q1] at q6
              cases q6
              refine ⟨.ref a, rfl, .lst (xs := vs) ?_ (q5.mono mono)⟩
              show (if P a then H a else Hs a) = some (.lst vs)
              rw [if_pos ⟨k, ds, q0, q1⟩]
              exact q2
          · rw [show k + 1 + i = k + (i + 1) by omega]
            exact h1 (i + 1) y (by simpa using hy)
          · rw [show k + 1 + i = k + (i + 1) by omega]
            exact h2 (i + 1) y (by simpa using hy)
    exact gen σ ρ 0 (fun i x h => by rw [Nat.zero_add]; exact h) (fun i x h => by rw [Nat.zero_add]; exact h) S.env
end

/-! ### the statements as functions of the slots -/
def nilG : Gs := fun ρ => some (.nx ρ)
def seqG (g1 g2 : Gs) : Gs := fun ρ => match g1 ρ with
  | some (.nx ρ') => g2 ρ'
  | o => o
def retG (f : F) : Gs := fun ρ => b1 (f (shw ρ)) fun d => some (.rt d)
def retN : Gs := fun _ => some (.rt .non)
def ifG (c : Ft) (g1 g2 : Gs) : Gs := fun ρ => b1 (c (shw ρ)) fun b => if b = true then g1 ρ else g2 ρ
def D.sca : D → Bool
  | .non => true | .bool _ => true | .int _ => true | .str _ => true
  | _ => false
/-- the value of an expression: what only reads, else a plain value -/
def evG (f : F) (ρ : Rho) : Option D := match f ρ with
  | some d => some d
  | none => match f (shw ρ) with
    | some d => if d.sca = true then some d else none
    | none => none
def asgG (set : D → Rho → Option Rho) (f : F) : Gs := fun ρ => b1 (evG f ρ) fun d => b1 (set d ρ) fun ρ' => some (.nx ρ')
def newG (i : Nat) (fs : Fs) : Gs := fun ρ => b1 (fs ρ) fun ds => if ds.length ≤ sizeLine then some (.nx (ρ.set i (.own ds))) else none
def dropG (f : F) : Gs := fun ρ => b1 (f (shw ρ)) fun _ => some (.nx ρ)
def appG (i : Nat) (f : F) : Gs := fun ρ => match ρ[i]? with
  | some (.own ds) => b1 (evG f ρ) fun d => if ds.length < sizeLine then some (.nx (ρ.set i (.own (ds ++ [d])))) else none
  | _ => none
def brkG : Gs := fun ρ => some (.bk ρ)
def cntG : Gs := fun ρ => some (.ct ρ)
def forGo (T : D → Rho → Option Fl) : List D → Gs
  | [] => fun ρ => some (.nx ρ)
  | d :: ds => fun ρ => match T d ρ with
    | some (.nx ρ') => forGo T ds ρ'
    | some (.ct ρ') => forGo T ds ρ'
    | some (.bk ρ') => some (.nx ρ')
    | some (.rt d) => some (.rt d)
    | none => none
def turnG (set : D → Rho → Option Rho) (g : Gs) : D → Rho → Option Fl := fun d ρ => b1 (set d ρ) g
def forG (fi : Fs) (set : D → Rho → Option Rho) (g : Gs) : Gs := fun ρ => b1 (fi ρ) fun ds => forGo (turnG set g) ds ρ
def whlGo (c : Ft) (g : Gs) : Nat → Gs
  | 0 => fun _ => none
  | n + 1 => fun ρ => b1 (c (shw ρ)) fun b => if b = true then match g ρ with
    | some (.nx ρ') => whlGo c g n ρ'
    | some (.ct ρ') => whlGo c g n ρ'
    | some (.bk ρ') => some (.nx ρ')
    | some (.rt d) => some (.rt d)
    | none => none
    else some (.nx ρ)

section
variable {X : Cx} {μ : List Addr} {Hs0 H0 : Hp} {e a b c tg iter o : Expr} {es : List Expr} {st : Stmt} {rest body : List Stmt} {f : F} {fs fi : Fs} {ft : Ft} {g g1 g2 : Gs} {pos p2 p3 apos : Pos}
theorem pg_nil : PSs X [] (tS X.K μ Hs0 H0 nilG) := pss_imp pss_nil fun Dn σ H ⟨Hs, ρ, fl, S, e, k⟩ => by cases e; exact k _ _ _ S (Same.refl _)
theorem pg_cons (h1 : PS X st (tS X.K μ Hs0 H0 g1)) (h2 : PSs X rest (tS X.K μ Hs0 H0 g2)) : PSs X (st :: rest) (tS X.K μ Hs0 H0 (seqG g1 g2)) := by
  refine pss_imp (pss_cons h1 h2) fun Dn σ H ⟨Hs, ρ, fl, S, e, k⟩ => ?_
  have e' : (match g1 ρ with | some (.nx ρ') => g2 ρ' | o => o) = some fl := e
  cases q : g1 ρ with
  | none => rw [q] at e'; cases e'
  | some f1 =>
    rw [q] at e'
    refine ⟨Hs, ρ, f1, S, q, ?_⟩
    cases f1 with
    | nx ρ' => exact fun σ' H' Hs' S' s' => ⟨Hs', ρ', fl, S', e', k.base s'⟩
    | bk ρ' => cases e'; exact k
    | ct ρ' => cases e'; exact k
    | rt d => cases e'; exact k
theorem pg_one (h1 : PS X st (tS X.K μ Hs0 H0 g1)) : PSs X [st] (tS X.K μ Hs0 H0 g1) := pss_one h1
theorem pg_ret (he : PE X e (tD X.K f)) : PS X (.Return (some e) pos) (tS X.K μ Hs0 H0 (retG f)) := by
  refine ps_imp (ps_ret he) fun Dn σ H ⟨Hs, ρ, fl, S, e, k⟩ => ?_
  obtain ⟨d, e1, e2⟩ := b1_eq e
  cases e2
  obtain ⟨Hs', _, s1, s2, x, env⟩ := S.show_
  exact ⟨μ, Hs', _, d, s2, env, e1, fun v H' Hs2 x2 r => k v H' Hs2 (x.trans x2) r⟩
theorem pg_retN : PS X (.Return none pos) (tS X.K μ Hs0 H0 retN) := ps_imp ps_retN fun Dn σ H ⟨Hs, ρ, fl, S, e, k⟩ => by cases e; exact k _ _ _ S.ext .non
theorem pg_if {tb : List Stmt} (hc : PT X c (tDT X.K ft)) (h1 : PSs X body (tS X.K μ Hs0 H0 g1)) (h2 : PSs X tb (tS X.K μ Hs0 H0 g2)) : PS X (.If c body tb pos) (tS X.K μ Hs0 H0 (ifG ft g1 g2)) := by
  refine ps_imp (ps_if hc h1 h2) fun Dn σ H ⟨Hs, ρ, fl, S, e, k⟩ => ?_
  obtain ⟨b, e1, e2⟩ := b1_eq e
  obtain ⟨Hs', _, s1, s2, x, env⟩ := S.show_
  refine ⟨μ, Hs', _, b, s2, env, e1, fun H' x2 => ?_⟩
  cases b with
  | true => exact iteT ⟨Hs, ρ, fl, S.side x2, e2, k⟩
  | false => exact iteF ⟨Hs, ρ, fl, S.side x2, e2, k⟩
/-- an expression's value where a def fills lists -/
theorem ev_run (S : SEnv X.K μ Hs0 H0 Hs H σ ρ) {d : D} (e : evG f ρ = some d) {Q : VK} (k : ∀ v H' Hs', Ext Hs H Hs' H' → Rp X.K μ Hs' v d → Q v H') : tD X.K f σ H Q := by
  unfold evG at e
  cases q : f ρ with
  | some d' => rw [q] at e; cases e; exact ⟨μ, Hs, ρ, _, S.sub, S.env, q, k⟩
  | none =>
    rw [q] at e
    cases q2 : f (shw ρ) with
    | none => rw [q2] at e; cases e
    | some d' =>
      rw [q2] at e
      have e' : (if D.sca d' = true then some d' else none) = some d := e
      obtain ⟨h1, h2⟩ := ite_some e'
      cases h2
      obtain ⟨Hs', _, s1, s2, x, env⟩ := S.show_
      refine ⟨μ, Hs', _, _, s2, env, q2, fun v H' Hs2 x2 r => k v H' Hs (Ext.side S.sub x2.all) ?_⟩
      cases r with
      | non => exact .non
      | bool _ => exact .bool _
      | int _ => exact .int _
      | str _ => exact .str _
      | _ => exact absurd h1 Bool.false_ne_true
theorem pg_set {gt : TG} {set : D → Rho → Option Rho} {vs : List Nat} (T : TgD X.K gt set vs) (he : PE X e (tD X.K f)) (hg : PG X tg gt) (hs : swapsWithSole [tg] e pos.line X.env = pure false := by rfl) (hw : swappedStores [tg] e X.env = pure none := by rfl)
    (hv : ∀ d ρ ρ' i ds, set d ρ = some ρ' → i ∈ vs → ρ'[i]? ≠ some (.own ds)) (h1 : (assignEach [tg] X.env).map (·.2) = [assign tg X.env] := by rfl) : PS X (.Assign [tg] e pos) (tS X.K μ Hs0 H0 (asgG set f)) := by
  refine ps_imp (ps_asg he hg hs hw h1) fun Dn σ H ⟨Hs, ρ, fl, S, e, k⟩ => ?_
  obtain ⟨d, e1, e2⟩ := b1_eq e
  obtain ⟨ρ', e3, e4⟩ := b1_eq e2
  cases e4
  refine ev_run S e1 fun v H' Hs' x r => ?_
  have S' := S.more x
  exact T.run _ Hs' H' σ ρ d ρ' v _ x.sub S'.env e3 r fun σ' env' hl hk => k _ _ Hs' (S'.puts T e3 env' hk fun i ds hi => hv d ρ ρ' i ds e3 hi) x.part
theorem hv_1 (i : Nat) : ∀ d ρ ρ' j ds, st1 i d ρ = some ρ' → j ∈ [i] → ρ'[j]? ≠ some (.own ds) := fun d ρ ρ' j ds e hj h => by
  cases e
  have hj' : j = i := by simpa using hj
  subst hj'
  by_cases hl : j < ρ.length
  · rw [List.getElem?_set_self hl] at h; cases h
  · rw [List.getElem?_eq_none (by simpa using hl)] at h; cases h
theorem set_val_self {ρ : Rho} {i : Nat} {d : D} {ds : List D} : (ρ.set i (.val d))[i]? ≠ some (.own ds) := fun h => by
  by_cases hl : i < ρ.length
  · rw [List.getElem?_set_self hl] at h; cases h
  · rw [List.getElem?_eq_none (by simpa using hl)] at h; cases h
theorem set_val_no {ρ : Rho} {i j : Nat} {d : D} {ds : List D} (n : ρ[j]? ≠ some (.own ds)) : (ρ.set i (.val d))[j]? ≠ some (.own ds) := fun h => by
  by_cases hij : j = i
  · subst hij; exact set_val_self h
  · rw [get_set_ne' hij] at h; exact n h
theorem hv_2 (i j : Nat) : ∀ d ρ ρ' m ds, st2 i j d ρ = some ρ' → m ∈ [i, j] → ρ'[m]? ≠ some (.own ds) := fun d ρ ρ' m ds e hm => by
  unfold st2 at e
  split at e
  · cases e
    simp only [List.mem_cons, List.not_mem_nil, or_false] at hm
    rcases hm with rfl | rfl
    · exact set_val_no set_val_self
    · exact set_val_self
  · cases e
theorem hv_3 (i j l : Nat) : ∀ d ρ ρ' m ds, st3 i j l d ρ = some ρ' → m ∈ [i, j, l] → ρ'[m]? ≠ some (.own ds) := fun d ρ ρ' m ds e hm => by
  unfold st3 at e
  split at e
  · cases e
    simp only [List.mem_cons, List.not_mem_nil, or_false] at hm
    rcases hm with rfl | rfl | rfl
    · exact set_val_no (set_val_no set_val_self)
    · exact set_val_no set_val_self
    · exact set_val_self
  · cases e
theorem pg_asg (i : Nat) {x : Str} {pos' : Pos} (hN : X.N.Nodup) (he : PE X e (tD X.K f)) (hi : X.N[i]? = some x := by rfl) (hx : Loc X.env.scope x := by first | exact .inl rfl | exact .inr rfl) (hf : X.fn x = true ∨ X.env.scope.names.lookup x = some .local := by first | exact .inl rfl | exact .inr rfl)
    (hs : swapsWithSole [.Name x pos'] e pos.line X.env = pure false := by rfl) (hw : swappedStores [.Name x pos'] e X.env = pure none := by rfl) :
    PS X (.Assign [.Name x pos'] e pos) (tS X.K μ Hs0 H0 (asgG (st1 i) f)) := pg_set (tg_1 i) he (pg_name hN hi hx hf) hs hw (hv_1 i)
/-- x = [..], a list that the def fills -/
theorem pg_new (i : Nat) {x : Str} {pos' : Pos} (hN : X.N.Nodup) (ha : PA X es (tDs X.K fs)) (hi : X.N[i]? = some x := by rfl) (hx : Loc X.env.scope x := by first | exact .inl rfl | exact .inr rfl) (hf : X.fn x = true ∨ X.env.scope.names.lookup x = some .local := by first | exact .inl rfl | exact .inr rfl)
    (hs : swapsWith (.List es p2) (some (.Name x pos')) pos.line X.env = pure false := by rfl) : PS X (.Assign [.Name x pos'] (.List es p2) pos) (tS X.K μ Hs0 H0 (newG i fs)) := by
  refine ps_imp (ps_set hN hi hx (pe_lst ha) hs hf) fun Dn σ H ⟨Hs, ρ, fl, S, e, k⟩ => ?_
  obtain ⟨ds, e1, e2⟩ := b1_eq e
  obtain ⟨hz, rfl⟩ := ite_some e2
  refine ⟨μ, Hs, ρ, ds, S.sub, S.env, e1, fun vs H1 Hs1 x1 r1 => ⟨by rw [r1.len]; exact hz, fun p hp => ?_⟩⟩
  have S1 := S.more x1
  have sp : Same H1 (upd H1 p (.lst vs)) := (Ext.made (Same.refl H1) hp).all
  have S2 := S1.side sp
  have hp0 : Hs1 p = none := x1.sub.free hp
  refine k _ _ Hs1 ⟨S2.ext, paired_set trivial i S2.env, fun j ds' h => ?_, fun j l ds' es' a hjl h1 h2 h3 => ?_⟩ x1.part
  · by_cases hj : j = i
    · subst hj
      by_cases hl : j < ρ.length
      · rw [List.getElem?_set_self hl] at h
        cases h
        have hls : j < σ.length := by rw [Paired.length S.env]; exact hl
        exact ⟨p, vs, List.getElem?_set_self hls, upd_same, hp0, S1.ext.all.free hp, r1⟩
      · rw [List.getElem?_eq_none (by simpa using hl)] at h; cases h
    · rw [get_set_ne' hj] at h ⊢
      exact S2.own j ds' h
  · have fresh : ∀ (m : Nat) (es : List D), ρ[m]? = some (Sl.own es) → σ[m]? ≠ some (some (V.ref p)) := fun m es hm hq => by
      obtain ⟨a', vs', q1, q2, _⟩ := S1.own m es hm
      rw [hq] at q1
      cases q1
      rw [hp] at q2
      cases q2
    by_cases hj : j = i
    · subst hj
      have hl' : l ≠ j := fun z => hjl z.symm
      rw [get_set_ne' hl'] at h2 ⊢
      by_cases hl : j < σ.length
      · rw [List.getElem?_set_self hl] at h3
        cases h3
        exact fresh l es' h2
      · rw [List.getElem?_eq_none (by simpa using hl)] at h3; cases h3
    · by_cases hl : l = i
      · subst hl
        rw [get_set_ne' hj] at h1 h3
        intro q
        by_cases hll : l < σ.length
        · rw [List.getElem?_set_self hll] at q
          cases q
          exact fresh j ds' h1 h3
        · rw [List.getElem?_eq_none (by simpa using hll)] at q; cases q
      · rw [get_set_ne' hj] at h1 h3
        rw [get_set_ne' hl] at h2 ⊢
        exact S2.one j l ds' es' a hjl h1 h2 h3
theorem pg_drop (he : PE X e (tD X.K f)) (hs : swapsWith e none pos.line X.env = pure false := by rfl) : PS X (.Expr e pos) (tS X.K μ Hs0 H0 (dropG f)) := by
  refine ps_imp (ps_expr he hs) fun Dn σ H ⟨Hs, ρ, fl, S, e, k⟩ => ?_
  obtain ⟨d, e1, e2⟩ := b1_eq e
  cases e2
  obtain ⟨Hs', _, s1, s2, x, env⟩ := S.show_
  exact ⟨μ, Hs', _, d, s2, env, e1, fun v H' Hs2 x2 r => k _ _ Hs (S.side x2.all) (Same.refl _)⟩
theorem pg_doc {x : Str} {j p} : PS X (.Expr (.Constant (.str x) j p) pos) (tS X.K μ Hs0 H0 nilG) := ps_imp ps_doc fun Dn σ H ⟨Hs, ρ, fl, S, e, k⟩ => by cases e; exact k _ _ _ S (Same.refl _)
theorem pg_pass : PS X (.Pass pos) (tS X.K μ Hs0 H0 nilG) := ps_imp ps_pass fun Dn σ H ⟨Hs, ρ, fl, S, e, k⟩ => by cases e; exact k _ _ _ S (Same.refl _)
theorem pg_break : PS X (.Break pos) (tS X.K μ Hs0 H0 brkG) := ps_imp ps_break fun Dn σ H ⟨Hs, ρ, fl, S, e, k⟩ => by cases e; exact k _ _ _ S (Same.refl _)
theorem pg_cont : PS X (.Continue pos) (tS X.K μ Hs0 H0 cntG) := ps_imp ps_continue fun Dn σ H ⟨Hs, ρ, fl, S, e, k⟩ => by cases e; exact k _ _ _ S (Same.refl _)
/-- a filled list's object is changed -/
theorem SEnv.write {Hs H : Hp} {σ : St} {ρ : Rho} (S : SEnv X.K μ Hs0 H0 Hs H σ ρ) {i : Nat} {ds ds' : List D} {a : Addr} {vs' : List V} (h : ρ[i]? = some (.own ds)) (ha : σ[i]? = some (some (.ref a))) (r : RpA X.K μ Hs vs' ds') :
    SEnv X.K μ Hs0 H0 Hs (upd H a (.lst vs')) σ (ρ.set i (.own ds')) := by
  obtain ⟨a', vs, q1, q2, q3, q4, q5⟩ := S.own i ds h
  rw [q1] at ha
  cases ha
  have sub : Same Hs (upd H a (.lst vs')) := fun b u hb => by
    rw [upd_ne (fun z => by subst z; rw [q3] at hb; cases hb)]
    exact S.sub _ _ hb
  have al : Same H0 (upd H a (.lst vs')) := fun b u hb => by
    rw [upd_ne (fun z => by subst z; rw [q4] at hb; cases hb)]
    exact S.ext.all _ _ hb
  have env : VEnv X.K μ Hs σ (ρ.set i (.own ds')) := by
    have e := paired_set (a := some (V.ref a)) (b := Sl.own ds') (F := VOk X.K μ Hs) trivial i S.env
    have e2 : σ.set i (some (V.ref a)) = σ := by
      refine List.ext_getElem? fun j => ?_
      by_cases hj : j = i
      · subst hj
        by_cases hl : j < σ.length
        · rw [List.getElem?_set_self hl, q1]
        · rw [List.getElem?_eq_none (by simpa using hl), List.getElem?_eq_none (by simpa using hl)]
      · rw [get_set_ne' hj]
    rw [e2] at e
    exact e
  refine ⟨⟨al, S.ext.part, sub, S.ext.new⟩, env, fun j es hj => ?_, fun j l es es' b hjl h1 h2 h3 => ?_⟩
  · by_cases hji : j = i
    · subst hji
      by_cases hl : j < ρ.length
      · rw [List.getElem?_set_self hl] at hj
        cases hj
        exact ⟨a, vs', q1, upd_same, q3, q4, r⟩
      · rw [List.getElem?_eq_none (by simpa using hl)] at hj; cases hj
    · rw [get_set_ne' hji] at hj
      obtain ⟨b, us, w1, w2, w3, w4, w5⟩ := S.own j es hj
      have nb : b ≠ a := fun z => by
        subst z
        exact S.one j i es ds _ hji hj h w1 q1
      exact ⟨b, us, w1, by rw [upd_ne nb]; exact w2, w3, w4, w5⟩
  · have back : ∀ (m : Nat) (es : List D), (ρ.set i (Sl.own ds'))[m]? = some (Sl.own es) → ∃ es' : List D, ρ[m]? = some (Sl.own es') := fun m es hm => by
      by_cases hmi : m = i
      · subst hmi; exact ⟨ds, h⟩
      · rw [get_set_ne' hmi] at hm; exact ⟨es, hm⟩
    obtain ⟨_, z1⟩ := back j es h1
    obtain ⟨_, z2⟩ := back l es' h2
    exact S.one j l _ _ b hjl z1 z2 h3
theorem pg_app (i : Nat) {x : Str} {cpos p1 : Pos} (he : PE X e (tD X.K f)) (hi : X.N[i]? = some x := by rfl) (hx : Vis X.env.scope x := by first | exact .inl rfl | exact .inr (.inl rfl) | exact .inr (.inr rfl)) (hd : (x == ("__debug__" : Str)) = false := by decide) (hcd : (x == ("__classdict__" : Str)) = false := by decide)
    (hbase : attributeBase (.Name x p1) "append" X.env (eval (.Name x p1) X.env) = eval (.Name x p1) X.env := by rfl)
    (hfew : ((backTo cpos (starEach [e] X.env)).all (fun x => !x.1) && (backToKw cpos (keywordEach [] X.env)).all (fun x => x.1.isSome) && decide ([e].length + ([] : List Keyword).length + (if ([] : List Keyword).isEmpty then 0 else 1) < 30)) = true := by rfl)
    (hline : (apos.endLine == cpos.line) = true := by rfl) (hs : starEach [e] X.env = (false, eval e X.env) :: starEach [] X.env := by rfl) (hplain : (backTo cpos (starEach [] X.env)).any (·.1) = false := by rfl)
    (hsw : swapsWith (.Call (.Attribute (.Name x p1) "append" apos) [e] [] cpos) none pos.line X.env = pure false := by rfl) :
    PS X (.Expr (.Call (.Attribute (.Name x p1) "append" apos) [e] [] cpos) pos) (tS X.K μ Hs0 H0 (appG i f)) := by
  refine ps_imp (ps_expr (pe_bm PySem.F.plainAttrs_list PySem.F.slot_list_append PySem.F.type_list_append mt_append (pe_var hi hx hd hcd) (pa_cons he pa_nil hs) hbase hfew hline hs hplain) hsw) fun Dn σ H ⟨Hs, ρ, fl, S, e, k⟩ => ?_
  unfold appG at e
  cases q : ρ[i]? with
  | none => rw [q] at e; cases e
  | some sl =>
    rw [q] at e
    cases sl with
    | own ds =>
      obtain ⟨d, e1, e2⟩ := b1_eq e
      obtain ⟨hz, rfl⟩ := ite_some e2
      obtain ⟨a, vs, q1, q2, q3, q4, q5⟩ := S.own i ds q
      refine ⟨_, q1, .inl ⟨rfl, _, SqL.of q2⟩, ?_⟩
      refine ev_run S e1 fun v H' Hs' x r => ?_
      refine ⟨a, vs, v, rfl, rfl, x.all _ _ q2, by rw [q5.len]; exact hz, ?_⟩
      exact k _ _ Hs' ((S.more x).write q q1 ((q5.mono x.part).snoc r)) x.part
    | _ => cases e
theorem pg_for {gt : TG} {set : D → Rho → Option Rho} {vs : List Nat} (T : TgD X.K gt set vs) (hp : PassesOwn (model X.prog X.w) X.A X.env X.xe) (hc : X.calm = true) (hi : PI X tg iter (tDI X.K fi)) (hg : PG X tg gt) (hb : PSs X body (tS X.K μ Hs0 H0 g))
    (hv : ∀ d ρ ρ' i ds, set d ρ = some ρ' → i ∈ vs → ρ'[i]? ≠ some (.own ds)) (hs : ∀ x, foldedSetIterable iter X.env x = pure x := by intro _; rfl) : PS X (.For tg iter body [] pos) (tS X.K μ Hs0 H0 (forG fi set g)) := by
  refine ps_imp (ps_for hp hc hi hg hb hs) fun Dn σ H ⟨Hs, ρ, fl, S, e, k⟩ => ?_
  obtain ⟨ds, e1, e2⟩ := b1_eq e
  refine ⟨μ, Hs, ρ, ds, S.sub, S.env, e1, fun J H1 Hs1 x1 wk => ?_⟩
  refine ⟨fun i m σ2 H2 => m = ds.length - i ∧ i ≤ ds.length ∧ ∃ Hs2 ρ2, SEnv X.K μ Hs0 H0 Hs2 H2 σ2 ρ2 ∧ Same Hs1 Hs2 ∧ forGo (turnG set g) (ds.drop i) ρ2 = some fl, ⟨_, rfl, Nat.zero_le _, Hs1, ρ, S.more x1, Same.refl _, by simpa using e2⟩, ?_⟩
  rintro i m σ2 H2 ⟨rfl, hi2, Hs2, ρ2, S2, s2, e3⟩
  by_cases hlt : i < ds.length
  · obtain ⟨d0, hd0⟩ : ∃ d0, ds[i]? = some d0 := ⟨ds[i], by simp [hlt]⟩
    have hdrop : ds.drop i = d0 :: ds.drop (i + 1) := by
      rw [List.drop_eq_getElem_cons hlt]
      rw [List.getElem?_eq_getElem hlt] at hd0
      cases hd0
      rfl
    rw [hdrop] at e3
    refine .inr ⟨wk.go i H2 (s2.trans S2.sub) hlt, fun σ3 H3 => ∃ Hs3 ρ3, SEnv X.K μ Hs0 H0 Hs3 H3 σ3 ρ3 ∧ Same Hs1 Hs3 ∧ forGo (turnG set g) (ds.drop (i + 1)) ρ3 = some fl, fun σ' H' h => ⟨_, by omega, rfl, hlt, h⟩, fun x H3 hy => ?_⟩
    obtain ⟨Hs3, x3, r3⟩ := wk.yld i H2 Hs2 x H3 s2 S2.sub hy d0 hd0
    have S3 := S2.more x3
    have e4 : (match turnG set g d0 ρ2 with
      | some (.nx ρ') => forGo (turnG set g) (ds.drop (i + 1)) ρ'
      | some (.ct ρ') => forGo (turnG set g) (ds.drop (i + 1)) ρ'
      | some (.bk ρ') => some (.nx ρ')
      | some (.rt d) => some (.rt d)
      | none => none) = some fl := e3
    cases q : turnG set g d0 ρ2 with
    | none => rw [q] at e4; cases e4
    | some f1 =>
      rw [q] at e4
      obtain ⟨ρ', g1, g2⟩ := b1_eq q
      refine T.run _ Hs3 H3 σ2 ρ2 d0 ρ' x _ x3.sub S3.env g1 r3 fun σ' env' hl hk => ?_
      have S4 := S3.puts T g1 env' hk fun i ds hi => hv d0 ρ2 ρ' i ds g1 hi
      refine ⟨Hs3, ρ', f1, S4, g2, ?_⟩
      have s3 : Same Hs1 Hs3 := s2.trans x3.part
      cases f1 with
      | nx ρ5 => exact fun σ5 H5 Hs5 S5 s5 => ⟨_, _, S5, s3.trans s5, e4⟩
      | ct ρ5 => exact fun σ5 H5 Hs5 S5 s5 => ⟨_, _, S5, s3.trans s5, e4⟩
      | bk ρ5 => cases e4; exact fun σ5 H5 Hs5 S5 s5 => k σ5 H5 Hs5 S5 (x1.part.trans (s3.trans s5))
      | rt d => cases e4; exact k
  · have e5 : i = ds.length := by omega
    subst e5
    rw [List.drop_length] at e3
    cases e3
    exact .inl ⟨wk.stop _ H2 (s2.trans S2.sub) (Nat.le_refl _), k _ _ _ S2 (x1.part.trans s2)⟩
end
end Pd

/-! Pd5: defs and calls. -/
namespace Pd
open PySem PySem.Spec L2 SkE
open PyProof.Rows hiding St

/-- a def that is a function of data -/
def spD (K : PySem.W.Frag) (fh : List D → Option D) : Sp := fun vs H Q _ => ∃ (μ : List Addr) (Hs : Hp) (ds : List D) (d : D), Same Hs H ∧ RpA K μ Hs vs ds ∧ fh ds = some d ∧ ∀ v H' Hs', Ext Hs H Hs' H' → Rp K μ Hs' v d → Q v H'
def rho0 (N : List Str) (ds : List D) : Rho := ds.map Sl.val ++ List.replicate (N.length - ds.length) .junk
def runG (g : Gs) (N : List Str) (ds : List D) : Option D := match g (rho0 N ds) with
  | some (.rt d) => some d
  | some (.nx _) => some .non
  | _ => none
theorem vals_env {K : PySem.W.Frag} {μ : List Addr} {H : Hp} (n : Nat) : ∀ {ds : List D} {vs : List V}, RpA K μ H vs ds → VEnv K μ H (vs.map some ++ List.replicate n none) (ds.map Sl.val ++ List.replicate n .junk)
  | [], _, h => by
    cases h
    show Paired _ (List.replicate n none) (List.replicate n Sl.junk)
    induction n with
    | zero => exact .nil
    | succ n ih => rw [List.replicate_succ, List.replicate_succ]; exact .cons trivial ih
  | d :: ds, _, h => by
    cases h with
    | cons h1 h2 => exact .cons ⟨_, rfl, h1⟩ (vals_env n h2)
theorem rho0_no {N : List Str} {ds : List D} {i : Nat} {es : List D} : (rho0 N ds)[i]? ≠ some (.own es) := fun h => by
  unfold rho0 at h
  rw [List.getElem?_append] at h
  split at h
  · rw [List.getElem?_map] at h
    cases q : ds[i]? with
    | none => rw [q] at h; cases h
    | some d => rw [q] at h; cases h
  · rw [List.getElem?_replicate] at h
    split at h <;> cases h
section
variable {P : Program} {w : World} {K : PySem.W.Frag} {mg : Str → Option Value} {base : Heap}
theorem enter {Hs H : Hp} {N : List Str} {vs : List V} {ds : List D} {g : Gs} {d : D} {Q : VK} (s : Same Hs H) (r : RpA K μ Hs vs ds) (hl : runG g N ds = some d) (k : ∀ v H' Hs', Ext Hs H Hs' H' → Rp K μ Hs' v d → Q v H') :
    tS K μ Hs H g { nx := fun _ H' => Q .non H', rt := Q } (L2.start N vs) H := by
  have S : SEnv K μ Hs H Hs H (L2.start N vs) (rho0 N ds) := by
    refine ⟨Ext.refl s, ?_, fun i es h => absurd h rho0_no, fun i j es es' a _ h => absurd h rho0_no⟩
    unfold L2.start rho0
    rw [r.len]
    exact vals_env _ r
  unfold runG at hl
  cases q : g (rho0 N ds) with
  | none => rw [q] at hl; cases hl
  | some fl =>
    rw [q] at hl
    refine ⟨Hs, rho0 N ds, fl, S, q, ?_⟩
    cases fl with
    | nx ρ => cases hl; exact fun σ' H' Hs' S' _ => k _ _ Hs' S'.ext .non
    | rt d' => cases hl; exact fun v H' Hs' x r' => k v H' Hs' x r'
    | bk _ => cases hl
    | ct _ => cases hl
theorem okD {x qual : Str} {st : Stmt} {f : Addr} {fd : FuncData} {N ps : List Str} {k : Nat} {fh : List D → Option D} {g : Gs} (Fn : Fun K x qual st f fd) (S : FnScope N ps (defScope st))
    (body : ∀ (cdv : Value) (A : Around) (outer : List Env) (s : Shared) (H : Hp) (E : XK) (μ : List Addr) (Hs : Hp), Room k (A.deeper (envOfC qual (defScope st) s.heap.objs.size f cdv)) → PSs (cxOf CX0 P w K mg base N qual (defScope st) f cdv A outer s H E).nox (defBody st) (tS K μ Hs H g))
    (hg : ∀ ds d, fh ds = some d → ds.length = ps.length ∧ runG g N ds = some d) : FnOk P w K mg base CX0 (k + 1) f fd ps (spD K fh) := by
  refine Fn.ok S (fun vs H Q E h => ?_) (fun cdv A outer s H vs Q E hr h => ?_)
  · obtain ⟨μ, Hs, ds, d, _, r, e, _⟩ := h
    rw [r.len]
    exact (hg ds d e).1
  · obtain ⟨μ, Hs, ds, d, s1, r, e, kk⟩ := h
    exact ⟨_, body cdv A outer s H E μ Hs hr, enter s1 r (hg ds d e).2 kk⟩
end
section
variable {X : Cx} {e a b c tg iter o : Expr} {es : List Expr} {f : F} {fs fi : Fs} {pos p : Pos} {x : Str} {k : Nat} {fa : Addr} {fd : FuncData} {ps : List Str} {fh : List D → Option D}
theorem pd_call (Fn : FnOk X.prog X.w X.K X.mg X.base CX0 k fa fd ps (spD X.K fh)) (hr : Room k X.A) (hm : X.mg x = some (.ref fa)) (hk : PySem.W.keepIn X.K (.ref fa) = true) (hb : Binds X.K fd ps []) (ha : PA X (e :: es) (tDs X.K fs)) (hg : Gl X x := by rfl)
    (hdb : (x == ("__debug__" : Str)) = false := by decide) (he : starEach (e :: es) X.env = (false, eval e X.env) :: starEach es X.env := by rfl) (hpl : (backTo pos (starEach es X.env)).any (·.1) = false := by rfl) :
    PE X (.Call (.Name x p) (e :: es) [] pos) (tD X.K (fL fh fs)) := by
  refine pe_imp (pe_call (E := E0) Fn hr hg hm hk hb .nil pass0 ha hdb he hpl) fun σ H Q ⟨μ, Hs, ρ, d, s, env, e, k⟩ => ?_
  obtain ⟨ds, e1, e2⟩ := b1_eq e
  refine ⟨μ, Hs, ρ, ds, s, env, e1, fun vs H1 Hs1 x1 r1 => ?_⟩
  show spD X.K fh (vs ++ []) H1 Q E0
  rw [List.append_nil]
  exact ⟨μ, Hs1, ds, d, x1.sub, r1, e2, fun v H' Hs' x2 r2 => k v H' Hs' (x1.trans x2) r2⟩
theorem pd_call0 (Fn : FnOk X.prog X.w X.K X.mg X.base CX0 k fa fd ps (spD X.K fh)) (hr : Room k X.A) (hm : X.mg x = some (.ref fa)) (hk : PySem.W.keepIn X.K (.ref fa) = true) (hb : Binds X.K fd ps []) (hg : Gl X x := by rfl)
    (hdb : (x == ("__debug__" : Str)) = false := by decide) : PE X (.Call (.Name x p) [] [] pos) (tD X.K (fL fh fNil)) := by
  refine pe_imp (pe_call0 (E := E0) Fn hr hg hm hk hb .nil pass0 hdb) fun σ H Q ⟨μ, Hs, ρ, d, s, env, e, k⟩ => ?_
  exact ⟨μ, Hs, [], d, s, .nil, e, k⟩
end
/-- a def of the text as the top has left it, with what its call wants -/
structure Df (P : Program) (w : World) (K : PySem.W.Frag) (mg : Str → Option Value) (base : Heap) (k : Nat) (x : Str) (ps : List Str) (fh : List D → Option D) : Prop where
  ex : ∃ (fa : Addr) (fd : FuncData), FnOk P w K mg base CX0 k fa fd ps (spD K fh) ∧ mg x = some (.ref fa) ∧ PySem.W.keepIn K (.ref fa) = true ∧ Binds K fd ps []
section
variable {X : Cx} {e : Expr} {es : List Expr} {fs : Fs} {pos p : Pos} {x : Str} {k : Nat} {ps : List Str} {fh : List D → Option D}
theorem pd_df (C : Df X.prog X.w X.K X.mg X.base k x ps fh) (hr : Room k X.A) (ha : PA X (e :: es) (tDs X.K fs)) (hg : Gl X x := by rfl)
    (hdb : (x == ("__debug__" : Str)) = false := by decide) (he : starEach (e :: es) X.env = (false, eval e X.env) :: starEach es X.env := by rfl) (hpl : (backTo pos (starEach es X.env)).any (·.1) = false := by rfl) :
    PE X (.Call (.Name x p) (e :: es) [] pos) (tD X.K (fL fh fs)) := by
  obtain ⟨fa, fd, h1, h2, h3, h4⟩ := C.ex
  exact pd_call h1 hr h2 h3 h4 ha hg hdb he hpl
theorem pd_df0 (C : Df X.prog X.w X.K X.mg X.base k x ps fh) (hr : Room k X.A) (hg : Gl X x := by rfl) (hdb : (x == ("__debug__" : Str)) = false := by decide) : PE X (.Call (.Name x p) [] [] pos) (tD X.K (fL fh fNil)) := by
  obtain ⟨fa, fd, h1, h2, h3, h4⟩ := C.ex
  exact pd_call0 h1 hr h2 h3 h4 hg hdb
end
/-- the law's own promise -/
theorem law_sp {K : PySem.W.Frag} {fh : List D → Option D} (h : ∀ ns : List Int, ns.length ≤ 63 → fh [.scr ns] = some (.bool true)) (H : Hp) (a : Addr) (ns : List Int) (hl : ns.length ≤ 63) (hS : SqL K H a (ns.map V.int)) : spD K fh [.ref a] H (fun v _ => v = .bl true) fun _ _ _ => False :=
  ⟨[], H, [.scr ns], .bool true, Same.refl _, .cons (.scr hS) .nil, h ns hl, fun v H' Hs' _ r => by cases r; rfl⟩
end Pd
namespace Pd
open PySem PySem.Spec L2 SkE
open PyProof.Rows hiding St
def gTupD (ds : List D) : Option D := if ds.length ≤ sizeLine then some (.tup ds) else none
def gLstD (ds : List D) : Option D := if ds.length ≤ sizeLine then some (.lst ds) else none
/-- a def's function -/
def dF (n : Nat) (N : List Str) (g : Gs) (ds : List D) : Option D := if ds.length = n then runG g N ds else none
theorem dF_ok {ps N : List Str} {g : Gs} : ∀ ds d, dF ps.length N g ds = some d → ds.length = ps.length ∧ runG g N ds = some d := fun ds d h => by
  unfold dF at h
  by_cases hl : ds.length = ps.length
  · rw [if_pos hl] at h; exact ⟨hl, h⟩
  · rw [if_neg hl] at h; cases h
theorem hu65 {A : Around} {k : Nat} (hr : Room k A) : A.units + 65 < cLine := Nat.lt_of_le_of_lt (Nat.add_le_add_left (show 65 ≤ 16 * k + 200 by omega) _) (by have := hr.un; omega)
def gNeg : D → Option D
  | .int i => some (.int (-i))
  | _ => none
theorem imp_neg {K : PySem.W.Frag} : Imp1 K (rU fun i => .int (-i)) gNeg := by
  intro μ H Hs x d o Q s rx g k
  cases rx <;> first | (cases g; exact ⟨_, rfl, k _ H Hs (Ext.refl s) (.int _)⟩) | exact nomatch g
/-- x = [.. for ..] on one line -/
theorem pg_asgLc {X : Cx} {Hs0 H0 : Hp} {tg elt iter : Expr} {ifs : List Expr} {fi : Fs} {fe : F} {ft : Ft} {pos spos : Pos} (i : Nat) {y : Str} {py : Pos} {scope : Scope} {own : List (Str × Nat)} {g : TG} {set : D → Rho → Option Rho} {tt : TT} (hc : X.calm = true) (hN : X.N.Nodup) (hi : PI X tg iter (tDI X.K fi)) (ok : BlkOk X.N X.env.scope scope own) (hg : TgD X.K g set (own.map (·.2)))
    (hpg : ∀ (s : Shared) (H : Hp) (C : Addr) (cl : List (Str × Addr)) (fp : List Addr), PG (X.blk s H scope (compEnvC scope cl C X.env) fp) tg g)
    (ht : ∀ σ H Q, tDT X.K ft σ H Q → tt σ H Q) (hpt : ∀ (s : Shared) (H : Hp) (C : Addr) (cl : List (Str × Addr)) (fp : List Addr), PTs (X.blk s H scope (compEnvC scope cl C X.env) fp) ifs tt)
    (hpe : ∀ (s : Shared) (H : Hp) (C : Addr) (cl : List (Str × Addr)) (fp : List Addr), PE (X.blk s H scope (compEnvC scope cl C X.env) fp) elt (tD X.K fe)) (hs : ∀ x, foldedSetIterable iter X.env x = pure x := by intro _; rfl)
    (hy : X.N[i]? = some y := by rfl) (hyl : X.env.scope.names.lookup y = some .local := by rfl) (hsw : swapsWith (.ListComp elt [⟨tg, iter, ifs, 0⟩] scope pos) (some (.Name y py)) spos.line X.env = pure true := by exact sw_true rfl rfl rfl (by decide +kernel)) :
    PS X (.Assign [.Name y py] (.ListComp elt [⟨tg, iter, ifs, 0⟩] scope pos) spos) (tS X.K μ Hs0 H0 (asgG (st1 i) (fLc fi set ft fe (own.map (·.2))))) := by
  refine ps_imp (ps_setLc (own := own) (g := g) (tt := tt) hc hN hy hyl hsw hi ok hpg hpt hpe hs) fun Dn σ H ⟨Hs, ρ, fl, S, e, k⟩ => ?_
  obtain ⟨d, e1, e2⟩ := b1_eq e
  cases e2
  refine lc_read (fun _ _ _ h => h) hg ht (fun _ _ _ h => h) _ _ _ (ev_run S e1 fun v H' Hs' x r => ?_)
  exact k _ _ Hs' ((S.more x).put r i) x.part
/-- isinstance(x, T), T a built-in class -/
def tyN : D → String
  | .non => "NoneType" | .bool _ => "bool" | .int _ => "int" | .str _ => "str" | .lst _ => "list" | .tup _ => "tuple" | .scr _ => "list" | .loc _ => ""
def D.isLoc : D → Bool
  | .loc _ => true
  | _ => false
def gIsi (T : String) (d : D) : Option D := if d.isLoc = true then none else (kitB (tyN d) T).map D.bool
theorem Rp.tyX {K : PySem.W.Frag} {μ : List Addr} {H : Hp} {v : V} {d : D} (r : Rp K μ H v d) (hl : ¬ d.isLoc = true) : TyX K H v (.type (tyN d)) := by
  cases r with
  | loc h => exact absurd rfl hl
  | non => exact .base .non
  | bool _ => exact .base (.bl _)
  | int _ => exact .base (.int _)
  | str _ => exact .base (.str _)
  | lst h1 _ => exact .base (.lst h1)
  | tup h1 _ =>
    rcases h1 with (h | ⟨o, h⟩) | ⟨o, its, n, h, c, _⟩
    · exact .base (.tup h)
    · exact .fTuple h
    · exact .kTuple h c
  | scr h1 =>
    rcases h1 with (h | ⟨o, h⟩) | ⟨o, its, n, h, c, _⟩
    · exact .base (.lst h)
    · exact .base (.frz h)
    · exact .kList h c
theorem pd_isi {X : Cx} {e : Expr} {f : F} {pos p p2 : Pos} {T : Str} {t : String} (he : PE X e (tD X.K f)) (hm : X.mg "isinstance" = none) (hT : X.mg T = none) (hg : Gl X "isinstance" := by rfl) (hg2 : Gl X T := by rfl) (hv : bootBuiltins T = some (.type t) := by decide +kernel) (hn : T ≠ "__name__" := by decide) (hd : (T == ("__debug__" : Str)) = false := by decide)
    (h1 : starEach [e, .Name T p2] X.env = (false, eval e X.env) :: starEach [.Name T p2] X.env := by rfl) (h2 : starEach [.Name T p2] X.env = (false, eval (.Name T p2) X.env) :: starEach [] X.env := by rfl) (hpl : (backTo pos (starEach [.Name T p2] X.env)).any (·.1) = false := by rfl) :
    PE X (.Call (.Name "isinstance" p) [e, .Name T p2] [] pos) (tD X.K (f1 (gIsi t) f)) := by
  refine pe_imp (pe_callB call_isi hg hm (by decide +kernel) (pa_cons he (pa_cons (pe_bltn (v := .ty t) hg2 hT hv rfl hn hd) pa_nil h2) h1) (by decide) (by decide) h1 hpl) fun σ H Q ⟨μ, Hs, ρ, d, s, env, e, k⟩ => ?_
  obtain ⟨d1, e1, e2⟩ := b1_eq e
  refine ⟨μ, Hs, ρ, d1, s, env, e1, fun v H1 Hs1 x1 r1 => ?_⟩
  unfold gIsi at e2
  by_cases hl : d1.isLoc = true
  · rw [if_pos hl] at e2; cases e2
  rw [if_neg hl] at e2
  cases q : kitB (tyN d1) t with
  | none => rw [q] at e2; cases e2
  | some b =>
    rw [q] at e2
    cases e2
    exact ⟨v, .ty t, .type (tyN d1), .type t, b, rfl, .ty t, (r1.mono x1.sub).tyX hl, kit_ty q, k _ H1 Hs1 x1 (.bool _)⟩
theorem pd_globI {X : Cx} {x : Str} {z : Int} {pos : Pos} (hm : ∃ t, X.mg x = some (.int z t)) (hg : Gl X x := by rfl) (hd : (x == ("__debug__" : Str)) = false := by decide) : PE X (.Name x pos) (tD X.K (fC (.int z))) := by
  obtain ⟨t, hm⟩ := hm
  exact pd_glob (v := .int z) hm ⟨t, rfl⟩ (fun _ _ => .int _) hg hd
theorem pd_globS {X : Cx} {x : Str} {z : Str} {pos : Pos} (hm : ∃ t, X.mg x = some (.str z t)) (hg : Gl X x := by rfl) (hd : (x == ("__debug__" : Str)) = false := by decide) : PE X (.Name x pos) (tD X.K (fC (.str z))) := by
  obtain ⟨t, hm⟩ := hm
  exact pd_glob (v := .str z) hm ⟨t, rfl⟩ (fun _ _ => .str _) hg hd
end Pd

/-! Pd6: what the functions of the slots are worth, step by step. -/
namespace Pd
open PySem PySem.Spec L2 SkE
open PyProof.Rows hiding St

section
variable {ρ : Rho} {f g h : F} {fs : Fs} {ft gt : Ft} {a b c d : D} {ds es : List D} {i j : Int} {x y : Bool}
theorem x_var {i : Nat} (h : ρ[i]? = some (.val d)) : fVar i ρ = some d := by unfold fVar; rw [h]
theorem x_C : fC d ρ = some d := rfl
theorem x_f1 {G : D → Option D} (h1 : f ρ = some a) (h2 : G a = some c) : f1 G f ρ = some c := by unfold f1; rw [h1]; exact h2
theorem x_f2 {G : D → D → Option D} (h1 : f ρ = some a) (h2 : g ρ = some b) (h3 : G a b = some c) : f2 G f g ρ = some c := by unfold f2; rw [h1, b1_some, h2]; exact h3
theorem x_nil : fNil ρ = some [] := rfl
theorem x_cons (h1 : f ρ = some a) (h2 : fs ρ = some ds) : fCons f fs ρ = some (a :: ds) := by unfold fCons; rw [h1, b1_some, h2]; rfl
theorem x_L {G : List D → Option D} (h1 : fs ρ = some ds) (h2 : G ds = some c) : fL G fs ρ = some c := by unfold fL; rw [h1]; exact h2
theorem x_M {G : D → List D → Option D} (h1 : f ρ = some a) (h2 : fs ρ = some ds) (h3 : G a ds = some c) : fM G f fs ρ = some c := by unfold fM; rw [h1, b1_some, h2]; exact h3
theorem x_I {G : D → Option (List D)} (h1 : f ρ = some a) (h2 : G a = some ds) : fI G f ρ = some ds := by unfold fI; rw [h1]; exact h2
theorem x_Is {G : List D → Option (List D)} (h1 : fs ρ = some es) (h2 : G es = some ds) : fIs G fs ρ = some ds := by unfold fIs; rw [h1]; exact h2
theorem x_no : foNo ρ = some none := rfl
theorem x_oE (h1 : f ρ = some (.int i)) : foE f ρ = some (some i) := by unfold foE; rw [h1]; rfl
theorem x_sl {l u : Fo} {lo hi : Option Int} (h1 : f ρ = some a) (h2 : l ρ = some lo) (h3 : u ρ = some hi) (h4 : gSl a lo hi = some c) : fSl f l u ρ = some c := by unfold fSl; rw [h1, b1_some, h2, b1_some, h3]; exact h4
theorem x_tV (h1 : f ρ = some a) (h2 : a.tru = some x) : ftV f ρ = some x := by unfold ftV; rw [h1]; exact h2
theorem x_tB (h1 : f ρ = some (.bool x)) : ftB f ρ = some x := by unfold ftB; rw [h1]; rfl
theorem x_tand (h1 : ft ρ = some x) (h2 : x = true → gt ρ = some y) : ftAnd ft gt ρ = some (x && y) := by
  unfold ftAnd
  rw [h1]
  cases x with
  | true => exact h2 rfl
  | false => rfl
theorem x_tor (h1 : ft ρ = some x) (h2 : x = false → gt ρ = some y) : ftOr ft gt ρ = some (x || y) := by
  unfold ftOr
  rw [h1]
  cases x with
  | true => rfl
  | false => exact h2 rfl
theorem x_tnot (h1 : ft ρ = some x) : ftNot ft ρ = some (!x) := by unfold ftNot; rw [h1]; rfl
theorem x_yes : ftYes ρ = some true := rfl
/-- and, or of truth values -/
theorem x_and (h1 : f ρ = some (.bool x)) (h2 : x = true → g ρ = some (.bool y)) : fAnd f g ρ = some (.bool (x && y)) := by
  unfold fAnd
  rw [h1]
  cases x with
  | true => exact h2 rfl
  | false => rfl
theorem x_or (h1 : f ρ = some (.bool x)) (h2 : x = false → g ρ = some (.bool y)) : fOr f g ρ = some (.bool (x || y)) := by
  unfold fOr
  rw [h1]
  cases x with
  | true => rfl
  | false => exact h2 rfl
theorem x_not (h1 : f ρ = some a) (h2 : a.tru = some x) : fNot f ρ = some (.bool (!x)) := by unfold fNot; rw [h1, b1_some, h2]; rfl
theorem x_if (h1 : ft ρ = some x) (h2 : x = true → f ρ = some a) (h3 : x = false → g ρ = some a) : fIf ft f g ρ = some a := by
  unfold fIf
  rw [h1]
  cases x with
  | true => exact h2 rfl
  | false => exact h3 rfl
theorem x_chain {G G' : D → D → Option D} (h1 : f ρ = some a) (h2 : g ρ = some b) (h3 : G a b = some (.bool x)) (h4 : x = true → h ρ = some c) (h5 : x = true → G' b c = some (.bool y)) : fChain G G' f g h ρ = some (.bool (x && y)) := by
  unfold fChain
  rw [h1, b1_some, h2, b1_some, h3, b1_some]
  cases x with
  | true =>
    show b1 (h ρ) _ = _
    rw [h4 rfl]
    exact h5 rfl
  | false => rfl
theorem x_lc {fi : Fs} {set : D → Rho → Option Rho} {vs : List Nat} (h1 : fi ρ = some ds) (hz : ds.length ≤ 1000000) (h2 : lcGo set ft f (wipeR ρ vs) ds = some es) : fLc fi set ft f vs ρ = some (.lst es) := by
  unfold fLc
  rw [h1, b1_some, if_pos hz, h2]
  rfl
/-- a comprehension: kept by p, its value by v -/
theorem x_lcGo {set : D → Rho → Option Rho} {α : Type} {inj : α → D} {p : α → Bool} {v : α → D} : ∀ {xs : List α}, (∀ z ∈ xs, ∃ ρ', set (inj z) ρ = some ρ' ∧ ft ρ' = some (p z) ∧ (p z = true → f ρ' = some (v z))) → lcGo set ft f ρ (xs.map inj) = some ((xs.filter p).map v)
  | [], _ => rfl
  | z :: xs, hz => by
    obtain ⟨ρ', h1, h2, h3⟩ := hz z List.mem_cons_self
    have ih := x_lcGo (xs := xs) fun w hw => hz w (List.mem_cons_of_mem _ hw)
    rw [List.map_cons]
    unfold lcGo
    rw [h1, b1_some, h2, b1_some]
    cases q : p z with
    | true =>
      rw [if_pos rfl, h3 q, b1_some, ih, b1_some, List.filter_cons_of_pos q, List.map_cons]
    | false =>
      rw [if_neg Bool.false_ne_true, ih, List.filter_cons_of_neg (by rw [q]; exact Bool.false_ne_true)]
/-! operations -/
theorem x_add : gAdd (.int i) (.int j) = some (.int (i + j)) := rfl
theorem x_addS {a b : Str} (h : a.length + b.length ≤ sizeLine) : gAdd (.str a) (.str b) = some (.str (a ++ b)) := if_pos h
theorem x_addL (h : ds.length + es.length ≤ sizeLine) : gAdd (.lst ds) (.lst es) = some (.lst (ds ++ es)) := if_pos h
theorem x_addT (h : ds.length + es.length ≤ sizeLine) : gAdd (.tup ds) (.tup es) = some (.tup (ds ++ es)) := if_pos h
theorem x_sub : gSub (.int i) (.int j) = some (.int (i - j)) := rfl
theorem x_mulL (h1 : -(2 ^ 64) < i) (h2 : i < 2 ^ 64) : gMul (.int i) (.int j) = some (.int (i * j)) := if_pos (.inl ⟨h1, h2⟩)
theorem x_mulR (h1 : -(2 ^ 64) < j) (h2 : j < 2 ^ 64) : gMul (.int i) (.int j) = some (.int (i * j)) := if_pos (.inr ⟨h1, h2⟩)
theorem x_div (h1 : 0 < j) (h2 : j < 1073741824) : gDiv (.int i) (.int j) = some (.int (i / j)) := if_pos ⟨h1, h2⟩
theorem x_mod (h1 : 0 < j) : gMod (.int i) (.int j) = some (.int (i % j)) := if_pos h1
theorem x_neg : gNeg (.int i) = some (.int (-i)) := rfl
theorem x_eqI : gEq (.int i) (.int j) = some (.bool (decide (i = j))) := rfl
theorem x_eqS {a b : Str} : gEq (.str a) (.str b) = some (.bool (decide (a = b))) := rfl
theorem x_eqB {a b : Bool} : gEq (.bool a) (.bool b) = some (.bool (decide (a = b))) := rfl
theorem x_neI : gNe (.int i) (.int j) = some (.bool (!decide (i = j))) := rfl
theorem x_neS {a b : Str} : gNe (.str a) (.str b) = some (.bool (!decide (a = b))) := rfl
theorem x_neB {a b : Bool} : gNe (.bool a) (.bool b) = some (.bool (!decide (a = b))) := rfl
theorem x_eqD (h1 : a.sc2 b = false) (h2 : SeqAt.shaped a.py = true) (h3 : SeqAt.shaped b.py = true) : gEq a b = some (.bool (PyData.eqv a.py b.py)) := by
  unfold gEq
  rw [h1, if_neg Bool.false_ne_true, h2, h3]
  rfl
theorem x_neD (h1 : a.sc2 b = false) (h2 : SeqAt.shaped a.py = true) (h3 : SeqAt.shaped b.py = true) : gNe a b = some (.bool (!PyData.eqv a.py b.py)) := by
  unfold gNe
  rw [h1, if_neg Bool.false_ne_true, h2, h3]
  rfl
theorem x_lt : gLt (.int i) (.int j) = some (.bool (decide (i < j))) := rfl
theorem x_le : gLe (.int i) (.int j) = some (.bool (decide (i ≤ j))) := rfl
theorem x_gt : gGt (.int i) (.int j) = some (.bool (decide (j < i))) := rfl
theorem x_ge : gGe (.int i) (.int j) = some (.bool (decide (j ≤ i))) := rfl
theorem x_ltS {a b : Str} : gLt (.str a) (.str b) = some (.bool (decide (a.cps.toList < b.cps.toList))) := rfl
theorem x_gtS {a b : Str} : gGt (.str a) (.str b) = some (.bool (decide (b.cps.toList < a.cps.toList))) := rfl
theorem x_inC {k : Nat} {z : Str} : gIn (.str ⟨#[k]⟩) (.str z) = some (.bool (decide (k ∈ z.cps.toList))) := rfl
theorem x_notInC {k : Nat} {z : Str} : gNotIn (.str ⟨#[k]⟩) (.str z) = some (.bool (!decide (k ∈ z.cps.toList))) := rfl
theorem x_lenS {z : Str} (h : z.length ≤ sizeLine) : gLen [.str z] = some (.int z.length) := if_pos h
theorem x_lenL : gLen [.lst ds] = some (.int ds.length) := rfl
theorem x_lenT : gLen [.tup ds] = some (.int ds.length) := rfl
theorem x_lenN {ns : List Int} : gLen [.scr ns] = some (.int ns.length) := rfl
theorem x_int : gInt [.int i] = some (.int i) := rfl
theorem x_intB {k : Bool} : gInt [.bool k] = some (.int (if k then 1 else 0)) := rfl
theorem x_intS {z : Str} (h1 : z.length ≤ 640) (h2 : PySem.intText? z = some i) : gInt [.str z] = some (.int i) := by
  show (if z.length ≤ 640 then (PySem.intText? z).map D.int else none) = _
  rw [if_pos h1, h2]
  rfl
theorem x_str (h : i.natAbs.log2 < 1920) : gStr [.int i] = some (.str (toString i)) := if_pos h
theorem x_strS {z : Str} : gStr [.str z] = some (.str z) := rfl
theorem x_abs : gAbs [.int i] = some (.int (if i < 0 then -i else i)) := rfl
theorem x_ixL (h : atI ds i = some a) : gIx (.lst ds) (.int i) = some a := h
theorem x_ixT (h : atI ds i = some a) : gIx (.tup ds) (.int i) = some a := h
theorem x_ixN {ns : List Int} {k : Int} (h : atI ns i = some k) : gIx (.scr ns) (.int i) = some (.int k) := by
  show (atI ns i).map D.int = _
  rw [h]
  rfl
theorem x_ixS {z : Str} {k : Nat} (hz : z.length ≤ sizeLine) (h : atI z.cps.toList i = some k) : gIx (.str z) (.int i) = some (.str ⟨#[k]⟩) := by
  show (if z.length ≤ sizeLine then (atI z.cps.toList i).map fun c => D.str ⟨#[c]⟩ else none) = _
  rw [if_pos hz, h]
  rfl
theorem x_tupD (h : ds.length ≤ sizeLine) : gTupD ds = some (.tup ds) := if_pos h
theorem x_lstD (h : ds.length ≤ sizeLine) : gLstD ds = some (.lst ds) := if_pos h
theorem x_R1' (h0 : 0 ≤ i) (h : i < 1000000000) : itR1 [.int i] = some (rngD 0 i.toNat) := by
  have hc : -(2 ^ 62) ≤ i ∧ i < 2 ^ 62 := ⟨by omega, by omega⟩
  unfold itR1
  exact if_pos hc
theorem x_R1 {n : Nat} (h : n < 1000000000) : itR1 [.int n] = some (rngD 0 n) := by
  have e := x_R1' (i := (n : Int)) (by omega) (by omega)
  rw [Int.toNat_natCast] at e
  exact e
theorem x_R2 (h1 : -1000000000 < i) (h2 : i < 1000000000) (h3 : -1000000000 < j) (h4 : j < 1000000000) : itR2 [.int i, .int j] = some (rngD i (j - i).toNat) := by
  have hc : -(2 ^ 62) ≤ i ∧ i < 2 ^ 62 ∧ -(2 ^ 62) ≤ j ∧ j < 2 ^ 62 := ⟨by omega, by omega, by omega, by omega⟩
  unfold itR2
  exact if_pos hc
theorem atI_n {α : Type} {xs : List α} {k : Nat} {a : α} (h : xs[k]? = some a) : atI xs (k : Int) = some a := by
  obtain ⟨hl, _⟩ := List.getElem?_eq_some_iff.mp h
  unfold atI ixN
  rw [if_pos (by omega), if_pos (by omega)]
  exact h
theorem atI_pos {α : Type} {xs : List α} {i : Int} {a : α} (h0 : 0 ≤ i) (h : xs[i.toNat]? = some a) : atI xs i = some a := by
  obtain ⟨k, rfl⟩ := Int.eq_ofNat_of_zero_le h0
  exact atI_n h
theorem x_splitM {a b : Str} (h1 : (b.length == 0) = false) (h2 : a.length + 2 ≤ sizeLine) : gSplit (.str a) [.str b] = some (.lst ((Txt.split a b).map D.str)) := if_pos ⟨h1, h2⟩
theorem x_partM {a b : Str} (h1 : (b.length == 0) = false) (h2 : a.length ≤ sizeLine) : gPartition (.str a) [.str b] = some (.tup [.str (Txt.partition a b).1, .str (Txt.partition a b).2.1, .str (Txt.partition a b).2.2]) := if_pos ⟨h1, h2⟩
theorem x_startsM {a b : Str} : gStarts (.str a) [.str b] = some (.bool (Txt.startswith a b)) := rfl
theorem x_endsM {a b : Str} : gEnds (.str a) [.str b] = some (.bool (Txt.endswith a b)) := rfl
theorem x_upperM {a : Str} (h : a.length ≤ 5592405) : gUpper (.str a) [] = some (.str (Txt.upper a)) := if_pos h
theorem x_joinL {a : Str} {ys : List Str} (h1 : D.strs? ds = some ys) (h2 : (ys.map (·.length)).sum + ys.length * a.length ≤ 16777216) : gJoin (.str a) [.lst ds] = some (.str (Txt.join a ys)) := by
  show b1 (D.strs? ds) _ = _
  rw [h1, b1_some, if_pos h2]
theorem x_truB : (D.bool x).tru = some x := rfl
theorem x_truL : (D.lst ds).tru = some (!ds.isEmpty) := rfl
theorem x_truT : (D.tup ds).tru = some (!ds.isEmpty) := rfl
theorem x_truI : (D.int i).tru = some (i != 0) := rfl
theorem x_truN : D.non.tru = some false := rfl
theorem x_truS {z : Str} (h : z.length ≤ sizeLine) : (D.str z).tru = some ((z.length : Int) != 0) := if_pos h
theorem x_isN0 : gIsN .non .non = some (.bool true) := rfl
theorem x_notN0 : gNotN .non .non = some (.bool false) := rfl
theorem x_isN1 (h : a.sc2 .non = true) (h2 : a.eqs .non = false) : gIsN a .non = some (.bool false) := by cases a <;> first | rfl | exact absurd h2 (by decide)
theorem x_isi {T : String} {b : Bool} (h : kitB (tyN a) T = some b) (hl : a.isLoc = false := by rfl) : gIsi T a = some (.bool b) := by unfold gIsi; rw [hl, h]; rfl
end
theorem kit_bool : kitB "bool" "bool" = some true := by decide +kernel
theorem kit_int_bool : kitB "int" "bool" = some false := by decide +kernel
theorem kit_str : kitB "str" "str" = some true := by decide +kernel
theorem kit_list : kitB "list" "list" = some true := by decide +kernel
theorem kit_tuple : kitB "tuple" "tuple" = some true := by decide +kernel
theorem kit_int : kitB "int" "int" = some true := by decide +kernel
theorem kit_bool_int : kitB "bool" "int" = some true := by decide +kernel

/-! ### statements, by what is wanted of their end -/
def W (g : Gs) (ρ : Rho) (Q : Fl → Prop) : Prop := ∃ fl, g ρ = some fl ∧ Q fl
section
variable {ρ : Rho} {f : F} {fs fi : Fs} {ft : Ft} {g g1 g2 : Gs} {Q : Fl → Prop} {d : D} {ds : List D} {x : Bool}
theorem w_nil (h : Q (.nx ρ)) : W nilG ρ Q := ⟨_, rfl, h⟩
def sQ (g : Gs) (Q : Fl → Prop) : Fl → Prop
  | .nx ρ => W g ρ Q
  | fl => Q fl
theorem w_seq (h : W g1 ρ (sQ g2 Q)) : W (seqG g1 g2) ρ Q := by
  obtain ⟨fl, h1, h2⟩ := h
  unfold W seqG
  rw [h1]
  cases fl with
  | nx ρ' => exact h2
  | bk _ => exact ⟨_, rfl, h2⟩
  | ct _ => exact ⟨_, rfl, h2⟩
  | rt _ => exact ⟨_, rfl, h2⟩
theorem w_ret (h1 : f (shw ρ) = some d) (h : Q (.rt d)) : W (retG f) ρ Q := ⟨_, by unfold retG; rw [h1]; rfl, h⟩
theorem w_retN (h : Q (.rt .non)) : W retN ρ Q := ⟨_, rfl, h⟩
theorem w_if (h1 : ft (shw ρ) = some x) (h2 : x = true → W g1 ρ Q) (h3 : x = false → W g2 ρ Q) : W (ifG ft g1 g2) ρ Q := by
  unfold W ifG
  rw [h1]
  cases x with
  | true => exact h2 rfl
  | false => exact h3 rfl
theorem w_asg {i : Nat} (h1 : f ρ = some d) (h : Q (.nx (ρ.set i (.val d)))) : W (asgG (st1 i) f) ρ Q := ⟨_, by unfold asgG evG; rw [h1]; rfl, h⟩
theorem w_asgS {i : Nat} (h0 : f ρ = none) (h1 : f (shw ρ) = some d) (h2 : d.sca = true) (h : Q (.nx (ρ.set i (.val d)))) : W (asgG (st1 i) f) ρ Q := ⟨_, by unfold asgG evG; rw [h0, h1]; show b1 (if d.sca = true then some d else none) _ = _; rw [if_pos h2]; rfl, h⟩
theorem w_asg2 {i j : Nat} {a b : D} (h1 : f ρ = some (.tup [a, b])) (h : Q (.nx ((ρ.set i (.val a)).set j (.val b)))) : W (asgG (st2 i j) f) ρ Q := ⟨_, by unfold asgG evG; rw [h1]; rfl, h⟩
theorem w_asg3 {i j k : Nat} {a b c : D} (h1 : f ρ = some (.tup [a, b, c])) (h : Q (.nx (((ρ.set i (.val a)).set j (.val b)).set k (.val c)))) : W (asgG (st3 i j k) f) ρ Q := ⟨_, by unfold asgG evG; rw [h1]; rfl, h⟩
theorem w_new {i : Nat} (h1 : fs ρ = some ds) (hz : ds.length ≤ sizeLine) (h : Q (.nx (ρ.set i (.own ds)))) : W (newG i fs) ρ Q := ⟨_, by unfold newG; rw [h1, b1_some, if_pos hz], h⟩
theorem w_drop (h1 : f (shw ρ) = some d) (h : Q (.nx ρ)) : W (dropG f) ρ Q := ⟨_, by unfold dropG; rw [h1]; rfl, h⟩
theorem w_app {i : Nat} (h0 : ρ[i]? = some (.own ds)) (h1 : f ρ = some d) (hz : ds.length < sizeLine) (h : Q (.nx (ρ.set i (.own (ds ++ [d]))))) : W (appG i f) ρ Q := ⟨_, by unfold appG evG; rw [h0, h1]; show (if ds.length < sizeLine then _ else _) = _; rw [if_pos hz], h⟩
theorem w_brk (h : Q (.bk ρ)) : W brkG ρ Q := ⟨_, rfl, h⟩
theorem w_cnt (h : Q (.ct ρ)) : W cntG ρ Q := ⟨_, rfl, h⟩
/-- behind a turn: what goes on, what leaves the loop -/
def tQ (I : Rho → Prop) (Q : Fl → Prop) : Fl → Prop
  | .nx ρ => I ρ
  | .ct ρ => I ρ
  | .bk ρ => Q (.nx ρ)
  | .rt d => Q (.rt d)
/-- a loop by what holds ahead of each item -/
theorem w_for {set : D → Rho → Option Rho} (I : List D → Rho → Prop) (h1 : fi ρ = some ds) (h0 : I ds ρ)
    (hs : ∀ d rest ρ, I (d :: rest) ρ → ∃ ρ', set d ρ = some ρ' ∧ W g ρ' (tQ (I rest) Q)) (hd : ∀ ρ, I [] ρ → Q (.nx ρ)) : W (forG fi set g) ρ Q := by
  have key : ∀ (ds : List D) (ρ : Rho), I ds ρ → ∃ fl, forGo (turnG set g) ds ρ = some fl ∧ Q fl := by
    intro ds
    induction ds with
    | nil => exact fun ρ h => ⟨_, rfl, hd ρ h⟩
    | cons d rest ih =>
      intro ρ h
      obtain ⟨ρ', e1, fl, e2, q⟩ := hs d rest ρ h
      unfold forGo turnG
      rw [e1, b1_some, e2]
      cases fl with
      | nx ρ2 => exact ih ρ2 q
      | ct ρ2 => exact ih ρ2 q
      | bk ρ2 => exact ⟨_, rfl, q⟩
      | rt d2 => exact ⟨_, rfl, q⟩
  unfold W forG
  rw [h1]
  exact key ds ρ h0
end
/-- a def's value -/
def vQ (d : D) : Fl → Prop
  | .rt e => e = d
  | .nx _ => D.non = d
  | _ => False
theorem f_of {n : Nat} {N : List Str} {g : Gs} {ds : List D} {d : D} (hl : ds.length = n) (h : W g (rho0 N ds) (vQ d)) : dF n N g ds = some d := by
  obtain ⟨fl, h1, h2⟩ := h
  unfold dF runG
  rw [if_pos hl, h1]
  cases fl with
  | rt e => cases h2; rfl
  | nx _ => cases h2; rfl
  | bk _ => exact h2.elim
  | ct _ => exact h2.elim
def vP (P : D → Prop) : Fl → Prop
  | .rt e => P e
  | .nx _ => P .non
  | _ => False
theorem f_ex {n : Nat} {N : List Str} {g : Gs} {ds : List D} {P : D → Prop} (hl : ds.length = n) (h : W g (rho0 N ds) (vP P)) : ∃ d, dF n N g ds = some d ∧ P d := by
  obtain ⟨fl, h1, h2⟩ := h
  unfold dF runG
  rw [if_pos hl, h1]
  cases fl with
  | rt e => exact ⟨e, rfl, h2⟩
  | nx _ => exact ⟨.non, rfl, h2⟩
  | bk _ => exact h2.elim
  | ct _ => exact h2.elim
theorem starts_eq (x y : Str) : Txt.startswith x y = ((TL.tl x).take (TL.tl y).length == TL.tl y) := by
  unfold Txt.startswith
  rw [StrLaws.subAt_eq, List.drop_zero, Nat.zero_add, TL.len_tl, TL.len_tl]
  show (decide ((TL.tl y).length ≤ (TL.tl x).length) && ((TL.tl x).take (TL.tl y).length == TL.tl y)) = _
  by_cases h : (TL.tl y).length ≤ (TL.tl x).length
  · rw [decide_eq_true h, Bool.true_and]
  · rw [decide_eq_false h, Bool.false_and]
    symm
    rw [beq_eq_false_iff_ne]
    intro e
    have := congrArg List.length e
    rw [List.length_take] at this
    omega
/-! the first dash -/
def dash (l : List Nat) : Option (List Nat × List Nat) := match l with
  | [] => none
  | c :: r => if c = 45 then some ([], r) else (dash r).map fun p => (c :: p.1, p.2)
theorem dash_par : ∀ (l acc : List Nat), TL.par [45] acc l = (dash l).map fun p => (acc ++ p.1, p.2)
  | [], acc => rfl
  | c :: r, acc => by
    unfold TL.par dash
    by_cases h : c = 45
    · subst h
      rw [if_pos rfl, if_pos (by unfold TL.pre; simp)]
      simp
    · rw [if_neg h, if_neg (by unfold TL.pre; simp [h]), dash_par r (acc ++ [c])]
      cases dash r <;> simp
theorem dash_some : ∀ {l a b : List Nat}, dash l = some (a, b) → l = a ++ 45 :: b ∧ 45 ∉ a
  | [], _, _, h => by cases h
  | c :: r, a, b, h => by
    unfold dash at h
    by_cases hc : c = 45
    · rw [if_pos hc] at h
      cases h
      subst hc
      exact ⟨rfl, by simp⟩
    · rw [if_neg hc] at h
      cases q : dash r with
      | none => rw [q] at h; cases h
      | some p =>
        obtain ⟨a', b'⟩ := p
        rw [q] at h
        cases h
        obtain ⟨h1, h2⟩ := dash_some q
        exact ⟨by rw [h1]; rfl, by simp [h2]; omega⟩
theorem dash_none : ∀ {l : List Nat}, dash l = none → 45 ∉ l
  | [], _ => by simp
  | c :: r, h => by
    unfold dash at h
    by_cases hc : c = 45
    · rw [if_pos hc] at h; cases h
    · rw [if_neg hc] at h
      cases q : dash r with
      | none => simp [dash_none q]; omega
      | some p => rw [q] at h; cases h
theorem dash_app {a b : List Nat} (h : 45 ∉ a) : dash (a ++ 45 :: b) = some (a, b) := by
  induction a with
  | nil => rfl
  | cons c a ih =>
    have hc : c ≠ 45 := fun z => h (by simp [z])
    have ha : 45 ∉ a := fun z => h (by simp [z])
    show (if c = 45 then some ([], a ++ 45 :: b) else (dash (a ++ 45 :: b)).map fun p => (c :: p.1, p.2)) = _
    rw [if_neg hc, ih ha]
    rfl
theorem partition_dash (x : Str) : Txt.partition x "-" = match dash (TL.tl x) with
    | some (a, b) => (⟨a.toArray⟩, "-", ⟨b.toArray⟩)
    | none => (x, Str.empty, Str.empty) := by
  have e : TL.tl ("-" : Str) = [45] := by decide +kernel
  rw [TL.partition_par x "-" (by rw [e]; simp), e, dash_par]
  cases dash (TL.tl x) with
  | none => rfl
  | some p => rfl
end Pd

/-! Sd0: defs that change objects, as functions of a store. A store is a list of cells; a value names a cell by its place. -/
namespace Pd
open PySem PySem.Spec L2 SkE
open PyProof.Rows hiding St

inductive Cell where
  | ins (c : Str) (fs : List (Str × D))
  | lst (ds : List D)
  | dct (kv : List (Key × D))
  | dcL (od : Obj) (vs : List (Key × V)) (kv : List (Key × D))
abbrev Store := List Cell
structure Exn where
  cls : Str
  fs : List (Str × D)
inductive Res (α : Type) where
  | ok (a : α)
  | er (x : Exn)
def FRp (K : PySem.W.Frag) (μ : List Addr) (H : Hp) {κ : Type} : List (κ × V) → List (κ × D) → Prop := Paired fun p q => p.1 = q.1 ∧ Rp K μ H p.2 q.2
def CellOk (K : PySem.W.Frag) (mg : Str → Option Value) (μ : List Addr) (Hs H : Hp) (a : Addr) : Cell → Prop
  | .ins c fs => ∃ (C dx : Addr) (vs : List (Str × V)), mg c = some (.ref C) ∧ H a = some (.ins C dx vs) ∧ FRp K μ Hs vs fs
  | .lst ds => ∃ vs, H a = some (.lst vs) ∧ RpA K μ Hs vs ds
  | .dct kv => ∃ vs, H a = some (.dK vs) ∧ FRp K μ Hs vs kv
  | .dcL od vs kv => H a = some (.frz od (.dK vs)) ∧ FRp K μ Hs vs kv
/-- the heap H is the part Hs (read only) and the cells of the store S, which stand at the addresses μ -/
structure Sim (K : PySem.W.Frag) (mg : Str → Option Value) (μ : List Addr) (Hs H : Hp) (S : Store) : Prop where
  sub : Same Hs H
  len : μ.length = S.length
  nd : ∀ (i j : Nat) (a : Addr), μ[i]? = some a → μ[j]? = some a → i = j
  cell : ∀ (n : Nat) (a : Addr) (c : Cell), μ[n]? = some a → S[n]? = some c → CellOk K mg μ Hs H a c ∧ Hs a = none
/-- more places, more that is only read -/
structure Gr (μ : List Addr) (Hs : Hp) (μ' : List Addr) (Hs' : Hp) : Prop where
  pre : ∃ l, μ' = μ ++ l
  sub : Same Hs Hs'
theorem Gr.refl (μ : List Addr) (Hs : Hp) : Gr μ Hs μ Hs := ⟨⟨[], by simp⟩, Same.refl _⟩
theorem Gr.trans {μ μ1 μ2 : List Addr} {Hs Hs1 Hs2 : Hp} (a : Gr μ Hs μ1 Hs1) (b : Gr μ1 Hs1 μ2 Hs2) : Gr μ Hs μ2 Hs2 := by
  obtain ⟨l, rfl⟩ := a.pre
  obtain ⟨m, rfl⟩ := b.pre
  exact ⟨⟨l ++ m, by simp⟩, a.sub.trans b.sub⟩
theorem Gr.part {μ : List Addr} {Hs Hs' : Hp} (h : Same Hs Hs') : Gr μ Hs μ Hs' := ⟨⟨[], by simp⟩, h⟩
theorem Gr.get {μ μ' : List Addr} {Hs Hs' : Hp} (g : Gr μ Hs μ' Hs') {n : Nat} {a : Addr} (h : μ[n]? = some a) : μ'[n]? = some a := by
  obtain ⟨l, rfl⟩ := g.pre
  obtain ⟨hl, _⟩ := List.getElem?_eq_some_iff.mp h
  rw [List.getElem?_append_left hl]
  exact h
section
variable {K : PySem.W.Frag} {μ μ' : List Addr} {H H' : Hp}
mutual
theorem Rp.gr (g : Gr μ H μ' H') : ∀ (d : D) (v : V), Rp K μ H v d → Rp K μ' H' v d
  | .non, _, h => by cases h; exact .non
  | .bool b, _, h => by cases h; exact .bool _
  | .int i, _, h => by cases h; exact .int _
  | .str x, _, h => by cases h; exact .str _
  | .lst ds, _, h => by
    cases h with
    | lst h1 h2 => exact .lst (g.sub _ _ h1) (RpA.gr g _ _ h2)
  | .tup ds, _, h => by
    cases h with
    | tup h1 h2 => exact .tup (sqT_mono g.sub h1) (RpA.gr g _ _ h2)
  | .scr ns, _, h => by
    cases h with
    | scr h1 => exact .scr (g.sub.seq h1)
  | .loc n, _, h => by
    cases h with
    | loc h1 => exact .loc (g.get h1)
theorem RpA.gr (g : Gr μ H μ' H') : ∀ (ds : List D) (vs : List V), RpA K μ H vs ds → RpA K μ' H' vs ds
  | [], _, h => by cases h; exact .nil
  | d :: ds, _, h => by
    cases h with
    | cons h1 h2 => exact .cons (Rp.gr g _ _ h1) (RpA.gr g _ _ h2)
end
theorem FRp.gr {κ : Type} (g : Gr μ H μ' H') {l : List (κ × V)} {m : List (κ × D)} (h : FRp K μ H l m) : FRp K μ' H' l m := paired_imp (fun _ _ z => ⟨z.1, z.2.gr g⟩) h
theorem VOk.gr (g : Gr μ H μ' H') {ov : Option V} : ∀ {x : Sl}, VOk K μ H ov x → VOk K μ' H' ov x
  | .val d, ⟨v, h1, h2⟩ => ⟨v, h1, h2.gr g⟩
  | .raw v, h => h
  | .own _, _ => trivial
  | .junk, _ => trivial
  | .exc _ _ _, ⟨h1, h2⟩ => ⟨h1, h2.imp id fun ⟨dd, vs, q1, q2, q3⟩ => ⟨dd, vs, q1, g.sub _ _ q2, paired_imp (fun _ _ z => ⟨z.1, z.2.gr g⟩) q3⟩⟩
theorem VEnv.gr (g : Gr μ H μ' H') {σ : St} {ρ : Rho} (h : VEnv K μ H σ ρ) : VEnv K μ' H' σ ρ := paired_imp (fun _ _ => VOk.gr g) h
end
section
variable {K : PySem.W.Frag} {mg : Str → Option Value} {μ : List Addr} {Hs H Hs' H' : Hp} {S : Store}
theorem CellOk.move {a : Addr} {c : Cell} {μ' : List Addr} (g : Gr μ Hs μ' Hs') (ha : ∀ o, H a = some o → H' a = some o) (h : CellOk K mg μ Hs H a c) : CellOk K mg μ' Hs' H' a c := by
  cases c with
  | ins c fs => obtain ⟨C, dx, vs, h1, h2, h3⟩ := h; exact ⟨C, dx, vs, h1, ha _ h2, h3.gr g⟩
  | lst ds => obtain ⟨vs, h1, h2⟩ := h; exact ⟨vs, ha _ h1, h2.gr g⟩
  | dct kv => obtain ⟨vs, h1, h2⟩ := h; exact ⟨vs, ha _ h1, h2.gr g⟩
  | dcL od vs kv => obtain ⟨h1, h2⟩ := h; exact ⟨ha _ h1, h2.gr g⟩
theorem CellOk.some {a : Addr} {c : Cell} (h : CellOk K mg μ Hs H a c) : ∃ o, H a = some o ∧ True := by
  cases c with
  | ins c fs => obtain ⟨C, dx, vs, h1, h2, h3⟩ := h; exact ⟨_, h2, trivial⟩
  | lst ds => obtain ⟨vs, h1, h2⟩ := h; exact ⟨_, h1, trivial⟩
  | dct kv => obtain ⟨vs, h1, h2⟩ := h; exact ⟨_, h1, trivial⟩
  | dcL od vs kv => obtain ⟨h1, h2⟩ := h; exact ⟨_, h1, trivial⟩
theorem Sim.at (s : Sim K mg μ Hs H S) {n : Nat} {a : Addr} (h : μ[n]? = some a) : ∃ c, S[n]? = some c ∧ CellOk K mg μ Hs H a c ∧ Hs a = none := by
  obtain ⟨hl, _⟩ := List.getElem?_eq_some_iff.mp h
  rw [s.len] at hl
  exact ⟨S[n], List.getElem?_eq_getElem hl, s.cell n a _ h (List.getElem?_eq_getElem hl)⟩
theorem Sim.addr (s : Sim K mg μ Hs H S) {n : Nat} {c : Cell} (h : S[n]? = some c) : ∃ a, μ[n]? = some a ∧ CellOk K mg μ Hs H a c ∧ Hs a = none := by
  obtain ⟨hl, _⟩ := List.getElem?_eq_some_iff.mp h
  rw [← s.len] at hl
  exact ⟨μ[n], List.getElem?_eq_getElem hl, s.cell n _ c (List.getElem?_eq_getElem hl) h⟩
/-- what is only read grows, new objects come beside -/
theorem Sim.ext (s : Sim K mg μ Hs H S) (x : Ext Hs H Hs' H') : Sim K mg μ Hs' H' S := by
  refine ⟨x.sub, s.len, s.nd, fun n a c h1 h2 => ?_⟩
  obtain ⟨h3, h4⟩ := s.cell n a c h1 h2
  refine ⟨h3.move (Gr.part x.part) fun o h => x.all _ _ h, ?_⟩
  cases q : Hs' a with
  | none => rfl
  | some o =>
    obtain ⟨o2, h5, _⟩ := h3.some
    rcases x.new a o q with z | z
    · rw [h4] at z; cases z
    · rw [h5] at z; cases z
theorem Sim.side (s : Sim K mg μ Hs H S) (x : Same H H') : Sim K mg μ Hs H' S := s.ext (Ext.side s.sub x)
/-- a new cell, at a new address -/
theorem Sim.alloc (s : Sim K mg μ Hs H S) {p : Addr} {c : Cell} {o : HO} (hp : H p = none) (hc : CellOk K mg (μ ++ [p]) Hs (upd H p o) p c) : Sim K mg (μ ++ [p]) Hs (upd H p o) (S ++ [c]) ∧ Gr μ Hs (μ ++ [p]) Hs := by
  have g : Gr μ Hs (μ ++ [p]) Hs := ⟨⟨[p], rfl⟩, Same.refl _⟩
  have hps : Hs p = none := s.sub.free hp
  have al : Same H (upd H p o) := (Ext.made (Same.refl H) hp).all
  have old : ∀ (n : Nat) (a : Addr), μ[n]? = some a → a ≠ p := fun n a h z => by
    subst z
    obtain ⟨c, _, h3, _⟩ := s.at h
    obtain ⟨o2, h5, _⟩ := h3.some
    rw [hp] at h5
    cases h5
  have split : ∀ (n : Nat) (a : Addr), (μ ++ [p])[n]? = some a → μ[n]? = some a ∨ (n = μ.length ∧ a = p) := fun n a h => by
    rw [List.getElem?_append] at h
    split at h
    · exact .inl h
    · rename_i hn
      have : n - μ.length = 0 := by
        have := (List.getElem?_eq_some_iff.mp h).1
        simp at this
        omega
      rw [this] at h
      simp at h
      exact .inr ⟨by omega, h.symm⟩
  refine ⟨⟨s.sub.trans al, by simp [s.len], fun i j a h1 h2 => ?_, fun n a c' h1 h2 => ?_⟩, g⟩
  · rcases split i a h1 with h1 | ⟨e1, e2⟩
    · rcases split j a h2 with h2 | ⟨e3, e4⟩
      · exact s.nd i j a h1 h2
      · exact absurd e4 (old _ _ h1)
    · rcases split j a h2 with h2 | ⟨e3, e4⟩
      · exact absurd e2 (old _ _ h2)
      · exact e1.trans e3.symm
  · rcases split n a h1 with h1 | ⟨rfl, rfl⟩
    · obtain ⟨hl, _⟩ := List.getElem?_eq_some_iff.mp h1
      rw [List.getElem?_append_left (by rw [← s.len]; exact hl)] at h2
      obtain ⟨h3, h4⟩ := s.cell n a c' h1 h2
      exact ⟨h3.move g fun o' h => by rw [upd_ne (old n a h1)]; exact h, h4⟩
    · rw [s.len, List.getElem?_append_right (Nat.le_refl _), Nat.sub_self] at h2
      simp at h2
      subst h2
      exact ⟨hc, hps⟩
/-- a cell is changed -/
theorem Sim.write (s : Sim K mg μ Hs H S) {n : Nat} {a : Addr} {c : Cell} {o : HO} (ha : μ[n]? = some a) (hc : CellOk K mg μ Hs (upd H a o) a c) : Sim K mg μ Hs (upd H a o) (S.set n c) := by
  obtain ⟨c0, h0, h1, h2⟩ := s.at ha
  have sub : Same Hs (upd H a o) := fun b u hb => by
    rw [upd_ne (fun z => by subst z; rw [h2] at hb; cases hb)]
    exact s.sub _ _ hb
  refine ⟨sub, by simp [s.len], s.nd, fun m b c' h3 h4 => ?_⟩
  by_cases hm : m = n
  · subst hm
    rw [ha] at h3
    cases h3
    obtain ⟨hl, _⟩ := List.getElem?_eq_some_iff.mp h0
    rw [List.getElem?_set_self hl] at h4
    cases h4
    exact ⟨hc, h2⟩
  · rw [List.getElem?_set_ne (Ne.symm hm)] at h4
    obtain ⟨h5, h6⟩ := s.cell m b c' h3 h4
    have nb : b ≠ a := fun z => by
      subst z
      exact hm (s.nd m n b h3 ha)
    exact ⟨h5.move (Gr.refl _ _) fun o' h => by rw [upd_ne nb]; exact h, h6⟩
end

/-! ### exceptions -/
def ExOk (K : PySem.W.Frag) (mg : Str → Option Value) (μ : List Addr) (Hs H : Hp) (x : Exn) (cls : Value) (dx : Option Addr) : Prop :=
  ∃ C : Addr, mg x.cls = some (.ref C) ∧ cls = .ref C ∧ ((x.fs = [] ∧ dx = none) ∨ ∃ (d : Addr) (vs : List (Str × V)), x.fs ≠ [] ∧ dx = some d ∧ H d = some (.xd vs) ∧ Hs d = none ∧ FRp K μ Hs vs x.fs)

/-! ### the judgements -/
abbrev SF := Rho → Store → Option (Res D × Store)
abbrev SFs := Rho → Store → Option (Res (List D) × Store)
abbrev SFt := Rho → Store → Option (Res Bool × Store)
def PostM (K : PySem.W.Frag) (mg : Str → Option Value) (W : WX) (σ : St) (μ : List Addr) (Hs : Hp) {α : Type} (r : Res α) (S1 : Store) (good : α → List Addr → Hp → Hp → Prop) : Prop := match r with
  | .ok a => ∀ μ' Hs' H', Gr μ Hs μ' Hs' → Sim K mg μ' Hs' H' S1 → good a μ' Hs' H'
  | .er x => ∀ μ' Hs' H' cls dx, Gr μ Hs μ' Hs' → Sim K mg μ' Hs' H' S1 → ExOk K mg μ' Hs' H' x cls dx → W cls dx σ H'
def tM (K : PySem.W.Frag) (mg : Str → Option Value) (W : WX) (f : SF) : TE := fun σ H Q => ∃ (μ : List Addr) (Hs : Hp) (ρ : Rho) (S : Store) (r : Res D) (S1 : Store),
  Sim K mg μ Hs H S ∧ VEnv K μ Hs σ ρ ∧ f ρ S = some (r, S1) ∧ PostM K mg W σ μ Hs r S1 fun d μ' Hs' H' => ∀ v, Rp K μ' Hs' v d → Q v H'
def tMs (K : PySem.W.Frag) (mg : Str → Option Value) (W : WX) (f : SFs) : TA := fun σ H Q => ∃ (μ : List Addr) (Hs : Hp) (ρ : Rho) (S : Store) (r : Res (List D)) (S1 : Store),
  Sim K mg μ Hs H S ∧ VEnv K μ Hs σ ρ ∧ f ρ S = some (r, S1) ∧ PostM K mg W σ μ Hs r S1 fun ds μ' Hs' H' => ∀ vs, RpA K μ' Hs' vs ds → Q vs H'
def tMT (K : PySem.W.Frag) (mg : Str → Option Value) (W : WX) (f : SFt) : TT := fun σ H Q => ∃ (μ : List Addr) (Hs : Hp) (ρ : Rho) (S : Store) (r : Res Bool) (S1 : Store),
  Sim K mg μ Hs H S ∧ VEnv K μ Hs σ ρ ∧ f ρ S = some (r, S1) ∧ PostM K mg W σ μ Hs r S1 fun b _ _ H' => Q b H'
/-- first m, then k of its value; an error ends both -/
def sb {α β : Type} (m : Option (Res α × Store)) (k : α → Store → Option (Res β × Store)) : Option (Res β × Store) := match m with
  | some (.ok a, S) => k a S
  | some (.er x, S) => some (.er x, S)
  | none => none
theorem sb_ok {α β : Type} {a : α} {S : Store} {k : α → Store → Option (Res β × Store)} : sb (some (.ok a, S)) k = k a S := rfl
theorem sb_er {α β : Type} {x : Exn} {S : Store} {k : α → Store → Option (Res β × Store)} : sb (some (.er x, S)) k = some (.er x, S) := rfl
section
variable {K : PySem.W.Frag} {mg : Str → Option Value} {W : WX} {σ : St} {μ : List Addr} {Hs H : Hp} {S : Store} {ρ : Rho}
/-- two steps, one behind the other -/
theorem post_bind {α β : Type} {m : Option (Res α × Store)} {k : α → Store → Option (Res β × Store)} {r : Res β} {S1 : Store} {good : β → List Addr → Hp → Hp → Prop} (e : sb m k = some (r, S1)) (P : PostM K mg W σ μ Hs r S1 good) :
    ∃ (q : Res α) (S2 : Store), m = some (q, S2) ∧ PostM K mg W σ μ Hs q S2 fun a μ' Hs' H' => Sim K mg μ' Hs' H' S2 ∧ Gr μ Hs μ' Hs' ∧ k a S2 = some (r, S1) ∧ PostM K mg W σ μ' Hs' r S1 good := by
  cases m with
  | none => cases e
  | some p =>
    obtain ⟨q, S2⟩ := p
    refine ⟨q, S2, rfl, ?_⟩
    cases q with
    | er x => cases e; exact P
    | ok a =>
      intro μ' Hs' H' g s
      refine ⟨s, g, e, ?_⟩
      cases r with
      | ok b => exact fun μ2 Hs2 H2 g2 s2 => P μ2 Hs2 H2 (g.trans g2) s2
      | er x => exact fun μ2 Hs2 H2 cls dx g2 s2 x2 => P μ2 Hs2 H2 cls dx (g.trans g2) s2 x2
theorem PostM.imp {α : Type} {r : Res α} {S1 : Store} {good good' : α → List Addr → Hp → Hp → Prop} (P : PostM K mg W σ μ Hs r S1 good) (h : ∀ a μ' Hs' H', Gr μ Hs μ' Hs' → Sim K mg μ' Hs' H' S1 → good a μ' Hs' H' → good' a μ' Hs' H') : PostM K mg W σ μ Hs r S1 good' := by
  cases r with
  | ok a => exact fun μ' Hs' H' g s => h a μ' Hs' H' g s (P μ' Hs' H' g s)
  | er x => exact P
end

/-! ### expressions -/
section
variable {X : Cx} {W : WX} {e a b c o : Expr} {es : List Expr} {pos p p2 apos cpos : Pos}
/-- what needs no store -/
def mP (f : F) : SF := fun ρ S => b1 (f ρ) fun d => some (.ok d, S)
theorem s_pure {f : F} (h : PE X e (tD X.K f)) : PE X e (tM X.K X.mg W (mP f)) := by
  refine pe_imp h fun σ H Q ⟨μ, Hs, ρ, S, r, S1, s, env, e, P⟩ => ?_
  obtain ⟨d, e1, e2⟩ := b1_eq e
  cases e2
  exact ⟨μ, Hs, ρ, d, s.sub, env, e1, fun v H' Hs' x r => P μ Hs' H' (Gr.part x.part) (s.ext x) v r⟩
def mNil : SFs := fun _ S => some (.ok [], S)
def mCons (f : SF) (g : SFs) : SFs := fun ρ S => sb (f ρ S) fun d S1 => sb (g ρ S1) fun ds S2 => some (.ok (d :: ds), S2)
theorem s_nil : PA X [] (tMs X.K X.mg W mNil) := pa_imp pa_nil fun σ H Q ⟨μ, Hs, ρ, S, r, S1, s, env, e, P⟩ => by cases e; exact P μ Hs H (Gr.refl _ _) s [] .nil
theorem s_cons {f : SF} {fs : SFs} (he : PE X e (tM X.K X.mg W f)) (ht : PA X es (tMs X.K X.mg W fs)) (hs : starEach (e :: es) X.env = (false, eval e X.env) :: starEach es X.env := by rfl) : PA X (e :: es) (tMs X.K X.mg W (mCons f fs)) := by
  refine pa_imp (pa_cons he ht hs) fun σ H Q ⟨μ, Hs, ρ, S, r, S1, s, env, e, P⟩ => ?_
  obtain ⟨q, S2, e1, P1⟩ := post_bind e P
  refine ⟨μ, Hs, ρ, S, q, S2, s, env, e1, P1.imp fun d μ' Hs' H' g s' ⟨_, _, e2, P2⟩ v rv => ?_⟩
  obtain ⟨q2, S3, e3, P3⟩ := post_bind e2 P2
  refine ⟨μ', Hs', ρ, S2, q2, S3, s', env.gr g, e3, P3.imp fun ds μ2 Hs2 H2 g2 s2 ⟨_, _, e4, P4⟩ vs rvs => ?_⟩
  cases e4
  exact P4 μ2 Hs2 H2 (Gr.refl _ _) s2 (v :: vs) (.cons (rv.gr g2) rvs)
/-- a list's cell as data -/
def view (S : Store) : D → D
  | .loc n => match S[n]? with
    | some (.lst ds) => .lst ds
    | _ => .loc n
  | d => d
theorem view_rp {K : PySem.W.Frag} {mg : Str → Option Value} {μ : List Addr} {Hs H : Hp} {S : Store} (s : Sim K mg μ Hs H S) {d : D} {v : V} (r : Rp K μ Hs v d) : Rp K μ H v (view S d) := by
  cases d with
  | loc n =>
    cases r with
    | loc h =>
      unfold view
      obtain ⟨c, h1, h2, h3⟩ := s.at h
      simp only [h1]
      cases c with
      | lst ds =>
        obtain ⟨vs, h4, h5⟩ := h2
        exact .lst h4 (h5.mono s.sub)
      | _ => exact .loc h
  | _ => exact r.mono s.sub
theorem sca_any {K : PySem.W.Frag} {μ μ' : List Addr} {H H' : Hp} {v : V} {d : D} (r : Rp K μ H v d) (h : d.sca = true) : Rp K μ' H' v d := by
  cases r with
  | non => exact .non
  | bool _ => exact .bool _
  | int _ => exact .int _
  | str _ => exact .str _
  | _ => exact absurd h Bool.false_ne_true
/-- a list's cell -/
def isLc (S : Store) : D → Bool
  | .loc n => match S[n]? with
    | some (.lst _) => true
    | _ => false
  | _ => false
theorem view_same {S : Store} : ∀ {d : D}, isLc S d = false → view S d = d
  | .loc n, h => by
    simp only [isLc] at h
    simp only [view]
    cases q : S[n]? with
    | none => rfl
    | some c =>
      rw [q] at h
      cases c with
      | lst _ => cases h
      | _ => rfl
  | .non, _ => rfl
  | .bool _, _ => rfl
  | .int _, _ => rfl
  | .str _, _ => rfl
  | .lst _, _ => rfl
  | .tup _, _ => rfl
  | .scr _, _ => rfl
/-- an operation on two values; of a list's cell only a plain value comes out -/
def m2 (G : D → D → Option D) (f g : SF) : SF := fun ρ S => sb (f ρ S) fun d S1 => sb (g ρ S1) fun e S2 => b1 (G (view S2 d) (view S2 e)) fun o => if (o.sca || (!isLc S2 d && !isLc S2 e)) = true then some (.ok o, S2) else none
theorem tM_2 {r : R2} {G : D → D → Option D} {f g : SF} (hG : Imp2 X.K r G) : ∀ σ H Q, tM X.K X.mg W (m2 G f g) σ H Q → tOp r (tM X.K X.mg W f) (tM X.K X.mg W g) σ H Q := by
  rintro σ H Q ⟨μ, Hs, ρ, S, r, S1, s, env, e, P⟩
  obtain ⟨q, S2, e1, P1⟩ := post_bind e P
  refine ⟨μ, Hs, ρ, S, q, S2, s, env, e1, P1.imp fun d μ1 Hs1 H1 g1 s1 ⟨_, _, e2, P2⟩ v rv => ?_⟩
  obtain ⟨q2, S3, e3, P3⟩ := post_bind e2 P2
  refine ⟨μ1, Hs1, ρ, S2, q2, S3, s1, env.gr g1, e3, P3.imp fun d2 μ2 Hs2 H2 g2 s2 ⟨_, _, e4, P4⟩ u ru => ?_⟩
  obtain ⟨o, e5, e6⟩ := b1_eq e4
  obtain ⟨h1, h2⟩ := ite_some e6
  cases h2
  cases hsc : o.sca with
  | true =>
    refine hG μ2 H2 H2 v u _ _ o Q (Same.refl _) (view_rp s2 (rv.gr g2)) (view_rp s2 ru) e5 fun v' H' Hs' x rr => ?_
    exact P4 μ2 Hs2 H' (Gr.refl _ _) (s2.side x.all) v' (sca_any rr hsc)
  | false =>
    rw [hsc, Bool.false_or, Bool.and_eq_true, Bool.not_eq_true', Bool.not_eq_true'] at h1
    rw [view_same h1.1, view_same h1.2] at e5
    exact hG μ2 H2 Hs2 v u _ _ o Q s2.sub (rv.gr g2) ru e5 fun v' H' Hs' x rr => P4 μ2 Hs' H' (Gr.part x.part) (s2.ext x) v' rr
theorem s_op {op : Operator} {r : R2} {G : D → D → Option D} {f g : SF} (ho : OpR X (binaryOp op) r) (hG : Imp2 X.K r G) (ha : PE X a (tM X.K X.mg W f)) (hb : PE X b (tM X.K X.mg W g)) : PE X (.BinOp a op b pos) (tM X.K X.mg W (m2 G f g)) := pe_imp (pe_op ho ha hb) (tM_2 hG)
theorem s_cmp {op : CmpOp} {r : R2} {G : D → D → Option D} {f g : SF} (ho : OpR X (compareOp op) r) (hG : Imp2 X.K r G) (ha : PE X a (tM X.K X.mg W f)) (hb : PE X b (tM X.K X.mg W g)) (hm : behindInMarks op b = false := by first | exact nomark _ | rfl) :
    PE X (.Compare a [op] [b] pos) (tM X.K X.mg W (m2 G f g)) := pe_imp (pe_cmpR ho ha hb hm) (tM_2 hG)
/-- a built-in's call; of a list's cell only a plain value comes out -/
def mL (G : List D → Option D) (f : SFs) : SF := fun ρ S => sb (f ρ S) fun ds S1 => b1 (G (ds.map (view S1))) fun o => if (o.sca || ds.all fun d => !isLc S1 d) = true then some (.ok o, S1) else none
theorem view_same_all {S : Store} : ∀ {ds : List D}, (ds.all fun d => !isLc S d) = true → ds.map (view S) = ds
  | [], _ => rfl
  | d :: ds, h => by
    rw [List.all_cons, Bool.and_eq_true, Bool.not_eq_true'] at h
    rw [List.map_cons, view_same h.1, view_same_all h.2]
theorem view_rpa {K : PySem.W.Frag} {mg : Str → Option Value} {μ : List Addr} {Hs H : Hp} {S : Store} (s : Sim K mg μ Hs H S) : ∀ {ds : List D} {vs : List V}, RpA K μ Hs vs ds → RpA K μ H vs (ds.map (view S))
  | _, _, .nil => .nil
  | _, _, .cons h t => .cons (view_rp s h) (view_rpa s t)
theorem tM_L {r : List V → Hp → VK → Prop} {G : List D → Option D} {f : SFs} (hG : ImpL X.K r G) : ∀ σ H Q, tM X.K X.mg W (mL G f) σ H Q → tCB r (tMs X.K X.mg W f) σ H Q := by
  rintro σ H Q ⟨μ, Hs, ρ, S, r, S1, s, env, e, P⟩
  obtain ⟨q, S2, e1, P1⟩ := post_bind e P
  refine ⟨μ, Hs, ρ, S, q, S2, s, env, e1, P1.imp fun ds μ1 Hs1 H1 g1 s1 ⟨_, _, e2, P2⟩ vs rv => ?_⟩
  obtain ⟨o, e5, e6⟩ := b1_eq e2
  obtain ⟨h1, h2⟩ := ite_some e6
  cases h2
  cases hsc : o.sca with
  | true =>
    refine hG μ1 H1 H1 vs _ o Q (Same.refl _) (view_rpa s1 rv) e5 fun v' H' Hs' x rr => ?_
    exact P2 μ1 Hs1 H' (Gr.refl _ _) (s1.side x.all) v' (sca_any rr hsc)
  | false =>
    rw [hsc, Bool.false_or] at h1
    rw [view_same_all h1] at e5
    exact hG μ1 H1 Hs1 vs _ o Q s1.sub rv e5 fun v' H' Hs' x rr => P2 μ1 Hs' H' (Gr.part x.part) (s1.ext x) v' rr
theorem s_callB {id : String} {r : List V → Hp → VK → Prop} {G : List D → Option D} {x : Str} {f : SFs} (hc : CallR X (.builtin id) r) (hG : ImpL X.K r G) (hm : X.mg x = none) (ha : PA X (e :: es) (tMs X.K X.mg W f)) (hg : Gl X x := by rfl) (hv : bootBuiltins x = some (.builtin id) := by decide +kernel)
    (hn : x ≠ "__name__" := by decide) (hdb : (x == ("__debug__" : Str)) = false := by decide) (he : starEach (e :: es) X.env = (false, eval e X.env) :: starEach es X.env := by rfl) (hpl : (backTo pos (starEach es X.env)).any (·.1) = false := by rfl) :
    PE X (.Call (.Name x p) (e :: es) [] pos) (tM X.K X.mg W (mL G f)) := pe_imp (pe_callB hc hg hm hv ha hn hdb he hpl) (tM_L hG)
theorem s_callTy {T : String} {r : List V → Hp → VK → Prop} {G : List D → Option D} {x : Str} {f : SFs} (hc : CallR X (.type T) r) (hG : ImpL X.K r G) (hm : X.mg x = none) (ha : PA X (e :: es) (tMs X.K X.mg W f)) (hg : Gl X x := by rfl) (hv : bootBuiltins x = some (.type T) := by decide +kernel)
    (hn : x ≠ "__name__" := by decide) (hdb : (x == ("__debug__" : Str)) = false := by decide) (he : starEach (e :: es) X.env = (false, eval e X.env) :: starEach es X.env := by rfl) (hpl : (backTo pos (starEach es X.env)).any (·.1) = false := by rfl) :
    PE X (.Call (.Name x p) (e :: es) [] pos) (tM X.K X.mg W (mL G f)) := pe_imp (pe_callTy hc hg hm hv ha hn hdb he hpl) (tM_L hG)
/-- list(x), a new cell -/
def mList (f : SFs) : SF := fun ρ S => sb (f ρ S) fun ds S1 => match ds.map (view S1) with
  | [.lst es] => some (.ok (.loc S1.length), S1 ++ [.lst es])
  | [.tup es] => some (.ok (.loc S1.length), S1 ++ [.lst es])
  | _ => none
/-- what a list's cell holds, over the part that is only read -/
theorem view_lst {K : PySem.W.Frag} {mg : Str → Option Value} {μ : List Addr} {Hs H : Hp} {S : Store} (s : Sim K mg μ Hs H S) {d : D} {v : V} {es : List D} (r : Rp K μ Hs v d) (h : view S d = .lst es) : ∃ a vs, v = .ref a ∧ H a = some (.lst vs) ∧ RpA K μ Hs vs es := by
  cases r with
  | loc q =>
    obtain ⟨c, h1, h2, h3⟩ := s.at q
    unfold view at h
    simp only [h1] at h
    cases c with
    | lst ds =>
      cases h
      obtain ⟨vs, h4, h5⟩ := h2
      exact ⟨_, vs, rfl, h4, h5⟩
    | _ => cases h
  | lst h1 h2 => cases h; exact ⟨_, _, rfl, s.sub _ _ h1, h2⟩
  | _ => cases h
theorem view_tup {K : PySem.W.Frag} {μ : List Addr} {Hs : Hp} {S : Store} {d : D} {v : V} {es : List D} (r : Rp K μ Hs v d) (h : view S d = .tup es) : ∃ a vs, v = .ref a ∧ SqT K Hs a vs ∧ RpA K μ Hs vs es := by
  cases r with
  | @loc _ n q =>
    have k : ∀ o : Option Cell, (match o with | some (.lst ds) => D.lst ds | _ => D.loc n) ≠ .tup es := fun o z => by
      cases o with
      | none => cases z
      | some c => cases c <;> cases z
    exact absurd h (k _)
  | tup h1 h2 => cases h; exact ⟨_, _, rfl, h1, h2⟩
  | _ => cases h
theorem loc_new {K : PySem.W.Frag} {μ : List Addr} {H : Hp} {p : Addr} {S : Store} (h : μ.length = S.length) : Rp K (μ ++ [p]) H (.ref p) (.loc S.length) := .loc (by rw [← h, List.getElem?_append_right (Nat.le_refl _), Nat.sub_self]; rfl)
theorem s_list {f : SF} (hm : X.mg "list" = none) (ha : PE X a (tM X.K X.mg W f)) (hg : Gl X "list" := by rfl) (he : starEach [a] X.env = (false, eval a X.env) :: starEach [] X.env := by rfl) (hpl : (backTo pos (starEach [] X.env)).any (·.1) = false := by rfl) :
    PE X (.Call (.Name "list" p) [a] [] pos) (tM X.K X.mg W (mList (mCons f mNil))) := by
  refine pe_imp (pe_callTy call_list_of hg hm (by decide +kernel) (s_cons ha s_nil he) (by decide) (by decide) he hpl) fun σ H Q ⟨μ, Hs, ρ, S, r, S1, s, env, e, P⟩ => ?_
  obtain ⟨q, S2, e1, P1⟩ := post_bind e P
  refine ⟨μ, Hs, ρ, S, q, S2, s, env, e1, P1.imp fun ds μ1 Hs1 H1 g1 s1 ⟨_, _, e2, P2⟩ vs rv => ?_⟩
  cases rv with
  | nil => cases e2
  | @cons v vs d ds rv rt =>
    have e2' : (match view S2 d :: ds.map (view S2) with
      | [.lst es] => some (Res.ok (D.loc S2.length), S2 ++ [Cell.lst es])
      | [.tup es] => some (.ok (.loc S2.length), S2 ++ [.lst es])
      | _ => none) = some (r, S1) := e2
    split at e2'
    · rename_i es he
      injection he with he1 he2
      cases e2'
      cases rt with
      | cons _ _ => cases he2
      | nil =>
        obtain ⟨a, xs, rfl, h1, h2⟩ := view_lst s1 rv he1
        refine ⟨a, xs, rfl, .inl (SqL.of h1), fun l hl => ?_⟩
        obtain ⟨s3, g3⟩ := s1.alloc (c := .lst es) hl ⟨xs, upd_same, h2.gr ⟨⟨[l], rfl⟩, Same.refl _⟩⟩
        exact P2 _ _ _ g3 s3 _ (loc_new s1.len)
    · rename_i es he
      injection he with he1 he2
      cases e2'
      cases rt with
      | cons _ _ => cases he2
      | nil =>
        obtain ⟨a, xs, rfl, h1, h2⟩ := view_tup rv he1
        refine ⟨a, xs, rfl, .inr (sqT_mono s1.sub h1), fun l hl => ?_⟩
        obtain ⟨s3, g3⟩ := s1.alloc (c := .lst es) hl ⟨xs, upd_same, h2.gr ⟨⟨[l], rfl⟩, Same.refl _⟩⟩
        exact P2 _ _ _ g3 s3 _ (loc_new s1.len)
    · cases e2'
/-- [a, b, ..], a new cell -/
def mDisp (f : SFs) : SF := fun ρ S => sb (f ρ S) fun ds S1 => if ds.length ≤ sizeLine then some (.ok (.loc S1.length), S1 ++ [.lst ds]) else none
theorem s_disp {f : SFs} (ha : PA X es (tMs X.K X.mg W f)) : PE X (.List es pos) (tM X.K X.mg W (mDisp f)) := by
  refine pe_imp (pe_lst ha) fun σ H Q ⟨μ, Hs, ρ, S, r, S1, s, env, e, P⟩ => ?_
  obtain ⟨q, S2, e1, P1⟩ := post_bind e P
  refine ⟨μ, Hs, ρ, S, q, S2, s, env, e1, P1.imp fun ds μ1 Hs1 H1 g1 s1 ⟨_, _, e2, P2⟩ vs rv => ?_⟩
  obtain ⟨hz, h2⟩ := ite_some e2
  cases h2
  refine ⟨by rw [rv.len]; exact hz, fun p hp => ?_⟩
  obtain ⟨s3, g3⟩ := s1.alloc (c := .lst ds) hp ⟨vs, upd_same, rv.gr ⟨⟨[p], rfl⟩, Same.refl _⟩⟩
  exact P2 _ _ _ g3 s3 _ (loc_new s1.len)
/-- (a, b, ..) -/
def mTup (f : SFs) : SF := fun ρ S => sb (f ρ S) fun ds S1 => if ds.length ≤ sizeLine then some (.ok (.tup ds), S1) else none
theorem s_tup {x1} {f : SFs} (ha : PA X es (tMs X.K X.mg W f)) : PE X (.Tuple es x1 pos) (tM X.K X.mg W (mTup f)) := by
  refine pe_imp (pe_tup ha) fun σ H Q ⟨μ, Hs, ρ, S, r, S1, s, env, e, P⟩ => ?_
  obtain ⟨q, S2, e1, P1⟩ := post_bind e P
  refine ⟨μ, Hs, ρ, S, q, S2, s, env, e1, P1.imp fun ds μ1 Hs1 H1 g1 s1 ⟨_, _, e2, P2⟩ vs rv => ?_⟩
  obtain ⟨hz, h2⟩ := ite_some e2
  cases h2
  refine ⟨by rw [rv.len]; exact hz, fun p hp => ?_⟩
  have x := Ext.made (o := .tup vs) s1.sub hp
  exact P2 _ _ _ (Gr.part x.part) (s1.ext x) _ (.tup (SqT.of upd_same) (rv.mono x.part))
/-- a + b of lists, a new cell -/
def mCat (f g : SF) : SF := fun ρ S => sb (f ρ S) fun d S1 => sb (g ρ S1) fun e S2 => match view S2 d, view S2 e with
  | .lst xs, .lst ys => if xs.length + ys.length ≤ sizeLine then some (.ok (.loc S2.length), S2 ++ [.lst (xs ++ ys)]) else none
  | _, _ => none
theorem s_cat {f g : SF} (ha : PE X a (tM X.K X.mg W f)) (hb : PE X b (tM X.K X.mg W g)) : PE X (.BinOp a .Add b pos) (tM X.K X.mg W (mCat f g)) := by
  refine pe_imp (pe_op op_cat ha hb) fun σ H Q ⟨μ, Hs, ρ, S, r, S1, s, env, e, P⟩ => ?_
  obtain ⟨q, S2, e1, P1⟩ := post_bind e P
  refine ⟨μ, Hs, ρ, S, q, S2, s, env, e1, P1.imp fun d μ1 Hs1 H1 g1 s1 ⟨_, _, e2, P2⟩ v rv => ?_⟩
  obtain ⟨q2, S3, e3, P3⟩ := post_bind e2 P2
  refine ⟨μ1, Hs1, ρ, S2, q2, S3, s1, env.gr g1, e3, P3.imp fun d2 μ2 Hs2 H2 g2 s2 ⟨_, _, e4, P4⟩ u ru => ?_⟩
  split at e4
  · rename_i xs ys h1 h2
    obtain ⟨hz, h3⟩ := ite_some e4
    cases h3
    obtain ⟨a1, vs, rfl, k1, k2⟩ := view_lst s2 (rv.gr g2) h1
    obtain ⟨a2, us, rfl, k3, k4⟩ := view_lst s2 ru h2
    refine ⟨a1, a2, vs, us, rfl, rfl, k1, k3, by rw [k2.len, k4.len]; exact hz, fun p hp => ?_⟩
    obtain ⟨s5, g5⟩ := s2.alloc (c := .lst (xs ++ ys)) hp ⟨vs ++ us, upd_same, (k2.app k4).gr ⟨⟨[p], rfl⟩, Same.refl _⟩⟩
    exact P4 _ _ _ g5 s5 _ (loc_new s2.len)
  · cases e4
/-- x[i] of a list's cell, a tuple -/
def mIx (f g : SF) : SF := fun ρ S => sb (f ρ S) fun d S1 => sb (g ρ S1) fun e S2 => match view S2 d, e with
  | .lst xs, .int i => b1 (atI xs i) fun o => some (.ok o, S2)
  | .tup xs, .int i => b1 (atI xs i) fun o => some (.ok o, S2)
  | _, _ => none
theorem s_ix {f g : SF} (ha : PE X a (tM X.K X.mg W f)) (hb : PE X b (tM X.K X.mg W g)) (hs : PlainIx b := by exact fun _ _ => rfl) : PE X (.Subscript a b pos) (tM X.K X.mg W (mIx f g)) := by
  refine pe_imp (pe_ix ix_seq ha hb hs) fun σ H Q ⟨μ, Hs, ρ, S, r, S1, s, env, e, P⟩ => ?_
  obtain ⟨q, S2, e1, P1⟩ := post_bind e P
  refine ⟨μ, Hs, ρ, S, q, S2, s, env, e1, P1.imp fun d μ1 Hs1 H1 g1 s1 ⟨_, _, e2, P2⟩ v rv => ?_⟩
  obtain ⟨q2, S3, e3, P3⟩ := post_bind e2 P2
  refine ⟨μ1, Hs1, ρ, S2, q2, S3, s1, env.gr g1, e3, P3.imp fun d2 μ2 Hs2 H2 g2 s2 ⟨_, _, e4, P4⟩ u ru => ?_⟩
  split at e4
  · rename_i xs i h1 _
    obtain ⟨z, e5, e6⟩ := b1_eq e4
    cases e6
    cases ru
    obtain ⟨a1, vs, rfl, k1, k2⟩ := view_lst s2 (rv.gr g2) h1
    obtain ⟨w, e7, rw⟩ := k2.atI e5
    exact .inl ⟨a1, vs, i, w, rfl, rfl, SqL.of k1, e7, P4 _ _ _ (Gr.refl _ _) s2 _ rw⟩
  · rename_i xs i h1 _
    obtain ⟨z, e5, e6⟩ := b1_eq e4
    cases e6
    cases ru
    obtain ⟨a1, vs, rfl, k1, k2⟩ := view_tup (rv.gr g2) h1
    obtain ⟨w, e7, rw⟩ := k2.atI e5
    exact .inr (.inl ⟨a1, vs, i, w, rfl, rfl, sqT_mono s2.sub k1, e7, P4 _ _ _ (Gr.refl _ _) s2 _ rw⟩)
  · cases e4
end
end Pd

/-! Sd1: fields, methods, making, statements, defs over a store. -/
namespace Pd
open PySem PySem.Spec L2 SkE
open PyProof.Rows hiding St

section
variable {K : PySem.W.Frag} {μ : List Addr} {H : Hp}
theorem FRp.look {κ : Type} [BEq κ] {vs : List (κ × V)} {fs : List (κ × D)} (r : FRp K μ H vs fs) (f : κ) : (fs.lookup f = none → vs.lookup f = none) ∧ ∀ d, fs.lookup f = some d → ∃ v, vs.lookup f = some v ∧ Rp K μ H v d := by
  unfold FRp at r
  induction r with
  | nil => exact ⟨fun _ => rfl, fun d h => by cases h⟩
  | @cons a b l m h t ih =>
    obtain ⟨k1, v⟩ := a
    obtain ⟨k2, d0⟩ := b
    obtain ⟨e, h⟩ := h
    simp only at e h
    subst e
    simp only [List.lookup]
    cases f == k1 with
    | true => exact ⟨fun q => (by cases q), fun d q => ⟨v, rfl, (by cases q; exact h)⟩⟩
    | false => exact ih
def putD (f : Str) (d : D) : List (Str × D) → List (Str × D)
  | [] => [(f, d)]
  | (g, x) :: r => if g = f then (g, d) :: r else (g, x) :: putD f d r
theorem FRp.put {vs : List (Str × V)} {fs : List (Str × D)} (r : FRp K μ H vs fs) {f : Str} {v : V} {d : D} (h : Rp K μ H v d) : FRp K μ H (putF f v vs) (putD f d fs) := by
  unfold FRp at r
  induction r with
  | nil => exact .cons ⟨rfl, h⟩ .nil
  | @cons a b l m h2 t ih =>
    obtain ⟨k1, v0⟩ := a
    obtain ⟨k2, d0⟩ := b
    obtain ⟨e, h2⟩ := h2
    simp only at e h2
    subst e
    show FRp K μ H (if k1 = f then (k1, v) :: l else (k1, v0) :: putF f v l) (if k1 = f then (k1, d) :: m else (k1, d0) :: putD f d m)
    by_cases hk : k1 = f
    · rw [if_pos hk, if_pos hk]; exact .cons ⟨rfl, h⟩ t
    · rw [if_neg hk, if_neg hk]; exact .cons ⟨rfl, h2⟩ ih
theorem FRp.len {κ : Type} {vs : List (κ × V)} {fs : List (κ × D)} (r : FRp K μ H vs fs) : vs.length = fs.length := Paired.length r
end

/-! ### calls that may raise, where the wish knows the slots -/
section
variable {X : Cx} {CX : CXT} {k : Nat} {f C : Addr} {fd : FuncData} {ps : List Str} {sp : Sp} {E : St → XK} {x m : Str} {p pos apos : Pos} {e o : Expr} {es : List Expr} {ta : TE} {t : TA}
def tMethX (C : Addr) (m : Str) (sp : Sp) (E : St → XK) (ta : TE) (t : TA) : TE := fun σ H Q => ta σ H fun x H1 => ∃ a dx fs, x = .ref a ∧ H1 a = some (.ins C dx fs) ∧ fs.lookup m = none ∧ t σ H1 fun vs H2 => sp (x :: vs) H2 Q (E σ)
theorem pe_methX {pl : Sem Bool} (he : PE X o ta) (c : Cls X.K C) (hm : Meth X.K C m f) (Fn : FnOk X.prog X.w X.K X.mg X.base CX k f fd ps sp) (hr : Room k X.A) (hb : Binds X.K fd ps []) (hx : ∀ σ, PassesAt CX X σ (E σ)) (ha : PA X (e :: es) t)
    (h1 : starEach (e :: es) X.env = (false, eval e X.env) :: starEach es X.env := by rfl) (h2 : (backTo pos (starEach es X.env)).any (·.1) = false := by rfl)
    (h3 : eval (.Call (.Attribute o m apos) (e :: es) [] pos) X.env = (do
      let ov ← eval o X.env; standAt apos.atName; let (g, first) ← holding [ov] (getMethod ov m pl); callWith pos g first (backTo pos (starEach (e :: es) X.env)) (backToKw pos (keywordEach [] X.env))) := by rfl) :
    PE X (.Call (.Attribute o m apos) (e :: es) [] pos) (tMethX C m sp E ta t) := by
  refine ⟨fun pins s σ H Q I h => PySem.W.methodCall_KW (pl := pl) (thn (he.run pins s σ H _ I h) fun u s1 ⟨x, H1, I1, rx, a, dx, fs, ex, ea, l, q⟩ => ?_) h3⟩
  cases ex
  cases (show u = Value.ref a from rx)
  refine getmeth_ok I1 ea c hm l (PySem.W.callWith_K (first := [.ref a]) (h₀ := X.base) I.ok.mod.kin hm.kp (thn (ha.run pos pins s1 σ H1 _ I1 q) fun us s2 ⟨vs, H2, I2, r, q2⟩ => ⟨I2.kIn, ?_⟩) h1 h2)
  exact run_fnS (us := .ref a :: us) (vs := .ref a :: vs) Fn hr hb (hx σ) I2 (.cons rfl r) q2
theorem pe_methX0 {pl : Sem Bool} (he : PE X o ta) (c : Cls X.K C) (hm : Meth X.K C m f) (Fn : FnOk X.prog X.w X.K X.mg X.base CX k f fd ps sp) (hr : Room k X.A) (hb : Binds X.K fd ps []) (hx : ∀ σ, PassesAt CX X σ (E σ))
    (h3 : eval (.Call (.Attribute o m apos) [] [] pos) X.env = (do
      let ov ← eval o X.env; standAt apos.atName; let (g, first) ← holding [ov] (getMethod ov m pl); callWith pos g first (backTo pos (starEach [] X.env)) (backToKw pos (keywordEach [] X.env))) := by rfl) :
    PE X (.Call (.Attribute o m apos) [] [] pos) (tMethX C m sp E ta tNil) := by
  refine ⟨fun pins s σ H Q I h => PySem.W.methodCall_KW (pl := pl) (thn (he.run pins s σ H _ I h) fun u s1 ⟨x, H1, I1, rx, a, dx, fs, ex, ea, l, q⟩ => ?_) h3⟩
  cases ex
  cases (show u = Value.ref a from rx)
  exact getmeth_ok I1 ea c hm l (PySem.W.callWith_K0 (first := [.ref a]) I1.kIn hm.kp (run_fnS (us := [.ref a]) (vs := [.ref a]) Fn hr hb (hx σ) I1 (.cons rfl .nil) q))
/-- C(..), an error out of __init__ too; dvs: the defaults -/
def tMakeX (C : Addr) (sp : Sp) (dvs : List V) (E : St → XK) (t : TA) : TE := fun σ H Q => t σ H fun vs H1 => ∀ x dx, H1 x = none → H1 dx = none → dx ≠ x → sp (.ref x :: (vs ++ dvs)) (upd (upd H1 dx (.own x)) x (.ins C dx [])) (fun v H2 => v = .non ∧ Q (.ref x) H2) (E σ)
theorem run_makeX {pins : List (Addr × Obj)} {σ : St} {H : Hp} {s : Shared} {Q : VK} {us : List Value} {vs dvs : List V} {ds : List Value} (M : Mk X.K C f) (Fn : FnOk X.prog X.w X.K X.mg X.base CX k f fd ps sp) (hr : Room (k + 1) X.A) (hb : Binds X.K fd ps ds) (hd : Vals dvs ds) (hx : PassesAt CX X σ (E σ)) (I : Inv X pins σ H s) (r : Vals vs us)
    (h : ∀ x dx, H x = none → H dx = none → dx ≠ x → sp (.ref x :: (vs ++ dvs)) (upd (upd H dx (.own x)) x (.ins C dx [])) (fun v H2 => v = .non ∧ Q (.ref x) H2) (E σ)) : wpAny (model X.prog X.w) X.A (call (.ref C) us) (EP X pins σ Q) X.xe s := by
  have I2 := Inv.made (C := C) I
  have hq := h (s.heap.objs.size + 1) s.heap.objs.size (I.hok.fresh (Nat.le_succ _)) (I.hok.fresh (Nat.le_refl _)) (Nat.ne_of_lt (Nat.lt_succ_self _))
  have r2 : Vals (V.ref (s.heap.objs.size + 1) :: (vs ++ dvs)) (Value.ref (s.heap.objs.size + 1) :: (us ++ ds)) := .cons rfl (r.append hd)
  have hl : (Value.ref (s.heap.objs.size + 1) :: us ++ ds).length = ps.length := r2.length.symm.trans (Fn.len _ _ _ _ hq)
  refine wpAny_call (make_map (f := f) I.kIn M.makes M.init (beq_iff_eq.mp M.fn) (codeAny_mono (Fn.run _ X.stack _ _ ⟨Value.ref (s.heap.objs.size + 1) :: us, []⟩ (Value.ref (s.heap.objs.size + 1) :: (us ++ ds)) _ _ (E σ) (hr.make C us []) (I2.env0.make C us []) (hb _ (Value.ref (s.heap.objs.size + 1) :: us) I2.kIn hl) r2 hq) fun r s' hq' => ?_))
  cases r with
  | error e => exact hx pins _ _ e s' I2 hq'
  | ok fl =>
    cases fl with
    | ret u =>
      obtain ⟨v, H', I3, rv, ev, q3⟩ := I2.after hq'
      cases ev
      exact ⟨rv, V.ref (s.heap.objs.size + 1), H', I3, rfl, q3⟩
    | next => exact hq'.elim
    | brk => exact hq'.elim
    | cont => exact hq'.elim
theorem pe_makeX {ds : List Value} {dvs : List V} (M : Mk X.K C f) (Fn : FnOk X.prog X.w X.K X.mg X.base CX k f fd ps sp) (hr : Room (k + 1) X.A) (hg : Gl X x) (hm : X.mg x = some (.ref C)) (hb : Binds X.K fd ps ds) (hd : Vals dvs ds) (hx : ∀ σ, PassesAt CX X σ (E σ)) (ha : PA X (e :: es) t)
    (h0 : (x == ("__debug__" : Str)) = false := by decide) (h1 : starEach (e :: es) X.env = (false, eval e X.env) :: starEach es X.env := by rfl) (h2 : (backTo pos (starEach es X.env)).any (·.1) = false := by rfl) : PE X (.Call (.Name x p) (e :: es) [] pos) (tMakeX C sp dvs E t) :=
  ⟨fun pins s σ H Q I h => wpAny_Call_Name_kw (ld_glob I hg hm (PySem.W.callWith_K (h₀ := X.base) I.ok.mod.kin M.kp (thn (ha.run pos pins s σ H _ I h) fun us s1 ⟨vs, H1, I1, r, q⟩ => ⟨I1.kIn, run_makeX M Fn hr hb hd (hx σ) I1 r q⟩) h1 h2) h0)⟩
theorem pe_makeX0 {ds : List Value} {dvs : List V} (M : Mk X.K C f) (Fn : FnOk X.prog X.w X.K X.mg X.base CX k f fd ps sp) (hr : Room (k + 1) X.A) (hg : Gl X x) (hm : X.mg x = some (.ref C)) (hb : Binds X.K fd ps ds) (hd : Vals dvs ds) (hx : ∀ σ, PassesAt CX X σ (E σ))
    (h0 : (x == ("__debug__" : Str)) = false := by decide) : PE X (.Call (.Name x p) [] [] pos) (tMakeX C sp dvs E tNil) :=
  ⟨fun pins s σ H Q I h => wpAny_Call_Name_kw (ld_glob I hg hm (PySem.W.callWith_K0 I.kIn M.kp (run_makeX (us := []) M Fn hr hb hd (hx σ) I .nil h)) h0)⟩
theorem pe_callX0 (Fn : FnOk X.prog X.w X.K X.mg X.base CX k f fd ps sp) (hr : Room k X.A) (hg : Gl X x) (hm : X.mg x = some (.ref f)) (hk : PySem.W.keepIn X.K (.ref f) = true) (hb : Binds X.K fd ps []) (hx : ∀ σ, PassesAt CX X σ (E σ)) (h0 : (x == ("__debug__" : Str)) = false := by decide) :
    PE X (.Call (.Name x p) [] [] pos) (tCallS sp E tNil) :=
  ⟨fun pins s σ H Q I h => wpAny_Call_Name_kw (ld_glob I hg hm (PySem.W.callWith_K0 I.kIn hk (run_fnS (us := []) Fn hr hb (hx σ) I .nil h)) h0)⟩
end

/-! ### the promise of a def over a store -/
abbrev SFn := List D → Store → Option (Res D × Store)
def spM (K : PySem.W.Frag) (mg : Str → Option Value) (fh : SFn) : Sp := fun vs H Q E => ∃ (μ : List Addr) (Hs : Hp) (S : Store) (ds : List D) (r : Res D) (S1 : Store),
  Sim K mg μ Hs H S ∧ RpA K μ Hs vs ds ∧ fh ds S = some (r, S1) ∧ PostM K mg (fun c d _ H' => E c d H') [] μ Hs r S1 fun d μ' Hs' H' => ∀ v, Rp K μ' Hs' v d → Q v H'
structure Dm (P : Program) (w : World) (K : PySem.W.Frag) (mg : Str → Option Value) (base : Heap) (k : Nat) (x : Str) (ps : List Str) (fh : SFn) : Prop where
  ex : ∃ (fa : Addr) (fd : FuncData), FnOk P w K mg base (L2.CX P w) k fa fd ps (spM K mg fh) ∧ mg x = some (.ref fa) ∧ PySem.W.keepIn K (.ref fa) = true ∧ Binds K fd ps []
/-- a class of the text -/
structure Ck (K : PySem.W.Frag) (mg : Str → Option Value) (c : Str) : Prop where
  ex : ∃ C : Addr, mg c = some (.ref C) ∧ Cls K C
structure At (K : PySem.W.Frag) (mg : Str → Option Value) (c f : Str) : Prop where
  no : ∀ C : Addr, mg c = some (.ref C) → NoAttr K C f
/-- a method of the class c -/
structure Mm (P : Program) (w : World) (K : PySem.W.Frag) (mg : Str → Option Value) (base : Heap) (k : Nat) (c m : Str) (ps : List Str) (fh : SFn) : Prop where
  ex : ∃ (C fa : Addr) (fd : FuncData), mg c = some (.ref C) ∧ Cls K C ∧ Meth K C m fa ∧ FnOk P w K mg base (L2.CX P w) k fa fd ps (spM K mg fh) ∧ Binds K fd ps []
/-- the making of the class c, by its __init__ -/
structure Mi (P : Program) (w : World) (K : PySem.W.Frag) (mg : Str → Option Value) (base : Heap) (k : Nat) (c : Str) (ps : List Str) (fh : SFn) : Prop where
  ex : ∃ (C fa : Addr) (fd : FuncData), mg c = some (.ref C) ∧ Mk K C fa ∧ FnOk P w K mg base (L2.CX P w) k fa fd ps (spM K mg fh) ∧ Binds K fd ps []
/-- .. with a text as the default of its last parameter -/
structure Md (P : Program) (w : World) (K : PySem.W.Frag) (mg : Str → Option Value) (base : Heap) (k : Nat) (c : Str) (ps : List Str) (z : Str) (fh : SFn) : Prop where
  ex : ∃ (C fa : Addr) (fd : FuncData) (u : Value), mg c = some (.ref C) ∧ Mk K C fa ∧ FnOk P w K mg base (L2.CX P w) k fa fd ps (spM K mg fh) ∧ RelV (.str z) u ∧ Binds K fd ps [u]
section
variable {X : Cx} {W : WX} {e a b c o : Expr} {es : List Expr} {pos p p2 apos cpos : Pos} {k : Nat} {ps : List Str}
theorem post_pass {K : PySem.W.Frag} {mg : Str → Option Value} {σ : St} {μ : List Addr} {Hs : Hp} {α : Type} {r : Res α} {S1 : Store} {good : α → List Addr → Hp → Hp → Prop} (P : PostM K mg W σ μ Hs r S1 good) : PostM K mg (fun c d _ H' => W c d σ H') [] μ Hs r S1 good := by
  cases r with
  | ok a => exact P
  | er x => exact P
def mCall (fh : SFn) (f : SFs) : SF := fun ρ S => sb (f ρ S) fun ds S1 => fh ds S1
theorem s_call {x : Str} {fh : SFn} {f : SFs} (tk : Takes X W) (C : Dm X.prog X.w X.K X.mg X.base k x ps fh) (hr : Room k X.A) (ha : PA X (e :: es) (tMs X.K X.mg W f)) (hg : Gl X x := by rfl) (h0 : (x == ("__debug__" : Str)) = false := by decide)
    (h1 : starEach (e :: es) X.env = (false, eval e X.env) :: starEach es X.env := by rfl) (h2 : (backTo pos (starEach es X.env)).any (·.1) = false := by rfl) : PE X (.Call (.Name x p) (e :: es) [] pos) (tM X.K X.mg W (mCall fh f)) := by
  obtain ⟨fa, fd, C1, C2, C3, C4⟩ := C.ex
  refine pe_imp (pe_callS C1 hr hg C2 C3 C4 (passAt tk) ha h0 h1 h2) fun σ H Q ⟨μ, Hs, ρ, S, r, S1, s, env, e, P⟩ => ?_
  obtain ⟨q, S2, e1, P1⟩ := post_bind e P
  exact ⟨μ, Hs, ρ, S, q, S2, s, env, e1, P1.imp fun ds μ1 Hs1 H1 g1 s1 ⟨_, _, e2, P2⟩ vs rv => ⟨μ1, Hs1, S2, ds, r, S1, s1, rv, e2, post_pass P2⟩⟩
theorem s_call0 {x : Str} {fh : SFn} (tk : Takes X W) (C : Dm X.prog X.w X.K X.mg X.base k x ps fh) (hr : Room k X.A) (hg : Gl X x := by rfl) (h0 : (x == ("__debug__" : Str)) = false := by decide) : PE X (.Call (.Name x p) [] [] pos) (tM X.K X.mg W (mCall fh mNil)) := by
  obtain ⟨fa, fd, C1, C2, C3, C4⟩ := C.ex
  refine pe_imp (pe_callX0 C1 hr hg C2 C3 C4 (passAt tk) h0) fun σ H Q ⟨μ, Hs, ρ, S, r, S1, s, env, e, P⟩ => ?_
  exact ⟨μ, Hs, S, [], r, S1, s, .nil, e, post_pass P⟩
/-- a def over data alone -/
def mCallP (fh : List D → Option D) (f : SFs) : SF := fun ρ S => sb (f ρ S) fun ds S1 => b1 (fh ds) fun d => some (.ok d, S1)
theorem s_callP {x : Str} {fh : List D → Option D} {f : SFs} (C : Df X.prog X.w X.K X.mg X.base k x ps fh) (hr : Room k X.A) (ha : PA X (e :: es) (tMs X.K X.mg W f)) (hg : Gl X x := by rfl) (h0 : (x == ("__debug__" : Str)) = false := by decide)
    (h1 : starEach (e :: es) X.env = (false, eval e X.env) :: starEach es X.env := by rfl) (h2 : (backTo pos (starEach es X.env)).any (·.1) = false := by rfl) : PE X (.Call (.Name x p) (e :: es) [] pos) (tM X.K X.mg W (mCallP fh f)) := by
  obtain ⟨fa, fd, C1, C2, C3, C4⟩ := C.ex
  refine pe_imp (pe_call (E := E0) C1 hr hg C2 C3 C4 .nil pass0 ha h0 h1 h2) fun σ H Q ⟨μ, Hs, ρ, S, r, S1, s, env, e, P⟩ => ?_
  obtain ⟨q, S2, e1, P1⟩ := post_bind e P
  refine ⟨μ, Hs, ρ, S, q, S2, s, env, e1, P1.imp fun ds μ1 Hs1 H1 g1 s1 ⟨_, _, e2, P2⟩ vs rv => ?_⟩
  obtain ⟨d, e3, e4⟩ := b1_eq e2
  cases e4
  show spD X.K fh (vs ++ []) H1 Q E0
  rw [List.append_nil]
  exact ⟨μ1, Hs1, ds, d, s1.sub, rv, e3, fun v H' Hs' x r => P2 μ1 Hs' H' (Gr.part x.part) (s1.ext x) v r⟩
/-- o.f -/
def mFld (c f : Str) (g : SF) : SF := fun ρ S => sb (g ρ S) fun d S1 => match d with
  | .loc n => match S1[n]? with
    | some (.ins c' fs) => if c' = c then b1 (fs.lookup f) fun v => some (.ok v, S1) else none
    | _ => none
  | _ => none
theorem fld_eq {c f : Str} {d : D} {S1 : Store} {q : Res D × Store} {k : List (Str × D) → Option (Res D × Store)} (h : (match d with | .loc n => (match S1[n]? with | some (.ins c' fs) => if c' = c then k fs else none | _ => none) | _ => none) = some q) :
    ∃ n fs, d = .loc n ∧ S1[n]? = some (.ins c fs) ∧ k fs = some q := by
  cases d with
  | loc n =>
    simp only at h
    cases q1 : S1[n]? with
    | none => rw [q1] at h; cases h
    | some ce =>
      rw [q1] at h
      cases ce with
      | ins c' fs =>
        simp only at h
        by_cases hc : c' = c
        · rw [if_pos hc] at h; subst hc; exact ⟨n, fs, rfl, q1, h⟩
        · rw [if_neg hc] at h; cases h
      | _ => cases h
  | _ => cases h
theorem ins_at {K : PySem.W.Frag} {mg : Str → Option Value} {μ : List Addr} {Hs H : Hp} {S : Store} {n : Nat} {c : Str} {fs : List (Str × D)} {v : V} {C : Addr} (s : Sim K mg μ Hs H S) (r : Rp K μ Hs v (.loc n)) (h : S[n]? = some (.ins c fs)) (hC : mg c = some (.ref C)) :
    ∃ a dx vs, v = .ref a ∧ μ[n]? = some a ∧ H a = some (.ins C dx vs) ∧ FRp K μ Hs vs fs := by
  cases r with
  | loc q =>
    obtain ⟨h1, _⟩ := s.cell n _ _ q h
    obtain ⟨C', dx, vs, k1, k2, k3⟩ := h1
    rw [hC] at k1
    cases k1
    exact ⟨_, dx, vs, rfl, q, k2, k3⟩
theorem s_fld {c f : Str} {g : SF} (hc : Ck X.K X.mg c) (hn : At X.K X.mg c f) (ho : PE X o (tM X.K X.mg W g)) (hb : attributeBase o f X.env (eval o X.env) = eval o X.env := by rfl) : PE X (.Attribute o f pos) (tM X.K X.mg W (mFld c f g)) := by
  obtain ⟨C, c1, c2⟩ := hc.ex
  refine pe_imp (pe_fld ho hb) fun σ H Q ⟨μ, Hs, ρ, S, r, S1, s, env, e, P⟩ => ?_
  obtain ⟨q, S2, e1, P1⟩ := post_bind e P
  refine ⟨μ, Hs, ρ, S, q, S2, s, env, e1, P1.imp fun d μ1 Hs1 H1 g1 s1 ⟨_, _, e2, P2⟩ v rv => ?_⟩
  obtain ⟨n, fs, rfl, h1, h2⟩ := fld_eq (k := fun fs => b1 (fs.lookup f) fun v => some (.ok v, S2)) (f := f) e2
  obtain ⟨z, h3, h4⟩ := b1_eq h2
  cases h4
  obtain ⟨a, dx, vs, rfl, k1, k2, k3⟩ := ins_at s1 rv h1 c1
  obtain ⟨u, k4, k5⟩ := (k3.look f).2 z h3
  exact ⟨a, C, dx, vs, u, rfl, k2, c2, hn.no C c1, k4, P2 _ _ _ (Gr.refl _ _) s1 u k5⟩
/-- o.m(..) -/
def mMeth (c m : Str) (fh : SFn) (g : SF) (f : SFs) : SF := fun ρ S => sb (g ρ S) fun d S1 => match d with
  | .loc n => match S1[n]? with
    | some (.ins c' fs) => if c' = c then (if fs.lookup m = none then sb (f ρ S1) fun ds S2 => fh (d :: ds) S2 else none) else none
    | _ => none
  | _ => none
theorem s_meth {pl : Sem Bool} {c m : Str} {fh : SFn} {g : SF} {f : SFs} (tk : Takes X W) (M : Mm X.prog X.w X.K X.mg X.base k c m ps fh) (hr : Room k X.A) (ho : PE X o (tM X.K X.mg W g)) (ha : PA X (e :: es) (tMs X.K X.mg W f))
    (h1 : starEach (e :: es) X.env = (false, eval e X.env) :: starEach es X.env := by rfl) (h2 : (backTo pos (starEach es X.env)).any (·.1) = false := by rfl)
    (h3 : eval (.Call (.Attribute o m apos) (e :: es) [] pos) X.env = (do
      let ov ← eval o X.env; standAt apos.atName; let (g, first) ← holding [ov] (getMethod ov m pl); callWith pos g first (backTo pos (starEach (e :: es) X.env)) (backToKw pos (keywordEach [] X.env))) := by rfl) :
    PE X (.Call (.Attribute o m apos) (e :: es) [] pos) (tM X.K X.mg W (mMeth c m fh g f)) := by
  obtain ⟨C, fa, fd, c1, c2, c3, c4, c5⟩ := M.ex
  refine pe_imp (pe_methX (pl := pl) ho c2 c3 c4 hr c5 (passAt tk) ha h1 h2 h3) fun σ H Q ⟨μ, Hs, ρ, S, r, S1, s, env, e, P⟩ => ?_
  obtain ⟨q, S2, e1, P1⟩ := post_bind e P
  refine ⟨μ, Hs, ρ, S, q, S2, s, env, e1, P1.imp fun d μ1 Hs1 H1 g1 s1 ⟨_, _, e2, P2⟩ v rv => ?_⟩
  obtain ⟨n, fs, rfl, h1, h2⟩ := fld_eq (k := fun fs => if fs.lookup m = none then sb (f ρ S2) fun ds S3 => fh (d :: ds) S3 else none) (f := m) e2
  by_cases hm : fs.lookup m = none
  · rw [if_pos hm] at h2
    obtain ⟨a, dx, vs, rfl, k1, k2, k3⟩ := ins_at s1 rv h1 c1
    obtain ⟨q2, S3, e3, P3⟩ := post_bind h2 P2
    refine ⟨a, dx, vs, rfl, k2, (k3.look m).1 hm, μ1, Hs1, ρ, S2, q2, S3, s1, env.gr g1, e3, P3.imp fun ds μ2 Hs2 H2 g2 s2 ⟨_, _, e4, P4⟩ us ru => ?_⟩
    exact ⟨μ2, Hs2, S3, _, r, S1, s2, .cons (rv.gr g2) ru, e4, post_pass P4⟩
  · rw [if_neg hm] at h2
    cases h2
theorem s_meth0 {pl : Sem Bool} {c m : Str} {fh : SFn} {g : SF} (tk : Takes X W) (M : Mm X.prog X.w X.K X.mg X.base k c m ps fh) (hr : Room k X.A) (ho : PE X o (tM X.K X.mg W g))
    (h3 : eval (.Call (.Attribute o m apos) [] [] pos) X.env = (do
      let ov ← eval o X.env; standAt apos.atName; let (g, first) ← holding [ov] (getMethod ov m pl); callWith pos g first (backTo pos (starEach [] X.env)) (backToKw pos (keywordEach [] X.env))) := by rfl) :
    PE X (.Call (.Attribute o m apos) [] [] pos) (tM X.K X.mg W (mMeth c m fh g mNil)) := by
  obtain ⟨C, fa, fd, c1, c2, c3, c4, c5⟩ := M.ex
  refine pe_imp (pe_methX0 (pl := pl) ho c2 c3 c4 hr c5 (passAt tk) h3) fun σ H Q ⟨μ, Hs, ρ, S, r, S1, s, env, e, P⟩ => ?_
  obtain ⟨q, S2, e1, P1⟩ := post_bind e P
  refine ⟨μ, Hs, ρ, S, q, S2, s, env, e1, P1.imp fun d μ1 Hs1 H1 g1 s1 ⟨_, _, e2, P2⟩ v rv => ?_⟩
  obtain ⟨n, fs, rfl, h1, h2⟩ := fld_eq (k := fun fs => if fs.lookup m = none then sb (mNil ρ S2) fun ds S3 => fh (d :: ds) S3 else none) (f := m) e2
  by_cases hm : fs.lookup m = none
  · rw [if_pos hm] at h2
    obtain ⟨a, dx, vs, rfl, k1, k2, k3⟩ := ins_at s1 rv h1 c1
    exact ⟨a, dx, vs, rfl, k2, (k3.look m).1 hm, μ1, Hs1, S2, _, r, S1, s1, .cons rv .nil, h2, post_pass P2⟩
  · rw [if_neg hm] at h2
    cases h2
/-- C(..) -/
def mMake (c : Str) (fh : SFn) (dvs : List D) (f : SFs) : SF := fun ρ S => sb (f ρ S) fun ds S1 => sb (fh (.loc S1.length :: (ds ++ dvs)) (S1 ++ [.ins c []])) fun d S2 => match d with
  | .non => some (.ok (.loc S1.length), S2)
  | _ => none
theorem make_read {K : PySem.W.Frag} {mg : Str → Option Value} {σ : St} {H1 : Hp} {Q : VK} {C : Addr} {c : Str} {fh : SFn} {ds dvD : List D} {vs dvs : List V} {μ : List Addr} {Hs : Hp} {S1 S3 : Store} {r : Res D} (hC : mg c = some (.ref C)) (s : Sim K mg μ Hs H1 S1) (rv : RpA K μ Hs vs ds) (rd : RpA K μ Hs dvs dvD)
    (e : (sb (fh (.loc S1.length :: (ds ++ dvD)) (S1 ++ [.ins c []])) fun d S2 => match d with | .non => some (Res.ok (D.loc S1.length), S2) | _ => none) = some (r, S3)) (P : PostM K mg W σ μ Hs r S3 fun d μ' Hs' H' => ∀ v, Rp K μ' Hs' v d → Q v H') :
    ∀ x dx, H1 x = none → H1 dx = none → dx ≠ x → spM K mg fh (.ref x :: (vs ++ dvs)) (upd (upd H1 dx (.own x)) x (.ins C dx [])) (fun v H2 => v = .non ∧ Q (.ref x) H2) (WE W σ) := by
  intro x dx nx ndx nex
  have s2 : Sim K mg μ Hs (upd H1 dx (.own x)) S1 := s.side (Ext.made (Same.refl H1) ndx).all
  have nx2 : (upd H1 dx (.own x)) x = none := by rw [upd_ne (Ne.symm nex)]; exact nx
  obtain ⟨s3, g3⟩ := s2.alloc (c := .ins c []) (o := .ins C dx []) nx2 ⟨C, dx, [], hC, upd_same, .nil⟩
  cases q : fh (.loc S1.length :: (ds ++ dvD)) (S1 ++ [.ins c []]) with
  | none => rw [q] at e; cases e
  | some p =>
    obtain ⟨r2, S4⟩ := p
    rw [q] at e
    refine ⟨_, Hs, _, _, r2, S4, s3, .cons (loc_new s.len) ((rv.app rd).gr g3), q, ?_⟩
    cases r2 with
    | er y => cases e; exact fun μ' Hs' H' cls dy g' s' x' => P μ' Hs' H' cls dy (g3.trans g') s' x'
    | ok d =>
      intro μ' Hs' H' g' s' v rv'
      cases d with
      | non =>
        cases e
        cases rv'
        exact ⟨rfl, P μ' Hs' H' (g3.trans g') s' _ (Rp.gr g' _ _ (loc_new s.len))⟩
      | _ => cases e
theorem s_make {x : Str} {fh : SFn} {f : SFs} (tk : Takes X W) (M : Mi X.prog X.w X.K X.mg X.base k x ps fh) (hr : Room (k + 1) X.A) (ha : PA X (e :: es) (tMs X.K X.mg W f)) (hg : Gl X x := by rfl) (h0 : (x == ("__debug__" : Str)) = false := by decide)
    (h1 : starEach (e :: es) X.env = (false, eval e X.env) :: starEach es X.env := by rfl) (h2 : (backTo pos (starEach es X.env)).any (·.1) = false := by rfl) : PE X (.Call (.Name x p) (e :: es) [] pos) (tM X.K X.mg W (mMake x fh [] f)) := by
  obtain ⟨C, fa, fd, c1, c2, c3, c4⟩ := M.ex
  refine pe_imp (pe_makeX (dvs := []) c2 c3 hr hg c1 c4 .nil (passAt tk) ha h0 h1 h2) fun σ H Q ⟨μ, Hs, ρ, S, r, S1, s, env, e, P⟩ => ?_
  obtain ⟨q, S2, e1, P1⟩ := post_bind e P
  exact ⟨μ, Hs, ρ, S, q, S2, s, env, e1, P1.imp fun ds μ1 Hs1 H1 g1 s1 ⟨_, _, e2, P2⟩ vs rv => make_read c1 s1 rv .nil e2 P2⟩
theorem s_make0 {x : Str} {fh : SFn} (tk : Takes X W) (M : Mi X.prog X.w X.K X.mg X.base k x ps fh) (hr : Room (k + 1) X.A) (hg : Gl X x := by rfl) (h0 : (x == ("__debug__" : Str)) = false := by decide) : PE X (.Call (.Name x p) [] [] pos) (tM X.K X.mg W (mMake x fh [] mNil)) := by
  obtain ⟨C, fa, fd, c1, c2, c3, c4⟩ := M.ex
  refine pe_imp (pe_makeX0 (dvs := []) c2 c3 hr hg c1 c4 .nil (passAt tk) h0) fun σ H Q ⟨μ, Hs, ρ, S, r, S1, s, env, e, P⟩ => ?_
  exact make_read (ds := []) c1 s .nil .nil e P
theorem s_makeD {x z : Str} {fh : SFn} {f : SFs} (tk : Takes X W) (M : Md X.prog X.w X.K X.mg X.base k x ps z fh) (hr : Room (k + 1) X.A) (ha : PA X (e :: es) (tMs X.K X.mg W f)) (hg : Gl X x := by rfl) (h0 : (x == ("__debug__" : Str)) = false := by decide)
    (h1 : starEach (e :: es) X.env = (false, eval e X.env) :: starEach es X.env := by rfl) (h2 : (backTo pos (starEach es X.env)).any (·.1) = false := by rfl) : PE X (.Call (.Name x p) (e :: es) [] pos) (tM X.K X.mg W (mMake x fh [.str z] f)) := by
  obtain ⟨C, fa, fd, u, c1, c2, c3, c4, c5⟩ := M.ex
  refine pe_imp (pe_makeX (dvs := [.str z]) c2 c3 hr hg c1 c5 (.cons c4 .nil) (passAt tk) ha h0 h1 h2) fun σ H Q ⟨μ, Hs, ρ, S, r, S1, s, env, e, P⟩ => ?_
  obtain ⟨q, S2, e1, P1⟩ := post_bind e P
  exact ⟨μ, Hs, ρ, S, q, S2, s, env, e1, P1.imp fun ds μ1 Hs1 H1 g1 s1 ⟨_, _, e2, P2⟩ vs rv => make_read c1 s1 rv (.cons (.str _) .nil) e2 P2⟩
end
end Pd

/-! Sd2: tests, list methods, statements, defs over a store. -/
namespace Pd
open PySem PySem.Spec L2 SkE
open PyProof.Rows hiding St

theorem ite_opt {c : Prop} {inst : Decidable c} {α : Type} {x : Option α} {y : α} (h : (if c then x else none) = some y) : c ∧ x = some y := by
  by_cases hc : c
  · rw [if_pos hc] at h; exact ⟨hc, h⟩
  · rw [if_neg hc] at h; cases h
/-! ### tests -/
def mtV (f : SF) : SFt := fun ρ S => sb (f ρ S) fun d S1 => b1 (view S1 d).tru fun b => some (.ok b, S1)
def mtB (f : SF) : SFt := fun ρ S => sb (f ρ S) fun d S1 => match d with
  | .bool b => some (.ok b, S1)
  | _ => none
def mtAnd (f g : SFt) : SFt := fun ρ S => sb (f ρ S) fun b S1 => if b = true then g ρ S1 else some (.ok false, S1)
def mtOr (f g : SFt) : SFt := fun ρ S => sb (f ρ S) fun b S1 => if b = true then some (.ok true, S1) else g ρ S1
def mtNot (f : SFt) : SFt := fun ρ S => sb (f ρ S) fun b S1 => some (.ok (!b), S1)
def mtP (f : Ft) : SFt := fun ρ S => b1 (f ρ) fun b => some (.ok b, S)
section
variable {X : Cx} {W : WX} {e a b c o : Expr} {es : List Expr} {pos p p2 apos cpos : Pos}
theorem st_pure {f : Ft} (h : PT X e (tDT X.K f)) : PT X e (tMT X.K X.mg W (mtP f)) := by
  refine pt_imp h fun σ H Q ⟨μ, Hs, ρ, S, r, S1, s, env, e, P⟩ => ?_
  obtain ⟨b, e1, e2⟩ := b1_eq e
  cases e2
  exact ⟨μ, Hs, ρ, b, s.sub, env, e1, fun H' x => P μ Hs H' (Gr.refl _ _) (s.side x)⟩
theorem st_val {f : SF} (ha : PE X e (tM X.K X.mg W f)) (he : ∀ whole, isTrue e X.env whole = (do let v ← whole; standAt e.pos; holding [v] (truthy v)) := by intro _; rfl) : PT X e (tMT X.K X.mg W (mtV f)) := by
  refine pt_imp (pt_truth ha he) fun σ H Q ⟨μ, Hs, ρ, S, r, S1, s, env, e, P⟩ => ?_
  obtain ⟨q, S2, e1, P1⟩ := post_bind e P
  refine ⟨μ, Hs, ρ, S, q, S2, s, env, e1, P1.imp fun d μ1 Hs1 H1 g1 s1 ⟨_, _, e2, P2⟩ v rv => ?_⟩
  obtain ⟨b, e3, e4⟩ := b1_eq e2
  cases e4
  exact ⟨b, (view_rp s1 rv).tru e3, P2 _ _ _ (Gr.refl _ _) s1⟩
theorem tM_B {f : SF} : ∀ σ H Q, tMT X.K X.mg W (mtB f) σ H Q → tTest (tM X.K X.mg W f) σ H Q := by
  rintro σ H Q ⟨μ, Hs, ρ, S, r, S1, s, env, e, P⟩
  obtain ⟨q, S2, e1, P1⟩ := post_bind e P
  refine ⟨μ, Hs, ρ, S, q, S2, s, env, e1, P1.imp fun d μ1 Hs1 H1 g1 s1 ⟨_, _, e2, P2⟩ v rv => ?_⟩
  cases d with
  | bool b => cases e2; cases rv; exact ⟨b, rfl, P2 _ _ _ (Gr.refl _ _) s1⟩
  | _ => cases e2
theorem tTest_imp {t t' : TE} (h : ∀ σ H Q, t σ H Q → t' σ H Q) : ∀ σ H Q, tTest t σ H Q → tTest t' σ H Q := fun σ H Q z => h _ _ _ z
theorem st_cmp {op : CmpOp} {r : R2} {G : D → D → Option D} {f g : SF} (ho : OpR X (compareOp op) r) (hG : Imp2 X.K r G) (ha : PE X a (tM X.K X.mg W f)) (hb : PE X b (tM X.K X.mg W g)) (hm : behindInMarks op b = false := by first | exact nomark _ | rfl) :
    PT X (.Compare a [op] [b] pos) (tMT X.K X.mg W (mtB (m2 G f g))) := pt_imp (pt_cmpR ho ha hb hm) fun σ H Q h => tTest_imp (tM_2 hG) σ H Q (tM_B σ H Q h)
theorem sw_and1 {ft : SFt} (h : PT X a (tMT X.K X.mg W ft)) : PW X (.BoolOp .And [a] pos) (tMT X.K X.mg W ft) := pw_and1 h
theorem sw_or1 {ft : SFt} (h : PT X a (tMT X.K X.mg W ft)) : PW X (.BoolOp .Or [a] pos) (tMT X.K X.mg W ft) := pw_or1 h
theorem sw_and {ft gt : SFt} (h : PT X a (tMT X.K X.mg W ft)) (h2 : PW X (.BoolOp .And (b :: es) pos) (tMT X.K X.mg W gt)) : PW X (.BoolOp .And (a :: b :: es) pos) (tMT X.K X.mg W (mtAnd ft gt)) := by
  refine pw_imp (pw_and h h2) fun σ H Q ⟨μ, Hs, ρ, S, r, S1, s, env, e, P⟩ => ?_
  obtain ⟨q, S2, e1, P1⟩ := post_bind e P
  refine ⟨μ, Hs, ρ, S, q, S2, s, env, e1, P1.imp fun b μ1 Hs1 H1 g1 s1 ⟨_, _, e2, P2⟩ => ?_⟩
  cases b with
  | true => exact iteT ⟨μ1, Hs1, ρ, S2, r, S1, s1, env.gr g1, e2, P2⟩
  | false => cases e2; exact iteF (P2 _ _ _ (Gr.refl _ _) s1)
theorem sw_or {ft gt : SFt} (h : PT X a (tMT X.K X.mg W ft)) (h2 : PW X (.BoolOp .Or (b :: es) pos) (tMT X.K X.mg W gt)) : PW X (.BoolOp .Or (a :: b :: es) pos) (tMT X.K X.mg W (mtOr ft gt)) := by
  refine pw_imp (pw_or h h2) fun σ H Q ⟨μ, Hs, ρ, S, r, S1, s, env, e, P⟩ => ?_
  obtain ⟨q, S2, e1, P1⟩ := post_bind e P
  refine ⟨μ, Hs, ρ, S, q, S2, s, env, e1, P1.imp fun b μ1 Hs1 H1 g1 s1 ⟨_, _, e2, P2⟩ => ?_⟩
  cases b with
  | true => cases e2; exact iteT (P2 _ _ _ (Gr.refl _ _) s1)
  | false => exact iteF ⟨μ1, Hs1, ρ, S2, r, S1, s1, env.gr g1, e2, P2⟩
theorem st_w {ft : SFt} (h : PW X e (tMT X.K X.mg W ft)) : PT X e (tMT X.K X.mg W ft) := h.pt
theorem st_not {ft : SFt} (h : PT X a (tMT X.K X.mg W ft)) : PT X (.UnaryOp .Not a pos) (tMT X.K X.mg W (mtNot ft)) := by
  refine pt_imp (pt_not h) fun σ H Q ⟨μ, Hs, ρ, S, r, S1, s, env, e, P⟩ => ?_
  obtain ⟨q, S2, e1, P1⟩ := post_bind e P
  refine ⟨μ, Hs, ρ, S, q, S2, s, env, e1, P1.imp fun b μ1 Hs1 H1 g1 s1 ⟨_, _, e2, P2⟩ => ?_⟩
  cases e2
  exact P2 _ _ _ (Gr.refl _ _) s1
/-- and, or, not as values -/
def mAnd (f g : SF) : SF := fun ρ S => sb (f ρ S) fun d S1 => b1 (view S1 d).tru fun b => if b = true then g ρ S1 else some (.ok d, S1)
def mOr (f g : SF) : SF := fun ρ S => sb (f ρ S) fun d S1 => b1 (view S1 d).tru fun b => if b = true then some (.ok d, S1) else g ρ S1
def mNot (f : SF) : SF := fun ρ S => sb (f ρ S) fun d S1 => b1 (view S1 d).tru fun b => some (.ok (.bool (!b)), S1)
theorem s_one {op} {f : SF} (h : PE X a (tM X.K X.mg W f)) : PE X (.BoolOp op [a] pos) (tM X.K X.mg W f) := pe_one h
theorem s_and {f g : SF} (ha : PE X a (tM X.K X.mg W f)) (hb : PE X (.BoolOp .And (b :: es) pos) (tM X.K X.mg W g)) : PE X (.BoolOp .And (a :: b :: es) pos) (tM X.K X.mg W (mAnd f g)) := by
  refine pe_imp (pe_andT ha hb) fun σ H Q ⟨μ, Hs, ρ, S, r, S1, s, env, e, P⟩ => ?_
  obtain ⟨q, S2, e1, P1⟩ := post_bind e P
  refine ⟨μ, Hs, ρ, S, q, S2, s, env, e1, P1.imp fun d μ1 Hs1 H1 g1 s1 ⟨_, _, e2, P2⟩ v rv => ?_⟩
  obtain ⟨t, e3, e4⟩ := b1_eq e2
  refine ⟨t, (view_rp s1 rv).tru e3, ?_⟩
  cases t with
  | true => exact iteT ⟨μ1, Hs1, ρ, S2, r, S1, s1, env.gr g1, e4, P2⟩
  | false => cases e4; exact iteF (P2 _ _ _ (Gr.refl _ _) s1 v rv)
theorem s_or {f g : SF} (ha : PE X a (tM X.K X.mg W f)) (hb : PE X (.BoolOp .Or (b :: es) pos) (tM X.K X.mg W g)) : PE X (.BoolOp .Or (a :: b :: es) pos) (tM X.K X.mg W (mOr f g)) := by
  refine pe_imp (pe_orT ha hb) fun σ H Q ⟨μ, Hs, ρ, S, r, S1, s, env, e, P⟩ => ?_
  obtain ⟨q, S2, e1, P1⟩ := post_bind e P
  refine ⟨μ, Hs, ρ, S, q, S2, s, env, e1, P1.imp fun d μ1 Hs1 H1 g1 s1 ⟨_, _, e2, P2⟩ v rv => ?_⟩
  obtain ⟨t, e3, e4⟩ := b1_eq e2
  refine ⟨t, (view_rp s1 rv).tru e3, ?_⟩
  cases t with
  | false => exact iteF ⟨μ1, Hs1, ρ, S2, r, S1, s1, env.gr g1, e4, P2⟩
  | true => cases e4; exact iteT (P2 _ _ _ (Gr.refl _ _) s1 v rv)
theorem s_not {f : SF} (ha : PE X a (tM X.K X.mg W f)) : PE X (.UnaryOp .Not a pos) (tM X.K X.mg W (mNot f)) := by
  refine pe_imp (pe_notT ha) fun σ H Q ⟨μ, Hs, ρ, S, r, S1, s, env, e, P⟩ => ?_
  obtain ⟨q, S2, e1, P1⟩ := post_bind e P
  refine ⟨μ, Hs, ρ, S, q, S2, s, env, e1, P1.imp fun d μ1 Hs1 H1 g1 s1 ⟨_, _, e2, P2⟩ v rv => ?_⟩
  obtain ⟨t, e3, e4⟩ := b1_eq e2
  cases e4
  exact ⟨t, (view_rp s1 rv).tru e3, P2 _ _ _ (Gr.refl _ _) s1 _ (.bool _)⟩
def mIf (c : SFt) (f g : SF) : SF := fun ρ S => sb (c ρ S) fun b S1 => if b = true then f ρ S1 else g ρ S1
theorem s_ifExp {ft : SFt} {f g : SF} (hc : PT X c (tMT X.K X.mg W ft)) (ha : PE X a (tM X.K X.mg W f)) (hb : PE X b (tM X.K X.mg W g)) : PE X (.IfExp c a b pos) (tM X.K X.mg W (mIf ft f g)) := by
  refine pe_imp (pe_ifExp hc ha hb) fun σ H Q ⟨μ, Hs, ρ, S, r, S1, s, env, e, P⟩ => ?_
  obtain ⟨q, S2, e1, P1⟩ := post_bind e P
  refine ⟨μ, Hs, ρ, S, q, S2, s, env, e1, P1.imp fun b μ1 Hs1 H1 g1 s1 ⟨_, _, e2, P2⟩ => ?_⟩
  cases b with
  | true => exact iteT ⟨μ1, Hs1, ρ, S2, r, S1, s1, env.gr g1, e2, P2⟩
  | false => exact iteF ⟨μ1, Hs1, ρ, S2, r, S1, s1, env.gr g1, e2, P2⟩

/-! ### list methods that change the list -/
theorem lst_at {K : PySem.W.Frag} {mg : Str → Option Value} {μ : List Addr} {Hs H : Hp} {S : Store} {n : Nat} {ds : List D} {v : V} (s : Sim K mg μ Hs H S) (r : Rp K μ Hs v (.loc n)) (h : S[n]? = some (.lst ds)) :
    ∃ a vs, v = .ref a ∧ μ[n]? = some a ∧ H a = some (.lst vs) ∧ RpA K μ Hs vs ds := by
  cases r with
  | loc q =>
    obtain ⟨⟨vs, k1, k2⟩, _⟩ := s.cell n _ _ q h
    exact ⟨_, vs, rfl, q, k1, k2⟩
/-- what stands in a list's cell -/
def lsAt (S : Store) : D → Option (Nat × List D)
  | .loc n => match S[n]? with
    | some (.lst ds) => some (n, ds)
    | _ => none
  | _ => none
theorem lsAt_eq {S : Store} {d : D} {n : Nat} {ds : List D} (h : lsAt S d = some (n, ds)) : d = .loc n ∧ S[n]? = some (.lst ds) := by
  cases d with
  | loc m =>
    simp only [lsAt] at h
    cases q : S[m]? with
    | none => rw [q] at h; cases h
    | some c =>
      rw [q] at h
      cases c with
      | lst es => cases h; exact ⟨rfl, q⟩
      | _ => cases h
  | _ => cases h
/-- o.append(e) -/
def mApp (f g : SF) : SF := fun ρ S => sb (f ρ S) fun d S1 => if (lsAt S1 d).isSome = true then sb (g ρ S1) fun e S2 => b1 (lsAt S2 d) fun q => if q.2.length < sizeLine then some (.ok .non, S2.set q.1 (.lst (q.2 ++ [e]))) else none else none
/-- o.extend(e) -/
def mExt (f g : SF) : SF := fun ρ S => sb (f ρ S) fun d S1 => if (lsAt S1 d).isSome = true then sb (g ρ S1) fun e S2 => b1 (lsAt S2 d) fun q => b1 (lsAt S2 e) fun p => if q.2.length + p.2.length ≤ sizeLine then some (.ok .non, S2.set q.1 (.lst (q.2 ++ p.2))) else none else none
/-- o.pop() -/
def mPop (f : SF) : SF := fun ρ S => sb (f ρ S) fun d S1 => b1 (lsAt S1 d) fun q => b1 (q.2[q.2.length - 1]?) fun o => some (.ok o, S1.set q.1 (.lst q.2.dropLast))
/-- o.pop(i) -/
def mPopAt (f g : SF) : SF := fun ρ S => sb (f ρ S) fun d S1 => if (lsAt S1 d).isSome = true then sb (g ρ S1) fun e S2 => b1 (lsAt S2 d) fun q => match e with
  | .int i => if -(2 ^ 63) ≤ i ∧ i < 2 ^ 63 then b1 (seqIndex? i q.2.length) fun k => b1 (q.2[k]?) fun o => some (.ok o, S2.set q.1 (.lst (q.2.eraseIdx k))) else none
  | _ => none
  else none
theorem lsAt_some {S : Store} {d : D} (h : (lsAt S d).isSome = true) : ∃ n ds, lsAt S d = some (n, ds) := by
  cases q : lsAt S d with
  | none => rw [q] at h; cases h
  | some p => exact ⟨p.1, p.2, rfl⟩
theorem ty_loc {K : PySem.W.Frag} {mg : Str → Option Value} {μ : List Addr} {Hs H : Hp} {S : Store} {d : D} {v : V} (s : Sim K mg μ Hs H S) (r : Rp K μ Hs v d) (h : (lsAt S d).isSome = true) : tyV K "list" v H := by
  obtain ⟨n, ds, q⟩ := lsAt_some h
  obtain ⟨rfl, q2⟩ := lsAt_eq q
  obtain ⟨a, vs, rfl, k1, k2, k3⟩ := lst_at s r q2
  exact .inl ⟨rfl, _, SqL.of k2⟩
theorem s_app {f g : SF} (ho : PE X o (tM X.K X.mg W f)) (he : PE X e (tM X.K X.mg W g)) (hbase : attributeBase o "append" X.env (eval o X.env) = eval o X.env := by rfl)
    (hfew : ((backTo cpos (starEach [e] X.env)).all (fun x => !x.1) && (backToKw cpos (keywordEach [] X.env)).all (fun x => x.1.isSome) && decide ([e].length + ([] : List Keyword).length + (if ([] : List Keyword).isEmpty then 0 else 1) < 30)) = true := by rfl)
    (hline : (apos.endLine == cpos.line) = true := by rfl) (hs : starEach [e] X.env = (false, eval e X.env) :: starEach [] X.env := by rfl) (hplain : (backTo cpos (starEach [] X.env)).any (·.1) = false := by rfl) :
    PE X (.Call (.Attribute o "append" apos) [e] [] cpos) (tM X.K X.mg W (mApp f g)) := by
  refine pe_imp (pe_bm PySem.F.plainAttrs_list PySem.F.slot_list_append PySem.F.type_list_append mt_append ho (pa_cons he pa_nil hs) hbase hfew hline hs hplain) fun σ H Q ⟨μ, Hs, ρ, S, r, S1, s, env, e, P⟩ => ?_
  obtain ⟨q, S2, e1, P1⟩ := post_bind e P
  refine ⟨μ, Hs, ρ, S, q, S2, s, env, e1, P1.imp fun d μ1 Hs1 H1 g1 s1 ⟨_, _, e2, P2⟩ v rv => ?_⟩
  obtain ⟨hty, e2⟩ := ite_opt e2
  obtain ⟨q2, S3, e3, P3⟩ := post_bind e2 P2
  refine ⟨ty_loc s1 rv hty, μ1, Hs1, ρ, S2, q2, S3, s1, env.gr g1, e3, P3.imp fun d2 μ2 Hs2 H2 g2 s2 ⟨_, _, e4, P4⟩ u ru => ?_⟩
  obtain ⟨⟨n, ds⟩, e5, e6⟩ := b1_eq e4
  obtain ⟨hz, h2⟩ := ite_some e6
  cases h2
  obtain ⟨rfl, e7⟩ := lsAt_eq e5
  obtain ⟨a, vs, rfl, k1, k2, k3⟩ := lst_at s2 (rv.gr g2) e7
  exact ⟨a, vs, u, rfl, rfl, k2, by rw [k3.len]; exact hz, P4 _ _ _ (Gr.refl _ _) (s2.write k1 ⟨_, upd_same, k3.snoc ru⟩) _ .non⟩
theorem s_ext {f g : SF} (ho : PE X o (tM X.K X.mg W f)) (he : PE X e (tM X.K X.mg W g)) (hbase : attributeBase o "extend" X.env (eval o X.env) = eval o X.env := by rfl)
    (hfew : ((backTo cpos (starEach [e] X.env)).all (fun x => !x.1) && (backToKw cpos (keywordEach [] X.env)).all (fun x => x.1.isSome) && decide ([e].length + ([] : List Keyword).length + (if ([] : List Keyword).isEmpty then 0 else 1) < 30)) = true := by rfl)
    (hline : (apos.endLine == cpos.line) = true := by rfl) (hs : starEach [e] X.env = (false, eval e X.env) :: starEach [] X.env := by rfl) (hplain : (backTo cpos (starEach [] X.env)).any (·.1) = false := by rfl) :
    PE X (.Call (.Attribute o "extend" apos) [e] [] cpos) (tM X.K X.mg W (mExt f g)) := by
  refine pe_imp (pe_bm PySem.F.plainAttrs_list PySem.F.slot_list_extend PySem.F.type_list_extend mt_extend ho (pa_cons he pa_nil hs) hbase hfew hline hs hplain) fun σ H Q ⟨μ, Hs, ρ, S, r, S1, s, env, e, P⟩ => ?_
  obtain ⟨q, S2, e1, P1⟩ := post_bind e P
  refine ⟨μ, Hs, ρ, S, q, S2, s, env, e1, P1.imp fun d μ1 Hs1 H1 g1 s1 ⟨_, _, e2, P2⟩ v rv => ?_⟩
  obtain ⟨hty, e2⟩ := ite_opt e2
  obtain ⟨q2, S3, e3, P3⟩ := post_bind e2 P2
  refine ⟨ty_loc s1 rv hty, μ1, Hs1, ρ, S2, q2, S3, s1, env.gr g1, e3, P3.imp fun d2 μ2 Hs2 H2 g2 s2 ⟨_, _, e4, P4⟩ u ru => ?_⟩
  obtain ⟨⟨n, ds⟩, e5, e6⟩ := b1_eq e4
  obtain ⟨⟨m, es⟩, e8, e9⟩ := b1_eq e6
  obtain ⟨hz, h2⟩ := ite_some e9
  cases h2
  obtain ⟨rfl, e7⟩ := lsAt_eq e5
  obtain ⟨rfl, e10⟩ := lsAt_eq e8
  obtain ⟨a, vs, rfl, k1, k2, k3⟩ := lst_at s2 (rv.gr g2) e7
  obtain ⟨b, us, rfl, j1, j2, j3⟩ := lst_at s2 ru e10
  exact ⟨a, b, vs, us, rfl, rfl, k2, j2, by rw [k3.len, j3.len]; exact hz, P4 _ _ _ (Gr.refl _ _) (s2.write k1 ⟨_, upd_same, k3.app j3⟩) _ .non⟩
theorem rpa_drop {K : PySem.W.Frag} {μ : List Addr} {H : Hp} : ∀ {ds : List D} {vs : List V}, RpA K μ H vs ds → RpA K μ H vs.dropLast ds.dropLast
  | [], _, h => by cases h; exact .nil
  | [_], _, h => by
    cases h with
    | cons h1 h2 => cases h2; exact .nil
  | d :: e :: ds, _, h => by
    cases h with
    | cons h1 h2 =>
      have z := rpa_drop h2
      cases h2 with
      | cons h3 h4 => exact .cons h1 z
theorem rpa_erase {K : PySem.W.Frag} {μ : List Addr} {H : Hp} : ∀ {ds : List D} {vs : List V} (k : Nat), RpA K μ H vs ds → RpA K μ H (vs.eraseIdx k) (ds.eraseIdx k)
  | [], _, k, h => by cases h; exact .nil
  | d :: ds, _, 0, h => by
    cases h with
    | cons h1 h2 => exact h2
  | d :: ds, _, k + 1, h => by
    cases h with
    | cons h1 h2 => exact .cons h1 (rpa_erase k h2)
theorem s_pop {f : SF} (ho : PE X o (tM X.K X.mg W f)) (hbase : attributeBase o "pop" X.env (eval o X.env) = eval o X.env := by rfl) (hline : (apos.endLine == cpos.line) = true := by rfl) : PE X (.Call (.Attribute o "pop" apos) [] [] cpos) (tM X.K X.mg W (mPop f)) := by
  refine pe_imp (pe_bm0 PySem.F.plainAttrs_list PySem.F.slot_list_pop PySem.F.type_list_pop mt_pop ho hbase hline) fun σ H Q ⟨μ, Hs, ρ, S, r, S1, s, env, e, P⟩ => ?_
  obtain ⟨q, S2, e1, P1⟩ := post_bind e P
  refine ⟨μ, Hs, ρ, S, q, S2, s, env, e1, P1.imp fun d μ1 Hs1 H1 g1 s1 ⟨_, _, e2, P2⟩ v rv => ?_⟩
  obtain ⟨⟨n, ds⟩, e5, e6⟩ := b1_eq e2
  obtain ⟨z, e7, e8⟩ := b1_eq e6
  cases e8
  refine ⟨ty_loc s1 rv (by rw [e5]; rfl), ?_⟩
  obtain ⟨rfl, e9⟩ := lsAt_eq e5
  obtain ⟨a, vs, rfl, k1, k2, k3⟩ := lst_at s1 rv e9
  have e7' : ds[ds.length - 1]? = some z := e7
  obtain ⟨y, e10, ry⟩ := k3.getD e7'
  exact ⟨a, vs, y, rfl, rfl, k2, by rw [k3.len]; exact e10, P2 _ _ _ (Gr.refl _ _) (s1.write k1 ⟨_, upd_same, rpa_drop k3⟩) _ ry⟩
theorem s_popAt {f g : SF} (ho : PE X o (tM X.K X.mg W f)) (he : PE X e (tM X.K X.mg W g)) (hbase : attributeBase o "pop" X.env (eval o X.env) = eval o X.env := by rfl)
    (hfew : ((backTo cpos (starEach [e] X.env)).all (fun x => !x.1) && (backToKw cpos (keywordEach [] X.env)).all (fun x => x.1.isSome) && decide ([e].length + ([] : List Keyword).length + (if ([] : List Keyword).isEmpty then 0 else 1) < 30)) = true := by rfl)
    (hline : (apos.endLine == cpos.line) = true := by rfl) (hs : starEach [e] X.env = (false, eval e X.env) :: starEach [] X.env := by rfl) (hplain : (backTo cpos (starEach [] X.env)).any (·.1) = false := by rfl) :
    PE X (.Call (.Attribute o "pop" apos) [e] [] cpos) (tM X.K X.mg W (mPopAt f g)) := by
  refine pe_imp (pe_bm PySem.F.plainAttrs_list PySem.F.slot_list_pop PySem.F.type_list_pop mt_popAt ho (pa_cons he pa_nil hs) hbase hfew hline hs hplain) fun σ H Q ⟨μ, Hs, ρ, S, r, S1, s, env, e, P⟩ => ?_
  obtain ⟨q, S2, e1, P1⟩ := post_bind e P
  refine ⟨μ, Hs, ρ, S, q, S2, s, env, e1, P1.imp fun d μ1 Hs1 H1 g1 s1 ⟨_, _, e2, P2⟩ v rv => ?_⟩
  obtain ⟨hty, e2⟩ := ite_opt e2
  obtain ⟨q2, S3, e3, P3⟩ := post_bind e2 P2
  refine ⟨ty_loc s1 rv hty, μ1, Hs1, ρ, S2, q2, S3, s1, env.gr g1, e3, P3.imp fun d2 μ2 Hs2 H2 g2 s2 ⟨_, _, e4, P4⟩ u ru => ?_⟩
  obtain ⟨⟨n, ds⟩, e5, e6⟩ := b1_eq e4
  cases d2 with
  | int i =>
    cases ru
    obtain ⟨⟨h1, h2⟩, e6⟩ := ite_opt e6
    obtain ⟨k, e7, e8⟩ := b1_eq e6
    obtain ⟨z, e9, e10⟩ := b1_eq e8
    cases e10
    obtain ⟨rfl, e11⟩ := lsAt_eq e5
    obtain ⟨a, vs, rfl, k1, k2, k3⟩ := lst_at s2 (rv.gr g2) e11
    obtain ⟨y, e12, ry⟩ := k3.getD e9
    exact ⟨a, vs, i, k, y, rfl, rfl, k2, h1, h2, by rw [k3.len]; exact e7, e12, P4 _ _ _ (Gr.refl _ _) (s2.write k1 ⟨_, upd_same, rpa_erase k k3⟩) _ ry⟩
  | _ => cases e6

/-! ### slices -/
abbrev SFo := Rho → Store → Option (Res (Option Int) × Store)
def tMO (K : PySem.W.Frag) (mg : Str → Option Value) (W : WX) (f : SFo) : TO := fun σ H Q => ∃ (μ : List Addr) (Hs : Hp) (ρ : Rho) (S : Store) (r : Res (Option Int)) (S1 : Store),
  Sim K mg μ Hs H S ∧ VEnv K μ Hs σ ρ ∧ f ρ S = some (r, S1) ∧ PostM K mg W σ μ Hs r S1 fun d _ _ H' => Q d H'
def moNo : SFo := fun _ S => some (.ok none, S)
def moE (f : SF) : SFo := fun ρ S => sb (f ρ S) fun d S1 => match d with
  | .int i => some (.ok (some i), S1)
  | _ => none
theorem so_none : PO X none (tMO X.K X.mg W moNo) := po_imp po_none fun σ H Q ⟨μ, Hs, ρ, S, r, S1, s, env, e, P⟩ => by cases e; exact P μ Hs H (Gr.refl _ _) s
theorem so_some {f : SF} (he : PE X e (tM X.K X.mg W f)) : PO X (some e) (tMO X.K X.mg W (moE f)) := by
  refine po_imp (po_some he) fun σ H Q ⟨μ, Hs, ρ, S, r, S1, s, env, e, P⟩ => ?_
  obtain ⟨q, S2, e1, P1⟩ := post_bind e P
  refine ⟨μ, Hs, ρ, S, q, S2, s, env, e1, P1.imp fun d μ1 Hs1 H1 g1 s1 ⟨_, _, e2, P2⟩ v rv => ?_⟩
  cases d with
  | int i => cases e2; cases rv; exact ⟨i, rfl, P2 _ _ _ (Gr.refl _ _) s1⟩
  | _ => cases e2
/-- x[lo:hi]: of a list's cell a new cell, else as data -/
def mSl (f : SF) (l h : SFo) : SF := fun ρ S => sb (f ρ S) fun d S1 => sb (l ρ S1) fun lo S2 => sb (h ρ S2) fun hi S3 => match lsAt S3 d with
  | some q => some (.ok (.loc S3.length), S3 ++ [.lst (cutD q.2 lo hi)])
  | none => b1 (gSl d lo hi) fun o => some (.ok o, S3)
theorem slice_pure {K : PySem.W.Frag} {μ : List Addr} {Hs H : Hp} {v : V} {d o : D} {lo hi : Option Int} {Q : VK} (s : Same Hs H) (r1 : Rp K μ Hs v d) (e6 : gSl d lo hi = some o) (k : ∀ v' H' Hs', Ext Hs H Hs' H' → Rp K μ Hs' v' o → Q v' H') :
    rSlL K v lo hi H Q ∨ rSlA K v lo hi H Q ∨ rSlS v lo hi H Q := by
  have own : ∀ p, H p = none → ∀ u, Ext Hs H (upd Hs p u) (upd H p u) := fun p hp u => Ext.made s hp
  cases r1 with
  | lst q1 q2 =>
    cases e6
    exact .inl ⟨_, _, rfl, SqL.of (s _ _ q1), fun p hp => k _ _ _ (own p hp _) (.lst upd_same ((cut_rp q2 _ _).mono (own p hp (.lst _)).part))⟩
  | tup q1 q2 =>
    cases e6
    refine .inr (.inl ⟨_, _, rfl, sqT_mono s q1, fun w => ?_, fun w p hp => ?_⟩)
    · refine k _ _ _ (Ext.refl s) (.tup q1 ?_)
      rw [q2.len] at w
      have e7 : ∀ (ds : List D), HT.sIx ds.length 0 lo = 0 → HT.sIx ds.length ds.length hi = ds.length → cutD ds lo hi = ds := fun ds w1 w2 => by
        unfold cutD
        rw [w1, w2]
        simp
      rw [e7 _ w.1 w.2]
      exact q2
    · exact k _ _ _ (own p hp _) (.tup (SqT.of upd_same) ((cut_rp q2 _ _).mono (own p hp (.tup _)).part))
  | str z =>
    obtain ⟨hz, rfl⟩ := ite_some e6
    exact .inr (.inr ⟨_, rfl, hz, k _ _ _ (Ext.refl s) (.str _)⟩)
  | scr q1 =>
    cases e6
    refine .inl ⟨_, _, rfl, s.seq q1, fun p hp => ?_⟩
    rw [cut_ints]
    exact k _ _ _ (own p hp _) (.lst upd_same RpA.ints)
  | _ => exact nomatch e6
theorem s_slice {lo hi : Option Expr} {f : SF} {fl fh : SFo} (he : PE X e (tM X.K X.mg W f)) (hl : PO X lo (tMO X.K X.mg W fl)) (hh : PO X hi (tMO X.K X.mg W fh)) : PE X (.Subscript e (.Slice lo hi none p2) pos) (tM X.K X.mg W (mSl f fl fh)) := by
  refine pe_imp (pe_slice (SlR.or sl_list (SlR.or sl_tupA sl_str)) he hl hh) fun σ H Q ⟨μ, Hs, ρ, S, r, S1, s, env, e, P⟩ => ?_
  obtain ⟨q, S2, e1, P1⟩ := post_bind e P
  refine ⟨μ, Hs, ρ, S, q, S2, s, env, e1, P1.imp fun d μ1 Hs1 H1 g1 s1 ⟨_, _, e2, P2⟩ v rv => ?_⟩
  obtain ⟨q2, S3, e3, P3⟩ := post_bind e2 P2
  refine ⟨μ1, Hs1, ρ, S2, q2, S3, s1, env.gr g1, e3, P3.imp fun l μ2 Hs2 H2 g2 s2 ⟨_, _, e4, P4⟩ => ?_⟩
  obtain ⟨q3, S4, e5, P5⟩ := post_bind e4 P4
  refine ⟨μ2, Hs2, ρ, S3, q3, S4, s2, (env.gr g1).gr g2, e5, P5.imp fun h μ3 Hs3 H3 g3 s3 ⟨_, _, e6, P6⟩ => ?_⟩
  have rv3 := (rv.gr g2).gr g3
  split at e6
  · rename_i z hz
    cases e6
    obtain ⟨rfl, e7⟩ := lsAt_eq hz
    obtain ⟨a, vs, rfl, k1, k2, k3⟩ := lst_at s3 rv3 e7
    refine .inl ⟨a, vs, rfl, SqL.of k2, fun p hp => ?_⟩
    obtain ⟨s4, g4⟩ := s3.alloc (c := .lst (cutD z.2 l h)) hp ⟨_, upd_same, (cut_rp k3 l h).gr ⟨⟨[p], rfl⟩, Same.refl _⟩⟩
    exact P6 _ _ _ g4 s4 _ (loc_new s3.len)
  · obtain ⟨o, e7, e8⟩ := b1_eq e6
    cases e8
    exact slice_pure s3.sub rv3 e7 fun v' H' Hs' x r' => P6 μ3 Hs' H' (Gr.part x.part) (s3.ext x) v' r'
end

/-! ### statements -/
inductive Fx where
  | nx (ρ : Rho) | bk (ρ : Rho) | ct (ρ : Rho) | rt (d : D) | er (x : Exn) (ρ : Rho)
abbrev SG := Rho → Store → Option (Fx × Store)
def AftM (K : PySem.W.Frag) (mg : Str → Option Value) (W : WX) (Dn : Ends) (μ : List Addr) (Hs : Hp) (S1 : Store) : Fx → Prop
  | .nx ρ => ∀ σ μ' Hs' H', Gr μ Hs μ' Hs' → Sim K mg μ' Hs' H' S1 → VEnv K μ' Hs' σ ρ → Dn.nx σ H'
  | .bk ρ => ∀ σ μ' Hs' H', Gr μ Hs μ' Hs' → Sim K mg μ' Hs' H' S1 → VEnv K μ' Hs' σ ρ → Dn.bk σ H'
  | .ct ρ => ∀ σ μ' Hs' H', Gr μ Hs μ' Hs' → Sim K mg μ' Hs' H' S1 → VEnv K μ' Hs' σ ρ → Dn.ct σ H'
  | .rt d => ∀ v μ' Hs' H', Gr μ Hs μ' Hs' → Sim K mg μ' Hs' H' S1 → Rp K μ' Hs' v d → Dn.rt v H'
  | .er x ρ => ∀ σ μ' Hs' H' cls dx, Gr μ Hs μ' Hs' → Sim K mg μ' Hs' H' S1 → VEnv K μ' Hs' σ ρ → ExOk K mg μ' Hs' H' x cls dx → W cls dx σ H'
theorem AftM.gr {K : PySem.W.Frag} {mg : Str → Option Value} {W : WX} {Dn : Ends} {μ μ' : List Addr} {Hs Hs' : Hp} {S1 : Store} (g : Gr μ Hs μ' Hs') : ∀ {fl : Fx}, AftM K mg W Dn μ Hs S1 fl → AftM K mg W Dn μ' Hs' S1 fl
  | .nx _, k => fun σ m h H g2 => k σ m h H (g.trans g2)
  | .bk _, k => fun σ m h H g2 => k σ m h H (g.trans g2)
  | .ct _, k => fun σ m h H g2 => k σ m h H (g.trans g2)
  | .rt _, k => fun σ m h H g2 => k σ m h H (g.trans g2)
  | .er _ _, k => fun σ m h H c d g2 => k σ m h H c d (g.trans g2)
def tG (K : PySem.W.Frag) (mg : Str → Option Value) (W : WX) (g : SG) : TS := fun Dn σ H => ∃ (μ : List Addr) (Hs : Hp) (ρ : Rho) (S : Store) (fl : Fx) (S1 : Store), Sim K mg μ Hs H S ∧ VEnv K μ Hs σ ρ ∧ g ρ S = some (fl, S1) ∧ AftM K mg W Dn μ Hs S1 fl
/-- an expression's value, then k; its error ends -/
def ev {α : Type} (m : Option (Res α × Store)) (ρ : Rho) (k : α → Store → Option (Fx × Store)) : Option (Fx × Store) := match m with
  | some (.ok a, S) => k a S
  | some (.er x, S) => some (.er x ρ, S)
  | none => none
theorem ev_ok {α : Type} {a : α} {S : Store} {ρ : Rho} {k : α → Store → Option (Fx × Store)} : ev (some (.ok a, S)) ρ k = k a S := rfl
theorem ev_er {α : Type} {x : Exn} {S : Store} {ρ : Rho} {k : α → Store → Option (Fx × Store)} : ev (some (.er x, S)) ρ k = some (.er x ρ, S) := rfl
section
variable {K : PySem.W.Frag} {mg : Str → Option Value} {W : WX} {Dn : Ends} {σ : St} {μ : List Addr} {Hs H : Hp} {S : Store} {ρ : Rho}
theorem aft_bind {α : Type} {m : Option (Res α × Store)} {k : α → Store → Option (Fx × Store)} {fl : Fx} {S1 : Store} (env : VEnv K μ Hs σ ρ) (e : ev m ρ k = some (fl, S1)) (P : AftM K mg W Dn μ Hs S1 fl) :
    ∃ (q : Res α) (S2 : Store), m = some (q, S2) ∧ PostM K mg W σ μ Hs q S2 fun a μ' Hs' H' => Sim K mg μ' Hs' H' S2 ∧ Gr μ Hs μ' Hs' ∧ VEnv K μ' Hs' σ ρ ∧ k a S2 = some (fl, S1) ∧ AftM K mg W Dn μ' Hs' S1 fl := by
  cases m with
  | none => cases e
  | some p =>
    obtain ⟨q, S2⟩ := p
    refine ⟨q, S2, rfl, ?_⟩
    cases q with
    | er x => cases e; exact fun μ' Hs' H' cls dx g s x' => P σ μ' Hs' H' cls dx g s (env.gr g) x'
    | ok a => exact fun μ' Hs' H' g s => ⟨s, g, env.gr g, e, P.gr g⟩
end
def gNil : SG := fun ρ S => some (.nx ρ, S)
def gSeq (g1 g2 : SG) : SG := fun ρ S => match g1 ρ S with
  | some (.nx ρ', S') => g2 ρ' S'
  | o => o
def gRet (f : SF) : SG := fun ρ S => ev (f ρ S) ρ fun d S1 => some (.rt d, S1)
def gRetN : SG := fun _ S => some (.rt .non, S)
def gIf (c : SFt) (g1 g2 : SG) : SG := fun ρ S => ev (c ρ S) ρ fun b S1 => if b = true then g1 ρ S1 else g2 ρ S1
def gAsg (set : D → Rho → Option Rho) (f : SF) : SG := fun ρ S => ev (f ρ S) ρ fun d S1 => b1 (set d ρ) fun ρ' => some (.nx ρ', S1)
def gDrop (f : SF) : SG := fun ρ S => ev (f ρ S) ρ fun _ S1 => some (.nx ρ, S1)
def gBrk : SG := fun ρ S => some (.bk ρ, S)
def gCnt : SG := fun ρ S => some (.ct ρ, S)
/-- o.f = e -/
def gFld (c f : Str) (v o : SF) : SG := fun ρ S => ev (v ρ S) ρ fun d S1 => ev (o ρ S1) ρ fun e S2 => match e with
  | .loc n => match S2[n]? with
    | some (.ins c' fs) => if c' = c ∧ fs.length < 1000 then some (.nx ρ, S2.set n (.ins c (putD f d fs))) else none
    | _ => none
  | _ => none
/-- raise c(..) -/
def gRaise (c : Str) (f : SF) : SG := fun ρ S => ev (f ρ S) ρ fun _ S1 => some (.er ⟨c, []⟩ ρ, S1)
section
variable {X : Cx} {W : WX} {e a b c o tg : Expr} {es : List Expr} {st : Stmt} {rest body : List Stmt} {g g1 g2 : SG} {f : SF} {pos p p2 apos cpos : Pos}
theorem sg_nil : PSs X [] (tG X.K X.mg W gNil) := pss_imp pss_nil fun Dn σ H ⟨μ, Hs, ρ, S, fl, S1, s, env, e, k⟩ => by cases e; exact k σ μ Hs H (Gr.refl _ _) s env
theorem sg_cons (h1 : PS X st (tG X.K X.mg W g1)) (h2 : PSs X rest (tG X.K X.mg W g2)) : PSs X (st :: rest) (tG X.K X.mg W (gSeq g1 g2)) := by
  refine pss_imp (pss_cons h1 h2) fun Dn σ H ⟨μ, Hs, ρ, S, fl, S1, s, env, e, k⟩ => ?_
  have e' : (match g1 ρ S with | some (.nx ρ', S') => g2 ρ' S' | o => o) = some (fl, S1) := e
  cases q : g1 ρ S with
  | none => rw [q] at e'; cases e'
  | some p =>
    obtain ⟨f1, S2⟩ := p
    rw [q] at e'
    refine ⟨μ, Hs, ρ, S, f1, S2, s, env, q, ?_⟩
    cases f1 with
    | nx ρ' => exact fun σ' μ' Hs' H' g' s' env' => ⟨μ', Hs', ρ', S2, fl, S1, s', env', e', k.gr g'⟩
    | bk ρ' => cases e'; exact k
    | ct ρ' => cases e'; exact k
    | rt d => cases e'; exact k
    | er x ρ' => cases e'; exact k
theorem sg_one (h1 : PS X st (tG X.K X.mg W g1)) : PSs X [st] (tG X.K X.mg W g1) := pss_one h1
theorem sg_ret (he : PE X e (tM X.K X.mg W f)) : PS X (.Return (some e) pos) (tG X.K X.mg W (gRet f)) := by
  refine ps_imp (ps_ret he) fun Dn σ H ⟨μ, Hs, ρ, S, fl, S1, s, env, e, k⟩ => ?_
  obtain ⟨q, S2, e1, P1⟩ := aft_bind env e k
  refine ⟨μ, Hs, ρ, S, q, S2, s, env, e1, P1.imp fun d μ1 Hs1 H1 g1 s1 ⟨_, _, _, e2, P2⟩ v rv => ?_⟩
  cases e2
  exact P2 v _ _ _ (Gr.refl _ _) s1 rv
theorem sg_retN : PS X (.Return none pos) (tG X.K X.mg W gRetN) := ps_imp ps_retN fun Dn σ H ⟨μ, Hs, ρ, S, fl, S1, s, env, e, k⟩ => by cases e; exact k _ _ _ _ (Gr.refl _ _) s .non
theorem sg_if {tb : List Stmt} {ft : SFt} (hc : PT X c (tMT X.K X.mg W ft)) (h1 : PSs X body (tG X.K X.mg W g1)) (h2 : PSs X tb (tG X.K X.mg W g2)) : PS X (.If c body tb pos) (tG X.K X.mg W (gIf ft g1 g2)) := by
  refine ps_imp (ps_if hc h1 h2) fun Dn σ H ⟨μ, Hs, ρ, S, fl, S1, s, env, e, k⟩ => ?_
  obtain ⟨q, S2, e1, P1⟩ := aft_bind env e k
  refine ⟨μ, Hs, ρ, S, q, S2, s, env, e1, P1.imp fun b μ1 Hs1 H1 g1 s1 ⟨_, _, env1, e2, P2⟩ => ?_⟩
  cases b with
  | true => exact iteT ⟨μ1, Hs1, ρ, S2, fl, S1, s1, env1, e2, P2⟩
  | false => exact iteF ⟨μ1, Hs1, ρ, S2, fl, S1, s1, env1, e2, P2⟩
theorem sg_set {gt : TG} {set : D → Rho → Option Rho} {vs : List Nat} (T : TgD X.K gt set vs) (he : PE X e (tM X.K X.mg W f)) (hg : PG X tg gt) (hs : swapsWithSole [tg] e pos.line X.env = pure false := by rfl) (hw : swappedStores [tg] e X.env = pure none := by rfl)
    (h1 : (assignEach [tg] X.env).map (·.2) = [assign tg X.env] := by rfl) : PS X (.Assign [tg] e pos) (tG X.K X.mg W (gAsg set f)) := by
  refine ps_imp (ps_asg he hg hs hw h1) fun Dn σ H ⟨μ, Hs, ρ, S, fl, S1, s, env, e, k⟩ => ?_
  obtain ⟨q, S2, e1, P1⟩ := aft_bind env e k
  refine ⟨μ, Hs, ρ, S, q, S2, s, env, e1, P1.imp fun d μ1 Hs1 H1 g1 s1 ⟨_, _, env1, e2, P2⟩ v rv => ?_⟩
  obtain ⟨ρ', e3, e4⟩ := b1_eq e2
  cases e4
  exact T.run μ1 Hs1 H1 σ ρ d ρ' v _ s1.sub env1 e3 rv fun σ' env' _ _ => P2 σ' μ1 Hs1 H1 (Gr.refl _ _) s1 env'
theorem sg_asg (i : Nat) {x : Str} {pos' : Pos} (hN : X.N.Nodup) (he : PE X e (tM X.K X.mg W f)) (hi : X.N[i]? = some x := by rfl) (hx : Loc X.env.scope x := by first | exact .inl rfl | exact .inr rfl) (hf : X.fn x = true ∨ X.env.scope.names.lookup x = some .local := by first | exact .inl rfl | exact .inr rfl)
    (hs : swapsWithSole [.Name x pos'] e pos.line X.env = pure false := by rfl) (hw : swappedStores [.Name x pos'] e X.env = pure none := by rfl) :
    PS X (.Assign [.Name x pos'] e pos) (tG X.K X.mg W (gAsg (st1 i) f)) := sg_set (tg_1 i) he (pg_name hN hi hx hf) hs hw
theorem sg_drop (he : PE X e (tM X.K X.mg W f)) (hs : swapsWith e none pos.line X.env = pure false := by rfl) : PS X (.Expr e pos) (tG X.K X.mg W (gDrop f)) := by
  refine ps_imp (ps_expr he hs) fun Dn σ H ⟨μ, Hs, ρ, S, fl, S1, s, env, e, k⟩ => ?_
  obtain ⟨q, S2, e1, P1⟩ := aft_bind env e k
  refine ⟨μ, Hs, ρ, S, q, S2, s, env, e1, P1.imp fun d μ1 Hs1 H1 g1 s1 ⟨_, _, env1, e2, P2⟩ v rv => ?_⟩
  cases e2
  exact P2 σ μ1 Hs1 H1 (Gr.refl _ _) s1 env1
theorem sg_doc {x : Str} {j p} : PS X (.Expr (.Constant (.str x) j p) pos) (tG X.K X.mg W gNil) := ps_imp ps_doc fun Dn σ H ⟨μ, Hs, ρ, S, fl, S1, s, env, e, k⟩ => by cases e; exact k _ _ _ _ (Gr.refl _ _) s env
theorem sg_pass : PS X (.Pass pos) (tG X.K X.mg W gNil) := ps_imp ps_pass fun Dn σ H ⟨μ, Hs, ρ, S, fl, S1, s, env, e, k⟩ => by cases e; exact k _ _ _ _ (Gr.refl _ _) s env
theorem sg_break : PS X (.Break pos) (tG X.K X.mg W gBrk) := ps_imp ps_break fun Dn σ H ⟨μ, Hs, ρ, S, fl, S1, s, env, e, k⟩ => by cases e; exact k _ _ _ _ (Gr.refl _ _) s env
theorem sg_cont : PS X (.Continue pos) (tG X.K X.mg W gCnt) := ps_imp ps_continue fun Dn σ H ⟨μ, Hs, ρ, S, fl, S1, s, env, e, k⟩ => by cases e; exact k _ _ _ _ (Gr.refl _ _) s env
theorem sg_fld {cn fn : Str} {v : SF} {value : Expr} {pos' : Pos} (hc : Ck X.K X.mg cn) (hn : At X.K X.mg cn fn) (hv : PE X value (tM X.K X.mg W v)) (ho : PE X o (tM X.K X.mg W f)) (hs : swapsWith value (some (.Attribute o fn pos')) pos.line X.env = pure false := by rfl) :
    PS X (.Assign [.Attribute o fn pos'] value pos) (tG X.K X.mg W (gFld cn fn v f)) := by
  obtain ⟨C, c1, c2⟩ := hc.ex
  refine ps_imp (ps_fld ho hv hs) fun Dn σ H ⟨μ, Hs, ρ, S, fl, S1, s, env, e, k⟩ => ?_
  obtain ⟨q, S2, e1, P1⟩ := aft_bind env e k
  refine ⟨μ, Hs, ρ, S, q, S2, s, env, e1, P1.imp fun d μ1 Hs1 H1 g1 s1 ⟨_, _, env1, e2, k2⟩ v rv => ?_⟩
  obtain ⟨q2, S3, e3, P3⟩ := aft_bind env1 e2 k2
  refine ⟨μ1, Hs1, ρ, S2, q2, S3, s1, env1, e3, P3.imp fun d2 μ2 Hs2 H2 g2 s2 ⟨_, _, env2, e4, k4⟩ u ru => ?_⟩
  cases d2 with
  | loc n =>
    simp only at e4
    cases q1 : S3[n]? with
    | none => rw [q1] at e4; cases e4
    | some ce =>
      rw [q1] at e4
      cases ce with
      | ins c' fs =>
        simp only at e4
        obtain ⟨⟨rfl, hz⟩, h2⟩ := ite_some e4
        cases h2
        obtain ⟨a, dx, vs, rfl, j1, j2, j3⟩ := ins_at s2 ru q1 c1
        refine ⟨a, C, dx, vs, rfl, j2, c2, hn.no C c1, by rw [j3.len]; exact hz, ?_⟩
        exact k4 σ μ2 Hs2 _ (Gr.refl _ _) (s2.write j1 ⟨C, dx, _, c1, upd_same, j3.put (rv.gr g2)⟩) env2
      | _ => cases e4
  | _ => cases e4
end
end Pd

/-! Sd3: loops, raise, try, defs over a store. -/
namespace Pd
open PySem PySem.Spec L2 SkE
open PyProof.Rows hiding St
open Classical in
/-- a turn for each of ds, as long as chk holds of the store -/
noncomputable def goS (chk : Store → Prop) (T : D → SG) : List D → SG
  | [] => fun ρ S => if chk S then some (.nx ρ, S) else none
  | d :: ds => fun ρ S => if chk S then match T d ρ S with
    | some (.nx ρ', S') => goS chk T ds ρ' S'
    | some (.ct ρ', S') => goS chk T ds ρ' S'
    | some (.bk ρ', S') => some (.nx ρ', S')
    | some (.rt v, S') => some (.rt v, S')
    | some (.er x ρ', S') => some (.er x ρ', S')
    | none => none
    else none
abbrev SFi := Rho → Store → Option (Res (List D × (Store → Prop)) × Store)
structure WkS (K : PySem.W.Frag) (mg : Str → Option Value) (J : It) (μ : List Addr) (Hs : Hp) (chk : Store → Prop) (ds : List D) : Prop where
  go : ∀ i μ2 Hs2 H2 S2, Gr μ Hs μ2 Hs2 → Sim K mg μ2 Hs2 H2 S2 → chk S2 → i < ds.length → J.go i H2
  stop : ∀ i μ2 Hs2 H2 S2, Gr μ Hs μ2 Hs2 → Sim K mg μ2 Hs2 H2 S2 → chk S2 → ds.length ≤ i → J.stop i H2
  yld : ∀ i μ2 Hs2 H2 S2 x H', Gr μ Hs μ2 Hs2 → Sim K mg μ2 Hs2 H2 S2 → chk S2 → J.yld i H2 x H' → ∀ d, ds[i]? = some d → ∃ Hs3, Ext Hs2 H2 Hs3 H' ∧ Rp K μ2 Hs3 x d
def tMI (K : PySem.W.Frag) (mg : Str → Option Value) (W : WX) (f : SFi) : TI := fun σ H R => ∃ (μ : List Addr) (Hs : Hp) (ρ : Rho) (S : Store) (r : Res (List D × (Store → Prop))) (S1 : Store),
  Sim K mg μ Hs H S ∧ VEnv K μ Hs σ ρ ∧ f ρ S = some (r, S1) ∧ PostM K mg W σ μ Hs r S1 fun p μ' Hs' H' => ∀ J, WkS K mg J μ' Hs' p.2 p.1 → R J H'
def miP (f : Fs) : SFi := fun ρ S => b1 (f ρ) fun ds => some (.ok (ds, fun _ => True), S)
/-- over a list: its cell must not change meanwhile -/
def miL (f : SF) : SFi := fun ρ S => sb (f ρ S) fun d S1 => match lsAt S1 d with
  | some q => some (.ok (q.2, fun S => S[q.1]? = some (.lst q.2)), S1)
  | none => b1 (itL d) fun ds => some (.ok (ds, fun _ => True), S1)
noncomputable def gFor (fi : SFi) (set : D → Rho → Option Rho) (g : SG) : SG := fun ρ S => ev (fi ρ S) ρ fun p S1 => goS p.2 (fun d ρ S => b1 (set d ρ) fun ρ' => g ρ' S) p.1 ρ S1
def whlS (c : SFt) (g : SG) : Nat → SG
  | 0 => fun _ _ => none
  | n + 1 => fun ρ S => ev (c ρ S) ρ fun b S1 => if b = true then match g ρ S1 with
    | some (.nx ρ', S') => whlS c g n ρ' S'
    | some (.ct ρ', S') => whlS c g n ρ' S'
    | some (.bk ρ', S') => some (.nx ρ', S')
    | some (.rt v, S') => some (.rt v, S')
    | some (.er x ρ', S') => some (.er x ρ', S')
    | none => none
    else some (.nx ρ, S1)
theorem whl_mono {c : SFt} {g : SG} : ∀ {n m : Nat} {ρ : Rho} {S : Store} {r : Fx × Store}, n ≤ m → whlS c g n ρ S = some r → whlS c g m ρ S = some r
  | 0, _, _, _, _, _, h => nomatch h
  | n + 1, 0, _, _, _, hm, _ => absurd hm (by omega)
  | n + 1, m + 1, ρ, S, r, hm, h => by
    have h' : ev (c ρ S) ρ _ = some r := h
    show ev (c ρ S) ρ _ = some r
    cases q : c ρ S with
    | none => rw [q] at h'; cases h'
    | some p =>
      obtain ⟨a, S1⟩ := p
      rw [q] at h'
      cases a with
      | er x => exact h'
      | ok b =>
        cases b with
        | false => exact h'
        | true =>
          simp only [ev_ok, if_true] at h' ⊢
          cases q2 : g ρ S1 with
          | none => rw [q2] at h'; cases h'
          | some p2 =>
            obtain ⟨fl, S2⟩ := p2
            rw [q2] at h'
            cases fl with
            | nx ρ' => exact whl_mono (by omega) h'
            | ct ρ' => exact whl_mono (by omega) h'
            | bk _ => exact h'
            | rt _ => exact h'
            | er _ _ => exact h'
open Classical in
noncomputable def gWhl (c : SFt) (g : SG) : SG := fun ρ S => if h : ∃ n r, whlS c g n ρ S = some r then some h.choose_spec.choose else none
theorem gWhl_of {c : SFt} {g : SG} {ρ : Rho} {S : Store} {n : Nat} {r : Fx × Store} (h : whlS c g n ρ S = some r) : gWhl c g ρ S = some r := by
  have hx : ∃ n r, whlS c g n ρ S = some r := ⟨n, r, h⟩
  unfold gWhl
  rw [dif_pos hx]
  have h2 := hx.choose_spec.choose_spec
  have z1 := whl_mono (Nat.le_max_left n hx.choose) h
  have z2 := whl_mono (Nat.le_max_right n hx.choose) h2
  rw [z1] at z2
  exact z2.symm
theorem gWhl_eq {c : SFt} {g : SG} {ρ : Rho} {S : Store} {r : Fx × Store} (h : gWhl c g ρ S = some r) : ∃ n, whlS c g n ρ S = some r := by
  unfold gWhl at h
  split at h
  · rename_i hx
    cases h
    exact ⟨_, hx.choose_spec.choose_spec⟩
  · cases h
section
variable {X : Cx} {W : WX} {e a b c o tg iter : Expr} {es : List Expr} {st : Stmt} {rest body : List Stmt} {g g1 g2 : SG} {f : SF} {pos p p2 apos cpos : Pos}
theorem si_pure {fs : Fs} (h : PI X tg iter (tDI X.K fs)) : PI X tg iter (tMI X.K X.mg W (miP fs)) := by
  refine pi_imp h fun σ H Q ⟨μ, Hs, ρ, S, r, S1, s, env, e, P⟩ => ?_
  obtain ⟨ds, e1, e2⟩ := b1_eq e
  cases e2
  refine ⟨μ, Hs, ρ, ds, s.sub, env, e1, fun J H' Hs' x wk => P μ Hs' H' (Gr.part x.part) (s.ext x) J ?_⟩
  exact ⟨fun i μ2 Hs2 H2 S2 g s2 _ hi => wk.go i H2 (g.sub.trans s2.sub) hi, fun i μ2 Hs2 H2 S2 g s2 _ hi => wk.stop i H2 (g.sub.trans s2.sub) hi, fun i μ2 Hs2 H2 S2 v H3 g s2 _ hy d hd => by
    obtain ⟨Hs3, x3, r3⟩ := wk.yld i H2 Hs2 v H3 g.sub s2.sub hy d hd
    obtain ⟨l, rfl⟩ := g.pre
    exact ⟨Hs3, x3, r3.gr ⟨⟨l, rfl⟩, Same.refl _⟩⟩⟩
theorem si_list {f : SF} (he : PE X e (tM X.K X.mg W f)) : PI X tg e (tMI X.K X.mg W (miL f)) := by
  refine pi_imp (pi_list he) fun σ H Q ⟨μ, Hs, ρ, S, r, S1, s, env, e, P⟩ => ?_
  obtain ⟨q, S2, e1, P1⟩ := post_bind e P
  refine ⟨μ, Hs, ρ, S, q, S2, s, env, e1, P1.imp fun d μ1 Hs1 H1 g1 s1 ⟨_, _, e2, P2⟩ v rv => ?_⟩
  split at e2
  · rename_i q hq
    obtain ⟨n, ds⟩ := q
    cases e2
    obtain ⟨rfl, e3⟩ := lsAt_eq hq
    obtain ⟨a, vs, rfl, k1, k2, k3⟩ := lst_at s1 rv e3
    refine ⟨a, rfl, ⟨vs, SqL.of k2⟩, P2 μ1 Hs1 H1 (Gr.refl _ _) s1 _ ⟨fun i μ2 Hs2 H2 S3 g2 s2 hc hi => ?_, fun i μ2 Hs2 H2 S3 g2 s2 hc hi => ?_, fun i μ2 Hs2 H2 S3 x H3 g2 s2 hc hy d hd => ?_⟩⟩
    · obtain ⟨a', vs', ea, j1, j2, j3⟩ := lst_at s2 (rv.gr g2) hc
      cases ea
      have hl : i < vs'.length := by rw [j3.len]; exact hi
      exact ⟨vs', vs'[i], SqL.of j2, by simp [hl]⟩
    · obtain ⟨a', vs', ea, j1, j2, j3⟩ := lst_at s2 (rv.gr g2) hc
      cases ea
      exact ⟨vs', SqL.of j2, by rw [j3.len]; exact hi⟩
    · obtain ⟨a', vs', ea, j1, j2, j3⟩ := lst_at s2 (rv.gr g2) hc
      cases ea
      obtain ⟨rfl, hy⟩ := hy
      obtain ⟨u, e5, r5⟩ := j3.getD hd
      have e6 := hy vs' (SqL.of j2)
      rw [e5] at e6
      cases e6
      exact ⟨Hs2, Ext.refl s2.sub, r5⟩
  · obtain ⟨ds, e3, e4⟩ := b1_eq e2
    cases e4
    have fin : ∀ a xs, v = .ref a → SqL X.K Hs1 a xs → RpA X.K μ1 Hs1 xs ds → ∃ a, v = .ref a ∧ (∃ xs, SqL X.K H1 a xs) ∧ Q (Itl X.K a) H1 := fun a xs ev hq hr => by
      refine ⟨a, ev, ⟨xs, s1.sub.seq hq⟩, P2 μ1 Hs1 H1 (Gr.refl _ _) s1 _ ?_⟩
      have wk := wk_list hq hr
      exact ⟨fun i μ2 Hs2 H2 S2 g s2 _ hi => wk.go i H2 (g.sub.trans s2.sub) hi, fun i μ2 Hs2 H2 S2 g s2 _ hi => wk.stop i H2 (g.sub.trans s2.sub) hi, fun i μ2 Hs2 H2 S2 v H3 g s2 _ hy d hd => by
        obtain ⟨Hs3, x3, r3⟩ := wk.yld i H2 Hs2 v H3 g.sub s2.sub hy d hd
        obtain ⟨l, rfl⟩ := g.pre
        exact ⟨Hs3, x3, r3.gr ⟨⟨l, rfl⟩, Same.refl _⟩⟩⟩
    cases rv with
    | lst h1 h2 => cases e3; exact fin _ _ rfl (SqL.of h1) h2
    | scr h1 => cases e3; exact fin _ _ rfl h1 RpA.ints
    | _ => exact nomatch e3
theorem sg_for {gt : TG} {set : D → Rho → Option Rho} {vs : List Nat} {fi : SFi} (T : TgD X.K gt set vs) (hp : PassesOwn (model X.prog X.w) X.A X.env X.xe) (hc : X.calm = true) (hi : PI X tg iter (tMI X.K X.mg W fi)) (hg : PG X tg gt) (hb : PSs X body (tG X.K X.mg W g))
    (hs : ∀ x, foldedSetIterable iter X.env x = pure x := by intro _; rfl) : PS X (.For tg iter body [] pos) (tG X.K X.mg W (gFor fi set g)) := by
  refine ps_imp (ps_for hp hc hi hg hb hs) fun Dn σ H ⟨μ, Hs, ρ, S, fl, SF, s, env, e, k⟩ => ?_
  obtain ⟨q, S2, e1, P1⟩ := aft_bind env e k
  refine ⟨μ, Hs, ρ, S, q, S2, s, env, e1, P1.imp fun p μ1 Hs1 H1 g1 s1 ⟨_, _, env1, e2, k2⟩ J wk => ?_⟩
  obtain ⟨ds, chk⟩ := p
  refine ⟨fun i m σ2 H2 => m = ds.length - i ∧ i ≤ ds.length ∧ ∃ μ2 Hs2 ρ2 S3, Gr μ1 Hs1 μ2 Hs2 ∧ Sim X.K X.mg μ2 Hs2 H2 S3 ∧ VEnv X.K μ2 Hs2 σ2 ρ2 ∧ goS chk (fun d ρ S => b1 (set d ρ) fun ρ' => g ρ' S) (ds.drop i) ρ2 S3 = some (fl, SF),
    ⟨_, rfl, Nat.zero_le _, μ1, Hs1, ρ, S2, Gr.refl _ _, s1, env1, by simpa using e2⟩, ?_⟩
  rintro i m σ2 H2 ⟨rfl, hi2, μ2, Hs2, ρ2, S3, g2, s2, env2, e3⟩
  by_cases hlt : i < ds.length
  · obtain ⟨d0, hd0⟩ : ∃ d0, ds[i]? = some d0 := ⟨ds[i], by simp [hlt]⟩
    have hdrop : ds.drop i = d0 :: ds.drop (i + 1) := by
      rw [List.drop_eq_getElem_cons hlt]
      rw [List.getElem?_eq_getElem hlt] at hd0
      cases hd0
      rfl
    rw [hdrop] at e3
    unfold goS at e3
    obtain ⟨hch, e4⟩ := ite_opt e3
    refine .inr ⟨wk.go i μ2 Hs2 H2 S3 g2 s2 hch hlt, fun σ3 H3 => ∃ μ3 Hs3 ρ3 S4, Gr μ1 Hs1 μ3 Hs3 ∧ Sim X.K X.mg μ3 Hs3 H3 S4 ∧ VEnv X.K μ3 Hs3 σ3 ρ3 ∧ goS chk (fun d ρ S => b1 (set d ρ) fun ρ' => g ρ' S) (ds.drop (i + 1)) ρ3 S4 = some (fl, SF),
      fun σ' H' h => ⟨_, by omega, rfl, hlt, h⟩, fun x H3 hy => ?_⟩
    obtain ⟨Hs3, x3, r3⟩ := wk.yld i μ2 Hs2 H2 S3 x H3 g2 s2 hch hy d0 hd0
    have s3 := s2.ext x3
    have g3 : Gr μ2 Hs2 μ2 Hs3 := Gr.part x3.part
    cases q : b1 (set d0 ρ2) fun ρ' => g ρ' S3 with
    | none => rw [q] at e4; cases e4
    | some pr =>
      obtain ⟨f1, S4⟩ := pr
      rw [q] at e4
      obtain ⟨ρ', h1, h2⟩ := b1_eq q
      refine T.run μ2 Hs3 H3 σ2 ρ2 d0 ρ' x _ s3.sub (env2.gr g3) h1 r3 fun σ' env' _ _ => ?_
      refine ⟨μ2, Hs3, ρ', S3, f1, S4, s3, env', h2, ?_⟩
      have g13 := g2.trans g3
      cases f1 with
      | nx ρ5 => exact fun σ5 μ5 Hs5 H5 g5 s5 env5 => ⟨μ5, Hs5, ρ5, S4, g13.trans g5, s5, env5, e4⟩
      | ct ρ5 => exact fun σ5 μ5 Hs5 H5 g5 s5 env5 => ⟨μ5, Hs5, ρ5, S4, g13.trans g5, s5, env5, e4⟩
      | bk ρ5 => cases e4; exact fun σ5 μ5 Hs5 H5 g5 s5 env5 => k2 σ5 μ5 Hs5 H5 (g13.trans g5) s5 env5
      | rt d => cases e4; exact fun v μ5 Hs5 H5 g5 s5 r5 => k2 v μ5 Hs5 H5 (g13.trans g5) s5 r5
      | er z ρ5 => cases e4; exact fun σ5 μ5 Hs5 H5 cls dx g5 s5 env5 x5 => k2 σ5 μ5 Hs5 H5 cls dx (g13.trans g5) s5 env5 x5
  · have e5 : i = ds.length := by omega
    subst e5
    rw [List.drop_length] at e3
    unfold goS at e3
    obtain ⟨hch, e4⟩ := ite_opt e3
    cases e4
    exact .inl ⟨wk.stop _ μ2 Hs2 H2 _ g2 s2 hch (Nat.le_refl _), k2 σ2 μ2 Hs2 H2 g2 s2 env2⟩
theorem sg_while {ft : SFt} (hp : PassesOwn (model X.prog X.w) X.A X.env X.xe) (hc : PT X c (tMT X.K X.mg W ft)) (hb : PSs X body (tG X.K X.mg W g)) : PS X (.While c body [] pos) (tG X.K X.mg W (gWhl ft g)) := by
  refine ps_imp (ps_while hp hc hb) fun Dn σ H ⟨μ, Hs, ρ, S, fl, SF, s, env, e, k⟩ => ?_
  obtain ⟨n, e⟩ := gWhl_eq e
  refine ⟨fun m σ2 H2 => ∃ μ2 Hs2 ρ2 S2, Gr μ Hs μ2 Hs2 ∧ Sim X.K X.mg μ2 Hs2 H2 S2 ∧ VEnv X.K μ2 Hs2 σ2 ρ2 ∧ whlS ft g m ρ2 S2 = some (fl, SF), ⟨n, μ, Hs, ρ, S, Gr.refl _ _, s, env, e⟩, ?_⟩
  rintro m σ2 H2 ⟨μ2, Hs2, ρ2, S2, g2, s2, env2, e2⟩
  cases m with
  | zero => exact nomatch e2
  | succ m =>
    obtain ⟨q, S3, e3, P3⟩ := aft_bind env2 (show ev (ft ρ2 S2) ρ2 _ = some (fl, SF) from e2) (k.gr g2)
    refine ⟨μ2, Hs2, ρ2, S2, q, S3, s2, env2, e3, P3.imp fun b μ3 Hs3 H3 g3 s3 ⟨_, _, env3, e4, k4⟩ => ?_⟩
    cases b with
    | false => cases e4; exact iteF (k4 σ2 μ3 Hs3 H3 (Gr.refl _ _) s3 env3)
    | true =>
      simp only [if_true] at e4
      refine iteT ⟨fun σ4 H4 => ∃ μ4 Hs4 ρ4 S4, Gr μ Hs μ4 Hs4 ∧ Sim X.K X.mg μ4 Hs4 H4 S4 ∧ VEnv X.K μ4 Hs4 σ4 ρ4 ∧ whlS ft g m ρ4 S4 = some (fl, SF), fun σ' H' h => ⟨m, Nat.lt_succ_self m, h⟩, ?_⟩
      have g23 := g2.trans g3
      cases q2 : g ρ2 S3 with
      | none => rw [q2] at e4; cases e4
      | some pr =>
        obtain ⟨f1, S4⟩ := pr
        rw [q2] at e4
        refine ⟨μ3, Hs3, ρ2, S3, f1, S4, s3, env3, q2, ?_⟩
        cases f1 with
        | nx ρ5 => exact fun σ5 μ5 Hs5 H5 g5 s5 env5 => ⟨μ5, Hs5, ρ5, S4, g23.trans g5, s5, env5, e4⟩
        | ct ρ5 => exact fun σ5 μ5 Hs5 H5 g5 s5 env5 => ⟨μ5, Hs5, ρ5, S4, g23.trans g5, s5, env5, e4⟩
        | bk ρ5 => cases e4; exact fun σ5 μ5 Hs5 H5 g5 s5 env5 => k4 σ5 μ5 Hs5 H5 g5 s5 env5
        | rt d => cases e4; exact fun v μ5 Hs5 H5 g5 s5 r5 => k4 v μ5 Hs5 H5 g5 s5 r5
        | er z ρ5 => cases e4; exact fun σ5 μ5 Hs5 H5 cls dx g5 s5 env5 x5 => k4 σ5 μ5 Hs5 H5 cls dx g5 s5 env5 x5
end

/-! ### raise, try -/
/-- an own exception class without __init__ -/
structure Xk (K : PySem.W.Frag) (mg : Str → Option Value) (c : Str) : Prop where
  ex : ∃ C : Addr, mg c = some (.ref C) ∧ PySem.W.excIn K C [.type "ValueError", .type "Exception", .type "BaseException", .type "object"] "ValueError.__new__" = true ∧ PySem.W.keepIn K (.ref C) = true ∧ PySem.W.subIn K (.ref C) (.type "BaseException") = some true ∧ PySem.W.typeIn K (.ref C) = some (.type "type")
/-- what an except clause that names c says of the classes of the text -/
structure Xm (K : PySem.W.Frag) (mg : Str → Option Value) (c : Str) (exm : Str → Option Bool) : Prop where
  ex : ∃ D : Addr, mg c = some (.ref D) ∧ ∀ x b, exm x = some b → ∀ C : Addr, mg x = some (.ref C) → PySem.W.exmOne K (.ref C) (.ref D) = some b
/-- the flow behind an except suite with a name -/
def wipF (i : Nat) : Fx × Store → Option (Fx × Store)
  | (.nx ρ, S) => some (.nx (ρ.set i .junk), S)
  | (.bk ρ, S) => some (.bk (ρ.set i .junk), S)
  | (.ct ρ, S) => some (.ct (ρ.set i .junk), S)
  | (.rt d, S) => some (.rt d, S)
  | (.er _ _, _) => none
open Classical in
/-- what is so wherever the exception stands -/
noncomputable def comA (k : Addr → Option Addr → Option (Fx × Store)) : Option (Fx × Store) := if h : ∃ r, ∀ a d, k a d = some r then some h.choose else none
theorem comA_of {k : Addr → Option Addr → Option (Fx × Store)} {r : Fx × Store} (h : ∀ a d, k a d = some r) : comA k = some r := by
  have hx : ∃ r, ∀ a d, k a d = some r := ⟨r, h⟩
  unfold comA
  rw [dif_pos hx]
  have := hx.choose_spec 0 none
  rw [h] at this
  exact this.symm
theorem comA_eq {k : Addr → Option Addr → Option (Fx × Store)} {r : Fx × Store} (h : comA k = some r) : ∀ a d, k a d = some r := by
  unfold comA at h
  split at h
  · rename_i hx
    cases h
    exact hx.choose_spec
  · cases h
/-- try: bd / except c as n: hd, n in slot i -/
noncomputable def gTryAs (i : Nat) (exm : Str → Option Bool) (bd : SG) (hd : Exn → Addr → Option Addr → SG) : SG := fun ρ S => match bd ρ S with
  | some (.er x ρ', S') => b1 (exm x.cls) fun b => if b = true then comA fun a d => b1 (hd x a d (ρ'.set i (.exc a d x.fs)) S') (wipF i) else some (.er x ρ', S')
  | o => o
def gTryO (exm : Str → Option Bool) (bd : SG) (hd : SG) : SG := fun ρ S => match bd ρ S with
  | some (.er x ρ', S') => b1 (exm x.cls) fun b => if b = true then b1 (hd ρ' S') (fun r => match r with | (.er _ _, _) => none | r => some r) else some (.er x ρ', S')
  | o => o
abbrev W0 : WX := fun _ _ _ _ => False
section
variable {X : Cx} {W : WX} {e a b o : Expr} {es : List Expr} {st b0 : Stmt} {rest body suite : List Stmt} {g g1 g2 : SG} {f : SF} {pos pos' p p2 np apos cpos : Pos} {c n x : Str}
theorem sg_raise (tk : Takes X W) (hc : X.calm = true) (F : Xk X.K X.mg c) (he : PE X e (tM X.K X.mg W f)) (hg : Gl X c := by rfl) (hs : starEach [e] X.env = (false, eval e X.env) :: starEach [] X.env := by rfl) (hdb : (c == ("__debug__" : Str)) = false := by decide) :
    PS X (.Raise (some (.Call (.Name c p) [e] [] p2)) none pos) (tG X.K X.mg W (gRaise c f)) := by
  obtain ⟨C, m, f1, f2, f3, f4⟩ := F.ex
  refine ps_imp (ps_raise hc tk (pmk_own1 PySem.F.excBase_ValueError f1 m f2 (raises_own f3 f4) hg he hs hdb)) fun Dn σ H ⟨μ, Hs, ρ, S, fl, S1, s, env, e, k⟩ => ?_
  obtain ⟨q, S2, e1, P1⟩ := aft_bind env e k
  refine ⟨μ, Hs, ρ, S, q, S2, s, env, e1, P1.imp fun d μ1 Hs1 H1 g1 s1 ⟨_, _, env1, e2, k2⟩ v rv => ?_⟩
  cases e2
  exact k2 σ μ1 Hs1 H1 _ _ (Gr.refl _ _) s1 env1 ⟨C, m, rfl, .inl ⟨rfl, rfl⟩⟩
theorem env_wipe {K : PySem.W.Frag} {μ : List Addr} {Hs : Hp} {σ : St} {ρ : Rho} (i : Nat) (env : VEnv K μ Hs σ ρ) : VEnv K μ Hs (σ.set i none) (ρ.set i .junk) := paired_set (a := none) (b := Sl.junk) (F := VOk K μ Hs) trivial i env
/-- the exception's dict, from now on only read -/
theorem catch_env {K : PySem.W.Frag} {mg : Str → Option Value} {μ : List Addr} {Hs H : Hp} {S : Store} {σ : St} {ρ : Rho} {x : Exn} {cls : Value} {dx : Option Addr} (i : Nat) (av : Addr) (s : Sim K mg μ Hs H S) (env : VEnv K μ Hs σ ρ) (h : ExOk K mg μ Hs H x cls dx) :
    ∃ Hs', Gr μ Hs μ Hs' ∧ Sim K mg μ Hs' H S ∧ VEnv K μ Hs' (σ.set i (some (.ref av))) (ρ.set i (.exc av dx x.fs)) := by
  obtain ⟨C, h1, h2, h3⟩ := h
  rcases h3 with ⟨h3, h4⟩ | ⟨d, vs, _, rfl, h4, h5, h6⟩
  · refine ⟨Hs, Gr.refl _ _, s, paired_set (a := some (V.ref av)) (b := Sl.exc av dx x.fs) (F := VOk K μ Hs) ⟨rfl, .inl h3⟩ i env⟩
  · have sub : Same Hs (upd Hs d (.xd vs)) := fun b u hb => by
      rw [upd_ne (fun z => by subst z; rw [h5] at hb; cases hb)]
      exact hb
    have g : Gr μ Hs μ (upd Hs d (.xd vs)) := Gr.part sub
    refine ⟨upd Hs d (.xd vs), g, ⟨fun b u hb => ?_, s.len, s.nd, fun n b c q1 q2 => ?_⟩, ?_⟩
    · by_cases hbd : b = d
      · subst hbd
        rw [upd_same] at hb
        cases hb
        exact h4
      · rw [upd_ne hbd] at hb
        exact s.sub _ _ hb
    · obtain ⟨q3, q4⟩ := s.cell n b c q1 q2
      refine ⟨q3.move g fun o z => z, ?_⟩
      have nb : b ≠ d := fun z => by
        subst z
        cases c with
        | ins _ _ => obtain ⟨_, _, _, _, z, _⟩ := q3; rw [h4] at z; cases z
        | lst _ => obtain ⟨_, z, _⟩ := q3; rw [h4] at z; cases z
        | dct _ => obtain ⟨_, z, _⟩ := q3; rw [h4] at z; cases z
        | dcL _ _ _ => obtain ⟨z, _⟩ := q3; rw [h4] at z; cases z
      rw [upd_ne nb]
      exact q4
    · refine paired_set (a := some (V.ref av)) (b := Sl.exc av (some d) x.fs) (F := VOk K μ (upd Hs d (.xd vs))) ⟨rfl, .inr ⟨d, vs, rfl, upd_same, paired_imp (fun _ _ z => ⟨z.1, z.2.gr g⟩) h6⟩⟩ i (env.gr g)
theorem sg_tryAs (i : Nat) {exm : Str → Option Bool} {hd : Exn → Addr → Option Addr → SG} (tk : Takes X W) (M : Xm X.K X.mg c exm) (hN : X.N.Nodup)
    (hb : ∀ (W : WX) (pn : List (Addr × Obj)) (xe : Value → Shared → Prop), Takes (X.tr pn xe) W → PassesOwn (model X.prog X.w) X.A X.env xe → PSs (X.tr pn xe) body (tG X.K X.mg W g))
    (hsu : ∀ (a : Addr) (oe : Obj) (C : Addr) (d : Option Addr) (pn : List (Addr × Obj)), Zc (.ref C) d oe → (∃ vs, oe.data = .fields vs) → ∀ x : Exn, X.mg x.cls = some (.ref C) → ((x.fs = [] ∧ d = none) ∨ (x.fs ≠ [] ∧ d.isSome = true)) → PSs (X.suite a ((a, oe) :: pn)) (b0 :: suite) (tG X.K X.mg W0 (hd x a d)))
    (hs : X.stack = X.env :: X.outer := by rfl) (hf : X.env.frame = some X.env.locals := by rfl) (hi : X.N[i]? = some n := by rfl) (hln : X.env.kindOf n = some .local := by rfl) (hg : Gl X c := by rfl) (hdb : (c == ("__debug__" : Str)) = false := by decide) :
    PS X (.Try body [.ExceptHandler (some (.Name c np)) (some n) (b0 :: suite) pos'] [] [] pos) (tG X.K X.mg W (gTryAs i exm g hd)) := by
  obtain ⟨D, m1, m2⟩ := M.ex
  refine ps_imp (ps_try_as (ts := fun a cls d Dn σ H => ∃ (x : Exn) (C : Addr), cls = .ref C ∧ X.mg x.cls = some (.ref C) ∧ ((x.fs = [] ∧ d = none) ∨ (x.fs ≠ [] ∧ d.isSome = true)) ∧ tG X.K X.mg W0 (hd x a d) Dn σ H) hs hf hN hi hln ⟨hg, hdb, .inl m1⟩ tk hb fun a oe cls d pn hz hfl => ⟨fun pins s σ H Dn I ⟨x, C, ec, hx, hxd, h⟩ => ?_⟩) ?_
  · subst ec
    exact (hsu a oe C d pn hz hfl x hx hxd).run pins s σ H Dn I h
  · intro Dn σ H ⟨μ, Hs, ρ, S, fl, S1, s, env, e, k⟩
    have e' : (match g ρ S with | some (.er x ρ', S') => _ | o => o) = some (fl, S1) := e
    cases q : g ρ S with
    | none => rw [q] at e'; cases e'
    | some pr =>
      obtain ⟨f1, S2⟩ := pr
      rw [q] at e'
      refine ⟨μ, Hs, ρ, S, f1, S2, s, env, q, ?_⟩
      cases f1 with
      | nx ρ' => cases e'; exact k
      | bk ρ' => cases e'; exact k
      | ct ρ' => cases e'; exact k
      | rt d => cases e'; exact k
      | er x ρ' =>
        intro σ' μ' Hs' H' cls dx g' s' env' hx
        obtain ⟨b, e1, e2⟩ := b1_eq (show b1 (exm x.cls) _ = some (fl, S1) from e')
        obtain ⟨C, c1, rfl, c3⟩ := id hx
        refine ⟨b, m2 _ _ e1 C c1, fun hb av hav => ?_, fun hb => ?_⟩
        · subst hb
          simp only [if_true] at e2
          have e3 := comA_eq e2 av dx
          obtain ⟨⟨f2, S3⟩, e4, e5⟩ := b1_eq e3
          obtain ⟨Hs2, g2, s2, env2⟩ := catch_env i av s' env' hx
          refine ⟨x, C, rfl, c1, ?_, μ', Hs2, _, S2, f2, S3, s2, env2, e4, ?_⟩
          · rcases c3 with ⟨q1, q2⟩ | ⟨d', _, q0, q1, _⟩
            · exact .inl ⟨q1, q2⟩
            · exact .inr ⟨q0, by rw [q1]; rfl⟩
          have gg := g'.trans g2
          cases f2 with
          | nx ρ5 => cases e5; exact fun σ5 μ5 Hs5 H5 g5 s5 env5 => k _ μ5 Hs5 H5 (gg.trans g5) s5 (env_wipe i env5)
          | bk ρ5 => cases e5; exact fun σ5 μ5 Hs5 H5 g5 s5 env5 => k _ μ5 Hs5 H5 (gg.trans g5) s5 (env_wipe i env5)
          | ct ρ5 => cases e5; exact fun σ5 μ5 Hs5 H5 g5 s5 env5 => k _ μ5 Hs5 H5 (gg.trans g5) s5 (env_wipe i env5)
          | rt d => cases e5; exact fun v μ5 Hs5 H5 g5 s5 r5 => k v μ5 Hs5 H5 (gg.trans g5) s5 r5
          | er _ _ => cases e5
        · subst hb
          simp only [Bool.false_eq_true, if_false] at e2
          cases e2
          exact k σ' μ' Hs' H' _ _ g' s' env' hx
theorem sg_tryO {exm : Str → Option Bool} {hd : SG} (tk : Takes X W) (M : Xm X.K X.mg c exm)
    (hb : ∀ (W : WX) (pn : List (Addr × Obj)) (xe : Value → Shared → Prop), Takes (X.tr pn xe) W → PassesOwn (model X.prog X.w) X.A X.env xe → PSs (X.tr pn xe) body (tG X.K X.mg W g))
    (hsu : ∀ (a : Addr) (oe : Obj) (cls : Value) (d : Option Addr) (pn : List (Addr × Obj)), PSs (X.suite a ((a, oe) :: pn)) (b0 :: suite) (tG X.K X.mg W0 hd))
    (hs : X.stack = X.env :: X.outer := by rfl) (hf : X.env.frame = some X.env.locals := by rfl) (hg : Gl X c := by rfl) (hdb : (c == ("__debug__" : Str)) = false := by decide) :
    PS X (.Try body [.ExceptHandler (some (.Name c np)) none (b0 :: suite) pos'] [] [] pos) (tG X.K X.mg W (gTryO exm g hd)) := by
  obtain ⟨D, m1, m2⟩ := M.ex
  refine ps_imp (ps_try_only (ts := fun _ _ _ => tG X.K X.mg W0 hd) hs hf ⟨hg, hdb, .inl m1⟩ tk hb fun a oe cls d pn _ _ => hsu a oe cls d pn) ?_
  intro Dn σ H ⟨μ, Hs, ρ, S, fl, S1, s, env, e, k⟩
  have e' : (match g ρ S with | some (.er x ρ', S') => _ | o => o) = some (fl, S1) := e
  cases q : g ρ S with
  | none => rw [q] at e'; cases e'
  | some pr =>
    obtain ⟨f1, S2⟩ := pr
    rw [q] at e'
    refine ⟨μ, Hs, ρ, S, f1, S2, s, env, q, ?_⟩
    cases f1 with
    | nx ρ' => cases e'; exact k
    | bk ρ' => cases e'; exact k
    | ct ρ' => cases e'; exact k
    | rt d => cases e'; exact k
    | er x ρ' =>
      intro σ' μ' Hs' H' cls dx g' s' env' hx
      obtain ⟨b, e1, e2⟩ := b1_eq (show b1 (exm x.cls) _ = some (fl, S1) from e')
      obtain ⟨C, c1, rfl, c3⟩ := id hx
      refine ⟨b, m2 _ _ e1 C c1, fun hb av hav => ?_, fun hb => ?_⟩
      · subst hb
        simp only [if_true] at e2
        obtain ⟨⟨f2, S3⟩, e4, e5⟩ := b1_eq e2
        refine ⟨μ', Hs', ρ', S2, f2, S3, s', env', e4, ?_⟩
        cases f2 with
        | nx ρ5 => cases e5; exact k.gr g'
        | bk ρ5 => cases e5; exact k.gr g'
        | ct ρ5 => cases e5; exact k.gr g'
        | rt d => cases e5; exact k.gr g'
        | er _ _ => cases e5
      · subst hb
        simp only [Bool.false_eq_true, if_false] at e2
        cases e2
        exact k σ' μ' Hs' H' _ _ g' s' env' hx
end
end Pd

/-! Sd4: defs over a store, isinstance, the law's end. -/
namespace Pd
open PySem PySem.Spec L2 SkE
open PyProof.Rows hiding St

def runM (g : SG) (N : List Str) (ds : List D) (S : Store) : Option (Res D × Store) := match g (rho0 N ds) S with
  | some (.rt d, S') => some (.ok d, S')
  | some (.nx _, S') => some (.ok .non, S')
  | some (.er x _, S') => some (.er x, S')
  | _ => none
/-- a def's function -/
def mF (n : Nat) (N : List Str) (g : SG) : SFn := fun ds S => if ds.length = n then runM g N ds S else none
theorem mF_ok {ps N : List Str} {g : SG} {ds : List D} {S : Store} {r : Res D × Store} (h : mF ps.length N g ds S = some r) : ds.length = ps.length ∧ runM g N ds S = some r := ite_opt h
theorem mF_eq {n : Nat} {N : List Str} {g : SG} {ds : List D} {S : Store} (h : ds.length = n) : mF n N g ds S = runM g N ds S := if_pos h
section
variable {P : Program} {w : World} {K : PySem.W.Frag} {mg : Str → Option Value} {base : Heap}
theorem enterM {μ : List Addr} {Hs H : Hp} {N : List Str} {vs : List V} {ds : List D} {S S1 : Store} {g : SG} {r : Res D} {Q : VK} {E : XK} (s : Sim K mg μ Hs H S) (rv : RpA K μ Hs vs ds) (hl : runM g N ds S = some (r, S1))
    (P : PostM K mg (fun c d _ H' => E c d H') [] μ Hs r S1 fun d μ' Hs' H' => ∀ v, Rp K μ' Hs' v d → Q v H') : tG K mg (fun c d _ H' => E c d H') g { nx := fun _ H' => Q .non H', rt := Q } (L2.start N vs) H := by
  unfold runM at hl
  cases q : g (rho0 N ds) S with
  | none => rw [q] at hl; cases hl
  | some p =>
    obtain ⟨fl, S2⟩ := p
    rw [q] at hl
    refine ⟨μ, Hs, rho0 N ds, S, fl, S2, s, ?_, q, ?_⟩
    · unfold L2.start rho0
      rw [rv.len]
      exact vals_env _ rv
    · cases fl with
      | nx ρ => cases hl; exact fun σ μ' Hs' H' g' s' _ => P μ' Hs' H' g' s' _ .non
      | rt d => cases hl; exact fun v μ' Hs' H' g' s' r' => P μ' Hs' H' g' s' v r'
      | er x ρ => cases hl; exact fun σ μ' Hs' H' cls dx g' s' _ x' => P μ' Hs' H' cls dx g' s' x'
      | bk _ => cases hl
      | ct _ => cases hl
theorem okM {x qual : Str} {st : Stmt} {f : Addr} {fd : FuncData} {N ps : List Str} {k : Nat} {g : SG} (Fn : Fun K x qual st f fd) (S : FnScope N ps (defScope st))
    (body : ∀ (cdv : Value) (A : Around) (outer : List Env) (s : Shared) (H : Hp) (E : XK), Takes (cxOf (L2.CX P w) P w K mg base N qual (defScope st) f cdv A outer s H E) (fun cls d _ H => E cls d H) →
      Room k (A.deeper (envOfC qual (defScope st) s.heap.objs.size f cdv)) → PSs (cxOf (L2.CX P w) P w K mg base N qual (defScope st) f cdv A outer s H E) (defBody st) (tG K mg (fun cls d _ H => E cls d H) g)) :
    FnOk P w K mg base (L2.CX P w) (k + 1) f fd ps (spM K mg (mF ps.length N g)) := by
  refine Fn.okX S (fun vs H Q E h => ?_) (fun cdv A outer s H vs Q E hr h => ?_)
  · obtain ⟨μ, Hs, S, ds, r, S1, _, rv, e, _⟩ := h
    rw [rv.len]
    exact (mF_ok e).1
  · obtain ⟨μ, Hs, S, ds, r, S1, s1, rv, e, P1⟩ := h
    exact ⟨_, body cdv A outer s H E (takes_of rfl rfl rfl rfl) hr, enterM s1 rv (mF_ok e).2 P1⟩
/-- the law's own promise -/
def spL (K : PySem.W.Frag) : Sp := fun vs H Q _ => ∃ (a : Addr) (ns : List Int), vs = [.ref a] ∧ ns.length ≤ 63 ∧ SqL K H a (ns.map V.int) ∧ ∀ H', Q (.bl true) H'
theorem law_spM {fh : SFn} (h : ∀ ns : List Int, ns.length ≤ 63 → ∃ S, fh [.scr ns] [] = some (.ok (.bool true), S)) : ∀ vs H Q E, spL K vs H Q E → spM K mg fh vs H Q E := by
  rintro vs H Q E ⟨a, ns, rfl, hl, hS, q⟩
  obtain ⟨S, e⟩ := h ns hl
  refine ⟨[], H, [], [.scr ns], _, S, ⟨Same.refl _, rfl, fun i j a h => by simp at h, fun n a c h => by simp at h⟩, .cons (.scr hS) .nil, e, fun μ' Hs' H' g s v r => ?_⟩
  cases r
  exact q H'
theorem spL_of (H : Hp) (a : Addr) (ns : List Int) (hl : ns.length ≤ 63) (hS : SqL K H a (ns.map V.int)) : spL K [.ref a] H (fun v _ => v = .bl true) fun _ _ _ => False := ⟨a, ns, rfl, hl, hS, fun _ => rfl⟩
theorem cx_none {H : Hp} {s : Shared} {e : Value} {s' : Shared} (h : L2.CX P w [] H s (fun _ _ _ => False) e s') : False := by
  obtain ⟨_, _, _, _, _, _, _, _, _, _, _, _, z⟩ := h
  exact z
end
section
variable {X : Cx} {W : WX} {e b o : Expr} {es : List Expr} {f : SF} {pos p p1 p2 apos cpos : Pos} {x n c : Str}
/-- a name -/
theorem s_var (i : Nat) (hi : X.N[i]? = some x := by rfl) (hx : Vis X.env.scope x := by first | exact .inl rfl | exact .inr (.inl rfl) | exact .inr (.inr rfl)) (hd : (x == ("__debug__" : Str)) = false := by decide) (hcd : (x == ("__classdict__" : Str)) = false := by decide) : PE X (.Name x pos) (tM X.K X.mg W (mP (fVar i))) := s_pure (pd_var i hi hx hd hcd)
/-- isinstance(e, T), T a built-in class -/
def mIsi (T : String) (f : SF) : SF := fun ρ S => sb (f ρ S) fun d S1 => b1 (gIsi T (view S1 d)) fun o => some (.ok o, S1)
theorem s_isi {T : Str} {t : String} (he : PE X e (tM X.K X.mg W f)) (hm : X.mg "isinstance" = none) (hT : X.mg T = none) (hg : Gl X "isinstance" := by rfl) (hg2 : Gl X T := by rfl) (hv : bootBuiltins T = some (.type t) := by decide +kernel) (hn : T ≠ "__name__" := by decide) (hd : (T == ("__debug__" : Str)) = false := by decide)
    (h1 : starEach [e, .Name T p2] X.env = (false, eval e X.env) :: starEach [.Name T p2] X.env := by rfl) (h2 : starEach [.Name T p2] X.env = (false, eval (.Name T p2) X.env) :: starEach [] X.env := by rfl) (hpl : (backTo pos (starEach [.Name T p2] X.env)).any (·.1) = false := by rfl) :
    PE X (.Call (.Name "isinstance" p) [e, .Name T p2] [] pos) (tM X.K X.mg W (mIsi t f)) := by
  refine pe_imp (pe_callB call_isi hg hm (by decide +kernel) (pa_cons he (pa_cons (pe_bltn (v := .ty t) hg2 hT hv rfl hn hd) pa_nil h2) h1) (by decide) (by decide) h1 hpl) fun σ H Q ⟨μ, Hs, ρ, S, r, S1, s, env, e, P⟩ => ?_
  obtain ⟨q, S2, e1, P1⟩ := post_bind e P
  refine ⟨μ, Hs, ρ, S, q, S2, s, env, e1, P1.imp fun d μ1 Hs1 H1 g1 s1 ⟨_, _, e2, P2⟩ v rv => ?_⟩
  obtain ⟨o, e3, e4⟩ := b1_eq e2
  cases e4
  unfold gIsi at e3
  by_cases hl : (view S1 d).isLoc = true
  · rw [if_pos hl] at e3; cases e3
  rw [if_neg hl] at e3
  cases q : kitB (tyN (view S1 d)) t with
  | none => rw [q] at e3; cases e3
  | some b =>
    rw [q] at e3
    cases e3
    exact ⟨v, .ty t, .type (tyN (view S1 d)), .type t, b, rfl, .ty t, (view_rp s1 rv).tyX hl, kit_ty q, P2 _ _ _ (Gr.refl _ _) s1 _ (.bool _)⟩
/-- what isinstance asks of the classes of errors -/
structure Xi (K : PySem.W.Frag) (mg : Str → Option Value) (c : Str) (tab : Str → Option Bool) : Prop where
  ex : ∃ D : Addr, mg c = some (.ref D) ∧ ∀ x b, tab x = some b → ∀ C : Addr, mg x = some (.ref C) → ExcC K C ∧ PySem.W.kitOne K (.ref C) (.ref D) = some b
/-- isinstance(n, c), n the caught error x in slot i -/
def mXis (i : Nat) (tab : Str → Option Bool) (x : Exn) (a : Addr) : SF := fun ρ S => match ρ[i]? with
  | some (.exc a' _ _) => if a' = a ∧ x.fs.isEmpty = true then b1 (tab x.cls) fun b => some (.ok (.bool b), S) else none
  | _ => none
theorem s_isE (i : Nat) {a C : Addr} {oe : Obj} {d : Option Addr} {pn : List (Addr × Obj)} {tab : Str → Option Bool} {xx : Exn} (M : Xi X.K X.mg c tab) (hz : Zc (.ref C) d oe) (hf : ∃ vs, oe.data = .fields vs) (hx : X.mg xx.cls = some (.ref C)) (hxd : (xx.fs = [] ∧ d = none) ∨ (xx.fs ≠ [] ∧ d.isSome = true))
    (hm : X.mg "isinstance" = none) (hi : X.N[i]? = some n := by rfl) (hv : Vis X.env.scope n := by first | exact .inl rfl | exact .inr (.inl rfl) | exact .inr (.inr rfl)) (hg : Gl X "isinstance" := by rfl) (hg2 : Gl X c := by rfl) (hd : (n == ("__debug__" : Str)) = false := by decide) (hcd : (n == ("__classdict__" : Str)) = false := by decide) (hdc : (c == ("__debug__" : Str)) = false := by decide)
    (h1 : starEach [.Name n p1, .Name c p2] X.env = (false, eval (.Name n p1) X.env) :: starEach [.Name c p2] X.env := by rfl) (h2 : starEach [.Name c p2] X.env = (false, eval (.Name c p2) X.env) :: starEach [] X.env := by rfl) (hpl : (backTo pos (starEach [.Name c p2] X.env)).any (·.1) = false := by rfl) :
    PE (X.suite a ((a, oe) :: pn)) (.Call (.Name "isinstance" p) [.Name n p1, .Name c p2] [] pos) (tM X.K X.mg W (mXis i tab xx a)) := by
  obtain ⟨D, m1, m2⟩ := M.ex
  cases d with
  | some dd =>
    refine ⟨fun pins s σ H Q I ⟨μ, Hs, ρ, S, r, S1, s, env, e, P⟩ => ?_⟩
    exfalso
    unfold mXis at e
    split at e
    · obtain ⟨⟨_, h⟩, _⟩ := ite_opt e
      rcases hxd with ⟨_, z⟩ | ⟨z, _⟩
      · cases z
      · exact z (List.isEmpty_iff.mp h)
    · cases e
  | none =>
    cases ht : tab xx.cls with
    | none =>
      refine ⟨fun pins s σ H Q I ⟨μ, Hs, ρ, S, r, S1, s, env, e, P⟩ => ?_⟩
      exfalso
      unfold mXis at e
      rw [ht] at e
      split at e
      · obtain ⟨_, h⟩ := ite_opt e
        cases h
      · cases e
    | some b =>
      obtain ⟨k1, k2⟩ := m2 _ _ ht C hx
      refine pe_imp (pe_callB (X := X.suite a ((a, oe) :: pn)) (call_isE k1 hz hf) hg hm (by decide +kernel) (pa_cons (pe_var (X := X.suite a ((a, oe) :: pn)) (i := i) hi hv hd hcd) (pa_cons (pe_glob (X := X.suite a ((a, oe) :: pn)) (v := .ref D) hg2 m1 rfl hdc) pa_nil h2) h1) (by decide) (by decide) h1 hpl) fun σ H Q ⟨μ, Hs, ρ, S, r, S1, s, env, e, P⟩ => ?_
      unfold mXis at e
      rw [ht] at e
      split at e
      · rename_i a' d' fs' hq
        obtain ⟨⟨rfl, _⟩, h⟩ := ite_opt e
        cases h
        obtain ⟨ov, q1, q2⟩ := paired_get env hq
        obtain ⟨rfl, _⟩ := q2
        exact ⟨_, q1, .ref D, .ref D, b, rfl, fun u hu => hu, k2, P μ Hs H (Gr.refl _ _) s _ (.bool _)⟩
      · cases e
/-- n.f, n the caught error in slot i -/
def mXfl (i : Nat) (f : Str) (a : Addr) (d : Option Addr) : SF := fun ρ S => match ρ[i]? with
  | some (.exc a' d' fs) => if a' = a ∧ d' = d then b1 (fs.lookup f) fun v => some (.ok v, S) else none
  | _ => none
/-- an error class whose fields are read -/
structure Xfl (K : PySem.W.Frag) (mg : Str → Option Value) (f : Str) (cs : List Str) : Prop where
  ex : ∀ x, x ∈ cs → ∀ C : Addr, mg x = some (.ref C) → XfC K C ∧ PySem.W.findIn K (.ref C) f = some none
theorem s_xfl (i : Nat) {a C : Addr} {oe : Obj} {d : Option Addr} {pn : List (Addr × Obj)} {cs : List Str} {xx : Exn} {fn : Str} (M : Xfl X.K X.mg fn cs) (hcs : xx.cls ∈ cs) (hz : Zc (.ref C) d oe) (hf : ∃ vs, oe.data = .fields vs) (hx : X.mg xx.cls = some (.ref C))
    (hi : X.N[i]? = some n := by rfl) (hv : Vis X.env.scope n := by first | exact .inl rfl | exact .inr (.inl rfl) | exact .inr (.inr rfl)) (hd : (n == ("__debug__" : Str)) = false := by decide) (hcd : (n == ("__classdict__" : Str)) = false := by decide) (hb : attributeBase (.Name n p1) fn X.env (eval (.Name n p1) X.env) = eval (.Name n p1) X.env := by rfl) :
    PE (X.suite a ((a, oe) :: pn)) (.Attribute (.Name n p1) fn pos) (tM X.K X.mg W (mXfl i fn a d)) := by
  obtain ⟨k1, k2⟩ := M.ex _ hcs C hx
  refine pe_imp (pe_xf k1 k2 hz hf (pe_var (X := X.suite a ((a, oe) :: pn)) (i := i) hi hv hd hcd) hb) fun σ H Q ⟨μ, Hs, ρ, S, r, S1, s, env, e, P⟩ => ?_
  unfold mXfl at e
  split at e
  · rename_i a' d' fs' hq
    obtain ⟨⟨rfl, rfl⟩, h⟩ := ite_opt e
    obtain ⟨z, h2, h3⟩ := b1_eq h
    cases h3
    obtain ⟨ov, q1, q2⟩ := paired_get env hq
    obtain ⟨rfl, q3⟩ := q2
    rcases q3 with q3 | ⟨dd, vs, rfl, q4, q5⟩
    · rw [q3] at h2; cases h2
    · obtain ⟨v, q6, q7⟩ := (FRp.look (κ := Str) q5 fn).2 z h2
      exact ⟨_, q1, rfl, rfl, dd, vs, v, rfl, s.sub _ _ q4, q6, P μ Hs H (Gr.refl _ _) s v q7⟩
  · cases e
theorem kit_ref {K : PySem.W.Frag} {C D : Addr} {b : Bool} (hd : PySem.W.hasDictIn K D = true) (ht : PySem.W.typeIn K (.ref D) = some (.type "type")) (hs : PySem.W.subIn K (.ref C) (.ref D) = some b) (hb : b = true ∨ PySem.W.subIn K (.ref D) (.ref D) = some true) : PySem.W.kitOne K (.ref C) (.ref D) = some b := by
  have e2 : ((PySem.W.clsIn K D).isSome && PySem.W.typeIn K (.ref D) == some (.type "type")) = true := by
    unfold PySem.W.hasDictIn at hd
    cases q : PySem.W.clsIn K D with
    | none => rw [q] at hd; cases hd
    | some _ => rw [ht]; rfl
  unfold PySem.W.kitOne
  by_cases h : (Value.ref C == Value.ref D) = true
  · rw [if_pos h]
    rcases hb with hb | hb
    · rw [hb]
    · have z : Value.ref C = Value.ref D := beq_iff_eq.mp h
      rw [z, hb] at hs
      exact hs
  · rw [if_neg h]
    show (if ((PySem.W.clsIn K D).isSome && PySem.W.typeIn K (.ref D) == some (.type "type")) = true then PySem.W.subIn K (.ref C) (.ref D) else none) = some b
    rw [if_pos e2]
    exact hs
theorem xm_nil {K : PySem.W.Frag} {mg : Str → Option Value} {D : Addr} : ∀ x b, List.lookup x ([] : List (Str × Bool)) = some b → ∀ C : Addr, mg x = some (.ref C) → PySem.W.exmOne K (.ref C) (.ref D) = some b := fun _ _ h => nomatch h
theorem tab_cons {mg : Str → Option Value} {R : Addr → Bool → Prop} {y : Str} {b0 : Bool} {C0 : Addr} {tab : List (Str × Bool)} (h : ∀ x b, List.lookup x tab = some b → ∀ C : Addr, mg x = some (.ref C) → R C b) (m : mg y = some (.ref C0)) (e : R C0 b0) :
    ∀ x b, List.lookup x ((y, b0) :: tab) = some b → ∀ C : Addr, mg x = some (.ref C) → R C b := fun x b hl C hC => by
  rw [List.lookup] at hl
  split at hl
  · rename_i hy
    cases hl
    have : x = y := by simpa using hy
    subst this
    rw [m] at hC
    cases hC
    exact e
  · exact h x b hl C hC
theorem tab_nil {mg : Str → Option Value} {R : Addr → Bool → Prop} : ∀ x b, List.lookup x ([] : List (Str × Bool)) = some b → ∀ C : Addr, mg x = some (.ref C) → R C b := fun _ _ h => nomatch h
end
end Pd

/-! Sd5: what the functions of a store are worth: cells of a store, Ev, v_ rules. -/
namespace Pd
open PySem PySem.Spec L2 SkE
open PyProof.Rows hiding St

/-- the store has these cells, each at a place of its own -/
structure Has (S : Store) (l : List (Nat × Cell)) : Prop where
  nd : (l.map (·.1)).Nodup
  at_ : ∀ n c, (n, c) ∈ l → S[n]? = some c
section
variable {S : Store} {l r : List (Nat × Cell)} {n m : Nat} {c c' : Cell}
theorem Has.perm (h : Has S l) (p : l.Perm r) : Has S r := ⟨(p.map _).nodup_iff.mp h.nd, fun n c z => h.at_ n c (p.mem_iff.mpr z)⟩
theorem Has.sub (h : Has S l) (p : r.Sublist l) : Has S r := ⟨h.nd.sublist (p.map _), fun n c z => h.at_ n c (p.subset z)⟩
theorem Has.tail (h : Has S ((n, c) :: l)) : Has S l := h.sub (List.sublist_cons_self _ _)
theorem Has.hd (h : Has S ((n, c) :: l)) : S[n]? = some c := h.at_ n c (List.mem_cons_self)
theorem get_lt (h : S[n]? = some c) : n < S.length := (List.getElem?_eq_some_iff.mp h).1
theorem Has.new (h : Has S l) (c : Cell) : Has (S ++ [c]) ((S.length, c) :: l) := by
  refine ⟨?_, fun n d z => ?_⟩
  · rw [List.map_cons, List.nodup_cons]
    refine ⟨fun z => ?_, h.nd⟩
    obtain ⟨p, h1, h2⟩ := List.mem_map.mp z
    have := get_lt (h.at_ p.1 p.2 h1)
    omega
  · rcases List.mem_cons.mp z with z | z
    · cases z; rw [List.getElem?_append_right (Nat.le_refl _), Nat.sub_self]; rfl
    · have := h.at_ n d z
      rw [List.getElem?_append_left (get_lt this)]
      exact this
theorem Has.ext (h : Has S l) (t : List Cell) : Has (S ++ t) l := ⟨h.nd, fun n c z => by
  have := h.at_ n c z
  rw [List.getElem?_append_left (get_lt this)]
  exact this⟩
theorem Has.set (h : Has S ((n, c) :: l)) (c' : Cell) : Has (S.set n c') ((n, c') :: l) := by
  have hn : n ∉ l.map (·.1) := by
    have := h.nd
    rw [List.map_cons, List.nodup_cons] at this
    exact this.1
  refine ⟨h.nd, fun k d z => ?_⟩
  rcases List.mem_cons.mp z with z | z
  · cases z; rw [List.getElem?_set_self (get_lt h.hd)]
  · have hk : n ≠ k := fun e => by subst e; exact hn (List.mem_map.mpr ⟨_, z, rfl⟩)
    rw [List.getElem?_set_ne hk]
    exact h.at_ k d (List.mem_cons_of_mem _ z)
theorem Has.f1 {a b : Nat × Cell} (h : Has S (a :: b :: l)) : Has S (b :: a :: l) := h.perm (List.perm_middle (l₁ := [_]))
theorem Has.f2 {a b d : Nat × Cell} (h : Has S (a :: b :: d :: l)) : Has S (d :: a :: b :: l) := h.perm (List.perm_middle (l₁ := [_, _]))
theorem Has.f3 {a b d e : Nat × Cell} (h : Has S (a :: b :: d :: e :: l)) : Has S (e :: a :: b :: d :: l) := h.perm (List.perm_middle (l₁ := [_, _, _]))
theorem Has.f4 {a b d e f : Nat × Cell} (h : Has S (a :: b :: d :: e :: f :: l)) : Has S (f :: a :: b :: d :: e :: l) := h.perm (List.perm_middle (l₁ := [_, _, _, _]))
theorem Has.t1 {a b : Nat × Cell} (h : Has S (a :: b :: l)) : Has S (a :: l) := h.sub (.cons₂ _ (.cons _ (List.Sublist.refl _)))
theorem Has.t2 {a b d : Nat × Cell} (h : Has S (a :: b :: d :: l)) : Has S (a :: b :: l) := h.sub (.cons₂ _ (.cons₂ _ (.cons _ (List.Sublist.refl _))))
theorem Has.ne (h : Has S l) {a b : List (Nat × Cell)} (e : l = a ++ (n, c) :: b) (hm : (m, c') ∈ a ++ b) : n ≠ m := fun z => by
  subst z
  have h1 := h.nd
  rw [e, List.map_append, List.map_cons] at h1
  have h2 := (List.perm_middle (a := n) (l₁ := a.map (·.1)) (l₂ := b.map (·.1))).nodup_iff.mp h1
  rw [List.nodup_cons, ← List.map_append] at h2
  exact h2.1 (List.mem_map.mpr ⟨_, hm, rfl⟩)
end

def Ev {α : Type} (m : Option (Res α × Store)) (Q : α → Store → Prop) (E : Exn → Store → Prop) : Prop := match m with
  | some (.ok a, S) => Q a S
  | some (.er x, S) => E x S
  | none => False
section
variable {α β : Type} {Q Q' : α → Store → Prop} {E E' : Exn → Store → Prop} {m : Option (Res α × Store)}
theorem Ev.mono (h : Ev m Q E) (q : ∀ a S, Q a S → Q' a S) (e : ∀ x S, E x S → E' x S) : Ev m Q' E' := by
  cases m with
  | none => exact h
  | some p =>
    obtain ⟨r, S⟩ := p
    cases r with
    | ok a => exact q _ _ h
    | er x => exact e _ _ h
theorem Ev.ok {a : α} {S : Store} (h : m = some (.ok a, S)) (q : Q a S) : Ev m Q E := by rw [h]; exact q
theorem Ev.er {x : Exn} {S : Store} (h : m = some (.er x, S)) (q : E x S) : Ev m Q E := by rw [h]; exact q
theorem ev_sb {k : α → Store → Option (Res β × Store)} {Q : β → Store → Prop} (h : Ev m (fun a S => Ev (k a S) Q E) E) : Ev (sb m k) Q E := by
  cases m with
  | none => exact h
  | some p =>
    obtain ⟨r, S⟩ := p
    cases r with
    | ok a => exact h
    | er x => exact h
theorem ev_b1 {γ : Type} {o : Option γ} {k : γ → Option (Res α × Store)} {d : γ} (h : o = some d) (q : Ev (k d) Q E) : Ev (b1 o k) Q E := by rw [h]; exact q
theorem ev_if {c : Prop} {inst : Decidable c} {x : Option (Res α × Store)} (h : c) (q : Ev x Q E) : Ev (if c then x else none) Q E := by rw [if_pos h]; exact q
end
/-- what a statement's flow is -/
def EG (m : Option (Fx × Store)) (Q : Fx → Store → Prop) : Prop := match m with
  | some (f, S) => Q f S
  | none => False
theorem EG.mono {m : Option (Fx × Store)} {Q Q' : Fx → Store → Prop} (h : EG m Q) (q : ∀ a S, Q a S → Q' a S) : EG m Q' := by
  cases m with
  | none => exact h
  | some p => exact q _ _ h
theorem eg_ev {α : Type} {m : Option (Res α × Store)} {ρ : Rho} {k : α → Store → Option (Fx × Store)} {Q : Fx → Store → Prop} (h : Ev m (fun a S => EG (k a S) Q) (fun x S => Q (.er x ρ) S)) : EG (ev m ρ k) Q := by
  cases m with
  | none => exact h
  | some p =>
    obtain ⟨r, S⟩ := p
    cases r with
    | ok a => exact h
    | er x => exact h
/-- a def's value by its body -/
def endQ (Q : D → Store → Prop) (E : Exn → Store → Prop) : Fx → Store → Prop
  | .rt d, S => Q d S
  | .nx _, S => Q .non S
  | .er x _, S => E x S
  | _, _ => False
theorem ev_def {n : Nat} {N : List Str} {g : SG} {ds : List D} {S : Store} {Q : D → Store → Prop} {E : Exn → Store → Prop} (hn : ds.length = n) (h : EG (g (rho0 N ds) S) (endQ Q E)) : Ev (mF n N g ds S) Q E := by
  rw [mF_eq hn]
  unfold runM
  cases q : g (rho0 N ds) S with
  | none => rw [q] at h; exact h
  | some p =>
    obtain ⟨f, S'⟩ := p
    rw [q] at h
    cases f with
    | rt d => exact h
    | nx _ => exact h
    | er x _ => exact h
    | bk _ => exact h.elim
    | ct _ => exact h.elim
section
variable {Q : D → Store → Prop} {Qs : List D → Store → Prop} {Qb : Bool → Store → Prop} {Qo : Option Int → Store → Prop} {E : Exn → Store → Prop} {QG : Fx → Store → Prop} {ρ ρ' : Rho} {S : Store} {f g h : SF} {fs : SFs} {ft gt : SFt} {fp : F} {d : D} {c fl m : Str}
theorem v_P (e : fp ρ = some d) (q : Q d S) : Ev (mP fp ρ S) Q E := ev_b1 e q
theorem v_nil (q : Qs [] S) : Ev (mNil ρ S) Qs E := q
theorem v_cons (h : Ev (f ρ S) (fun d S1 => Ev (fs ρ S1) (fun ds S2 => Qs (d :: ds) S2) E) E) : Ev (mCons f fs ρ S) Qs E := ev_sb (h.mono (fun d S1 h2 => ev_sb (h2.mono (fun ds S2 q => q) fun _ _ e => e)) fun _ _ e => e)
theorem v_2 {G : D → D → Option D} (h : Ev (f ρ S) (fun d S1 => Ev (g ρ S1) (fun e S2 => ∃ o, G (view S2 d) (view S2 e) = some o ∧ (o.sca || (!isLc S2 d && !isLc S2 e)) = true ∧ Q o S2) E) E) : Ev (m2 G f g ρ S) Q E :=
  ev_sb (h.mono (fun d S1 h2 => ev_sb (h2.mono (fun e S2 ⟨o, h3, h4, q⟩ => ev_b1 h3 (ev_if h4 q)) fun _ _ e => e)) fun _ _ e => e)
theorem v_L {G : List D → Option D} (h : Ev (fs ρ S) (fun ds S1 => ∃ o, G (ds.map (view S1)) = some o ∧ (o.sca || ds.all fun d => !isLc S1 d) = true ∧ Q o S1) E) : Ev (mL G fs ρ S) Q E :=
  ev_sb (h.mono (fun ds S1 ⟨o, h3, h4, q⟩ => ev_b1 h3 (ev_if h4 q)) fun _ _ e => e)
theorem v_call {fh : SFn} (h : Ev (fs ρ S) (fun ds S1 => Ev (fh ds S1) Q E) E) : Ev (mCall fh fs ρ S) Q E := ev_sb h
theorem v_callP {fh : List D → Option D} (h : Ev (fs ρ S) (fun ds S1 => ∃ o, fh ds = some o ∧ Q o S1) E) : Ev (mCallP fh fs ρ S) Q E := ev_sb (h.mono (fun ds S1 ⟨o, h3, q⟩ => ev_b1 h3 q) fun _ _ e => e)
theorem v_fld (h : Ev (g ρ S) (fun d S1 => ∃ n fs v, d = .loc n ∧ S1[n]? = some (.ins c fs) ∧ fs.lookup fl = some v ∧ Q v S1) E) : Ev (mFld c fl g ρ S) Q E := ev_sb (h.mono (fun d S1 ⟨n, fs, v, e1, e2, e3, q⟩ => by
  subst e1
  show Ev (match S1[n]? with | some (.ins c' fs) => if c' = c then b1 (fs.lookup fl) fun v => some (.ok v, S1) else none | _ => none) Q E
  rw [e2]
  exact ev_if rfl (ev_b1 e3 q)) fun _ _ e => e)
theorem v_meth {fh : SFn} (h : Ev (g ρ S) (fun d S1 => ∃ n fs0, d = .loc n ∧ S1[n]? = some (.ins c fs0) ∧ fs0.lookup m = none ∧ Ev (fs ρ S1) (fun ds S2 => Ev (fh (.loc n :: ds) S2) Q E) E) E) : Ev (mMeth c m fh g fs ρ S) Q E := ev_sb (h.mono (fun d S1 ⟨n, fs0, e1, e2, e3, q⟩ => by
  subst e1
  show Ev (match S1[n]? with | some (.ins c' fs0) => if c' = c then (if fs0.lookup m = none then sb (fs ρ S1) fun ds S2 => fh (.loc n :: ds) S2 else none) else none | _ => none) Q E
  rw [e2]
  exact ev_if rfl (ev_if e3 (ev_sb q))) fun _ _ e => e)
theorem v_make {fh : SFn} {dvs : List D} (h : Ev (fs ρ S) (fun ds S1 => Ev (fh (.loc S1.length :: (ds ++ dvs)) (S1 ++ [.ins c []])) (fun d S2 => d = .non ∧ Q (.loc S1.length) S2) E) E) : Ev (mMake c fh dvs fs ρ S) Q E :=
  ev_sb (h.mono (fun ds S1 h2 => ev_sb (h2.mono (fun d S2 ⟨e, q⟩ => by subst e; exact q) fun _ _ e => e)) fun _ _ e => e)
theorem v_list (h : Ev (f ρ S) (fun d S1 => ∃ es, (view S1 d = .lst es ∨ view S1 d = .tup es) ∧ Q (.loc S1.length) (S1 ++ [.lst es])) E) : Ev (mList (mCons f mNil) ρ S) Q E := ev_sb (v_cons (h.mono (fun d S1 ⟨es, h1, q⟩ => v_nil (by
  show Ev (match [view S1 d] with | [.lst es] => some (Res.ok (D.loc S1.length), S1 ++ [Cell.lst es]) | [.tup es] => some (.ok (.loc S1.length), S1 ++ [.lst es]) | _ => none) Q E
  rcases h1 with h1 | h1
  · rw [h1]; exact q
  · rw [h1]; exact q)) fun _ _ e => e))
theorem v_disp (h : Ev (fs ρ S) (fun ds S1 => ds.length ≤ sizeLine ∧ Q (.loc S1.length) (S1 ++ [.lst ds])) E) : Ev (mDisp fs ρ S) Q E := ev_sb (h.mono (fun ds S1 ⟨h1, q⟩ => ev_if h1 q) fun _ _ e => e)
theorem v_tup (h : Ev (fs ρ S) (fun ds S1 => ds.length ≤ sizeLine ∧ Q (.tup ds) S1) E) : Ev (mTup fs ρ S) Q E := ev_sb (h.mono (fun ds S1 ⟨h1, q⟩ => ev_if h1 q) fun _ _ e => e)
theorem v_cat (h : Ev (f ρ S) (fun d S1 => Ev (g ρ S1) (fun e S2 => ∃ xs ys, view S2 d = .lst xs ∧ view S2 e = .lst ys ∧ xs.length + ys.length ≤ sizeLine ∧ Q (.loc S2.length) (S2 ++ [.lst (xs ++ ys)])) E) E) : Ev (mCat f g ρ S) Q E :=
  ev_sb (h.mono (fun d S1 h2 => ev_sb (h2.mono (fun e S2 ⟨xs, ys, h3, h4, h5, q⟩ => by
    rw [h3, h4]
    exact ev_if h5 q) fun _ _ e => e)) fun _ _ e => e)
theorem v_ix (h : Ev (f ρ S) (fun d S1 => Ev (g ρ S1) (fun e S2 => ∃ xs i o, (view S2 d = .lst xs ∨ view S2 d = .tup xs) ∧ e = .int i ∧ atI xs i = some o ∧ Q o S2) E) E) : Ev (mIx f g ρ S) Q E :=
  ev_sb (h.mono (fun d S1 h2 => ev_sb (h2.mono (fun e S2 ⟨xs, i, o, h3, h4, h5, q⟩ => by
    subst h4
    rcases h3 with h3 | h3 <;> rw [h3] <;> exact ev_b1 h5 q) fun _ _ e => e)) fun _ _ e => e)
theorem ls_at {n : Nat} {ds : List D} (h : S[n]? = some (.lst ds)) : lsAt S (.loc n) = some (n, ds) := by
  show (match S[n]? with | some (.lst ds) => some (n, ds) | _ => none) = _
  rw [h]
theorem view_at {n : Nat} {ds : List D} (h : S[n]? = some (.lst ds)) : view S (.loc n) = .lst ds := by
  show (match S[n]? with | some (.lst ds) => D.lst ds | _ => .loc n) = _
  rw [h]
theorem v_app (h : Ev (f ρ S) (fun d S1 => ∃ n ds0, d = .loc n ∧ S1[n]? = some (.lst ds0) ∧ Ev (g ρ S1) (fun e S2 => ∃ ds, S2[n]? = some (.lst ds) ∧ ds.length < sizeLine ∧ Q .non (S2.set n (.lst (ds ++ [e])))) E) E) : Ev (mApp f g ρ S) Q E :=
  ev_sb (h.mono (fun d S1 ⟨n, ds0, e1, h1, h2⟩ => by
    subst e1
    exact ev_if (by rw [ls_at h1]; rfl) (ev_sb (h2.mono (fun e S2 ⟨ds, h3, h4, q⟩ => ev_b1 (ls_at h3) (ev_if h4 q)) fun _ _ e => e))) fun _ _ e => e)
theorem v_ext (h : Ev (f ρ S) (fun d S1 => ∃ n ds0, d = .loc n ∧ S1[n]? = some (.lst ds0) ∧ Ev (g ρ S1) (fun e S2 => ∃ ds k es, S2[n]? = some (.lst ds) ∧ e = .loc k ∧ S2[k]? = some (.lst es) ∧ ds.length + es.length ≤ sizeLine ∧ Q .non (S2.set n (.lst (ds ++ es)))) E) E) : Ev (mExt f g ρ S) Q E :=
  ev_sb (h.mono (fun d S1 ⟨n, ds0, e1, h1, h2⟩ => by
    subst e1
    exact ev_if (by rw [ls_at h1]; rfl) (ev_sb (h2.mono (fun e S2 ⟨ds, k, es, h3, e2, h5, h4, q⟩ => by subst e2; exact ev_b1 (ls_at h3) (ev_b1 (ls_at h5) (ev_if h4 q))) fun _ _ e => e))) fun _ _ e => e)
theorem v_popAt (h : Ev (f ρ S) (fun d S1 => ∃ n ds0, d = .loc n ∧ S1[n]? = some (.lst ds0) ∧ Ev (g ρ S1) (fun e S2 => ∃ ds i k o, S2[n]? = some (.lst ds) ∧ e = .int i ∧ (-(2 ^ 63) ≤ i ∧ i < 2 ^ 63) ∧ seqIndex? i ds.length = some k ∧ ds[k]? = some o ∧ Q o (S2.set n (.lst (ds.eraseIdx k)))) E) E) : Ev (mPopAt f g ρ S) Q E :=
  ev_sb (h.mono (fun d S1 ⟨n, ds0, e1, h1, h2⟩ => by
    subst e1
    exact ev_if (by rw [ls_at h1]; rfl) (ev_sb (h2.mono (fun e S2 ⟨ds, i, k, o, h3, e2, h5, h6, h7, q⟩ => by subst e2; exact ev_b1 (ls_at h3) (ev_if h5 (ev_b1 h6 (ev_b1 h7 q)))) fun _ _ e => e))) fun _ _ e => e)
theorem v_pop (h : Ev (f ρ S) (fun d S1 => ∃ n ds o, d = .loc n ∧ S1[n]? = some (.lst ds) ∧ ds[ds.length - 1]? = some o ∧ Q o (S1.set n (.lst ds.dropLast))) E) : Ev (mPop f ρ S) Q E :=
  ev_sb (h.mono (fun d S1 ⟨n, ds, o, e1, h1, h2, q⟩ => by subst e1; exact ev_b1 (ls_at h1) (ev_b1 h2 q)) fun _ _ e => e)
theorem v_slL {l hh : SFo} (h : Ev (f ρ S) (fun d S1 => Ev (l ρ S1) (fun lo S2 => Ev (hh ρ S2) (fun hi S3 => ∃ n ds, d = .loc n ∧ S3[n]? = some (.lst ds) ∧ Q (.loc S3.length) (S3 ++ [.lst (cutD ds lo hi)])) E) E) E) : Ev (mSl f l hh ρ S) Q E :=
  ev_sb (h.mono (fun d S1 h1 => ev_sb (h1.mono (fun lo S2 h2 => ev_sb (h2.mono (fun hi S3 ⟨n, ds, e1, h3, q⟩ => by subst e1; rw [ls_at h3]; exact q) fun _ _ e => e)) fun _ _ e => e)) fun _ _ e => e)
theorem v_oNo (q : Qo none S) : Ev (moNo ρ S) Qo E := q
theorem v_oE (h : Ev (f ρ S) (fun d S1 => ∃ i, d = .int i ∧ Qo (some i) S1) E) : Ev (moE f ρ S) Qo E := ev_sb (h.mono (fun d S1 ⟨i, e, q⟩ => by subst e; exact q) fun _ _ e => e)
theorem v_isi {T : String} (h : Ev (f ρ S) (fun d S1 => ∃ o, gIsi T (view S1 d) = some o ∧ Q o S1) E) : Ev (mIsi T f ρ S) Q E := ev_sb (h.mono (fun d S1 ⟨o, h3, q⟩ => ev_b1 h3 q) fun _ _ e => e)
theorem v_and (h : Ev (f ρ S) (fun d S1 => ∃ b, (view S1 d).tru = some b ∧ if b = true then Ev (g ρ S1) Q E else Q d S1) E) : Ev (mAnd f g ρ S) Q E := ev_sb (h.mono (fun d S1 ⟨b, h3, q⟩ => ev_b1 h3 (by
  cases b with
  | true => exact q
  | false => exact q)) fun _ _ e => e)
theorem v_or (h : Ev (f ρ S) (fun d S1 => ∃ b, (view S1 d).tru = some b ∧ if b = true then Q d S1 else Ev (g ρ S1) Q E) E) : Ev (mOr f g ρ S) Q E := ev_sb (h.mono (fun d S1 ⟨b, h3, q⟩ => ev_b1 h3 (by
  cases b with
  | true => exact q
  | false => exact q)) fun _ _ e => e)
theorem v_not (h : Ev (f ρ S) (fun d S1 => ∃ b, (view S1 d).tru = some b ∧ Q (.bool (!b)) S1) E) : Ev (mNot f ρ S) Q E := ev_sb (h.mono (fun d S1 ⟨b, h3, q⟩ => ev_b1 h3 q) fun _ _ e => e)
/-! tests -/
theorem vt_P {f : Ft} {b : Bool} (e : f ρ = some b) (q : Qb b S) : Ev (mtP f ρ S) Qb E := ev_b1 e q
theorem vt_V (h : Ev (f ρ S) (fun d S1 => ∃ b, (view S1 d).tru = some b ∧ Qb b S1) E) : Ev (mtV f ρ S) Qb E := ev_sb (h.mono (fun d S1 ⟨b, h3, q⟩ => ev_b1 h3 q) fun _ _ e => e)
theorem vt_B (h : Ev (f ρ S) (fun d S1 => ∃ b, d = .bool b ∧ Qb b S1) E) : Ev (mtB f ρ S) Qb E := ev_sb (h.mono (fun d S1 ⟨b, h3, q⟩ => by subst h3; exact q) fun _ _ e => e)
theorem vt_and (h : Ev (ft ρ S) (fun b S1 => if b = true then Ev (gt ρ S1) Qb E else Qb false S1) E) : Ev (mtAnd ft gt ρ S) Qb E := ev_sb (h.mono (fun b S1 q => by
  cases b with
  | true => exact q
  | false => exact q) fun _ _ e => e)
theorem vt_or (h : Ev (ft ρ S) (fun b S1 => if b = true then Qb true S1 else Ev (gt ρ S1) Qb E) E) : Ev (mtOr ft gt ρ S) Qb E := ev_sb (h.mono (fun b S1 q => by
  cases b with
  | true => exact q
  | false => exact q) fun _ _ e => e)
theorem vt_not (h : Ev (ft ρ S) (fun b S1 => Qb (!b) S1) E) : Ev (mtNot ft ρ S) Qb E := ev_sb h
/-! statements -/
/-- behind a statement: the next ones, or the end -/
def thenQ (g2 : SG) (Q : Fx → Store → Prop) : Fx → Store → Prop
  | .nx ρ, S => EG (g2 ρ S) Q
  | f, S => Q f S
theorem then_nx {g2 : SG} (h : EG (g2 ρ S) QG) : thenQ g2 QG (.nx ρ) S := h
theorem vs_seq {g1 g2 : SG} (h : EG (g1 ρ S) (thenQ g2 QG)) : EG (gSeq g1 g2 ρ S) QG := by
  unfold gSeq
  cases q : g1 ρ S with
  | none => rw [q] at h; exact h
  | some p =>
    obtain ⟨f, S'⟩ := p
    rw [q] at h
    cases f <;> exact h
theorem vs_nil (q : QG (.nx ρ) S) : EG (gNil ρ S) QG := q
theorem vs_retN (q : QG (.rt .non) S) : EG (gRetN ρ S) QG := q
theorem vs_ret (h : Ev (f ρ S) (fun d S1 => QG (.rt d) S1) (fun x S1 => QG (.er x ρ) S1)) : EG (gRet f ρ S) QG := eg_ev h
theorem vs_if {g1 g2 : SG} (h : Ev (ft ρ S) (fun b S1 => if b = true then EG (g1 ρ S1) QG else EG (g2 ρ S1) QG) (fun x S1 => QG (.er x ρ) S1)) : EG (gIf ft g1 g2 ρ S) QG := eg_ev (h.mono (fun b S1 q => by
  cases b with
  | true => exact q
  | false => exact q) fun _ _ e => e)
theorem vs_asg {set : D → Rho → Option Rho} (h : Ev (f ρ S) (fun d S1 => ∃ ρ', set d ρ = some ρ' ∧ QG (.nx ρ') S1) (fun x S1 => QG (.er x ρ) S1)) : EG (gAsg set f ρ S) QG := eg_ev (h.mono (fun d S1 ⟨ρ', e, q⟩ => by
  show EG (b1 (set d ρ) _) QG
  rw [e]
  exact q) fun _ _ e => e)
theorem vs_drop (h : Ev (f ρ S) (fun d S1 => QG (.nx ρ) S1) (fun x S1 => QG (.er x ρ) S1)) : EG (gDrop f ρ S) QG := eg_ev h
theorem vs_fld (h : Ev (f ρ S) (fun d S1 => Ev (g ρ S1) (fun e S2 => ∃ n fs, e = .loc n ∧ S2[n]? = some (.ins c fs) ∧ fs.length < 1000 ∧ QG (.nx ρ) (S2.set n (.ins c (putD fl d fs)))) (fun x S1 => QG (.er x ρ) S1)) (fun x S1 => QG (.er x ρ) S1)) : EG (gFld c fl f g ρ S) QG :=
  eg_ev (h.mono (fun d S1 h2 => eg_ev (h2.mono (fun e S2 ⟨n, fs, e1, e2, e3, q⟩ => by
    subst e1
    show EG (match S2[n]? with | some (.ins c' fs) => if c' = c ∧ fs.length < 1000 then some (.nx ρ, S2.set n (.ins c (putD fl d fs))) else none | _ => none) QG
    rw [e2]
    show EG (if c = c ∧ fs.length < 1000 then _ else none) QG
    rw [if_pos ⟨rfl, e3⟩]
    exact q) fun _ _ e => e)) fun _ _ e => e)
theorem vs_raise (h : Ev (f ρ S) (fun d S1 => QG (.er ⟨c, []⟩ ρ) S1) (fun x S1 => QG (.er x ρ) S1)) : EG (gRaise c f ρ S) QG := eg_ev h
theorem vs_brk (q : QG (.bk ρ) S) : EG (gBrk ρ S) QG := q
theorem vs_cnt (q : QG (.ct ρ) S) : EG (gCnt ρ S) QG := q
theorem vs_tryAs {i : Nat} {exm : Str → Option Bool} {bd : SG} {hd : Exn → Addr → Option Addr → SG} (h : EG (bd ρ S) (fun fl S1 => match fl with
    | .er x ρ' => ∃ b, exm x.cls = some b ∧ if b = true then (∃ r, (∀ a d, b1 (hd x a d (ρ'.set i (.exc a d x.fs)) S1) (wipF i) = some r) ∧ QG r.1 r.2) else QG (.er x ρ') S1
    | fl => QG fl S1)) : EG (gTryAs i exm bd hd ρ S) QG := by
  unfold gTryAs
  cases q : bd ρ S with
  | none => rw [q] at h; exact h
  | some p =>
    obtain ⟨f, S'⟩ := p
    rw [q] at h
    cases f with
    | er x ρ' =>
      obtain ⟨b, e1, e2⟩ := h
      show EG (b1 (exm x.cls) _) QG
      rw [e1]
      cases b with
      | true =>
        obtain ⟨r, e3, e4⟩ := e2
        show EG (comA _) QG
        rw [comA_of e3]
        exact e4
      | false => exact e2
    | _ => exact h
theorem vs_for {fi : SFi} {set : D → Rho → Option Rho} {g : SG} (h : Ev (fi ρ S) (fun p S1 => EG (goS p.2 (fun d ρ S => b1 (set d ρ) fun ρ' => g ρ' S) p.1 ρ S1) QG) (fun x S1 => QG (.er x ρ) S1)) : EG (gFor fi set g ρ S) QG := eg_ev h
theorem v_iP {fs : Fs} {ds : List D} {Qi : List D × (Store → Prop) → Store → Prop} (e : fs ρ = some ds) (q : Qi (ds, fun _ => True) S) : Ev (miP fs ρ S) Qi E := ev_b1 e q
/-- a loop by an invariant of what is left -/
theorem go_inv {chk : Store → Prop} {T : D → SG} (P : List D → Rho → Store → Prop) (hc : ∀ l ρ S, P l ρ S → chk S) (hd : ∀ ρ S, P [] ρ S → QG (.nx ρ) S)
    (hs : ∀ d l ρ S, P (d :: l) ρ S → EG (T d ρ S) fun fl S1 => match fl with
      | .nx ρ' => P l ρ' S1
      | .ct ρ' => P l ρ' S1
      | .bk ρ' => QG (.nx ρ') S1
      | fl => QG fl S1) : ∀ (ds : List D) (ρ : Rho) (S : Store), P ds ρ S → EG (goS chk T ds ρ S) QG
  | [], ρ, S, h => by
    unfold goS
    rw [if_pos (hc _ _ _ h)]
    exact hd _ _ h
  | d :: ds, ρ, S, h => by
    unfold goS
    rw [if_pos (hc _ _ _ h)]
    have := hs d ds ρ S h
    cases q : T d ρ S with
    | none => rw [q] at this; exact this.elim
    | some p =>
      obtain ⟨f, S'⟩ := p
      rw [q] at this
      cases f with
      | nx ρ' => exact go_inv P hc hd hs ds ρ' S' this
      | ct ρ' => exact go_inv P hc hd hs ds ρ' S' this
      | bk ρ' => exact this
      | rt v => exact this
      | er x ρ' => exact this
theorem v_xis {i : Nat} {tab : Str → Option Bool} {x : Exn} {a a' : Addr} {d' : Option Addr} {fs' : List (Str × D)} {b : Bool} (h1 : ρ[i]? = some (.exc a' d' fs')) (h2 : a' = a) (h3 : x.fs.isEmpty = true) (h4 : tab x.cls = some b) : mXis i tab x a ρ S = some (.ok (.bool b), S) := by
  unfold mXis
  rw [h1]
  show (if a' = a ∧ x.fs.isEmpty = true then b1 (tab x.cls) _ else none) = _
  rw [if_pos ⟨h2, h3⟩, h4]
  rfl
end
end Pd

/-! Zl0: zip of a list and a text (own; the road is the library's for two lists). -/
namespace Zl
open PySem
open PySem.Sem (wp)
/-- the text's iterator -/
abbrev SI (h : Heap) (a : Addr) (x : Str) (t : Tok) (i : Nat) : Prop := h.IsStrIter a "str_ascii_iterator" x t i
section
variable {prog : Program} {w : World} {A : Around} {E : Value → Shared → Prop} {s : Shared} {z TI TO i1 i2 l1 : Addr} {k1 k2 : Nat} {xs : Array Value} {tx : Str} {tt : Tok} {a b : Value}
theorem si_at {h h' : Heap} {it : Addr} {x : Str} {t : Tok} {i : Nat} (y : SI h it x t i) (e : ∀ o, h.get? it = some o → h'.get? it = some o) : SI h' it x t i := by
  obtain ⟨o, ho, r⟩ := y
  exact ⟨o, e o ho, r⟩
/-- z, TI, TO, the two iterators and the list stand apart -/
structure Apart (z TI TO i1 i2 l1 : Addr) : Prop where
  tz : TI ≠ z
  oz : TO ≠ z
  az : i1 ≠ z
  bz : i2 ≠ z
  to : TI ≠ TO
  ta : TI ≠ i1
  tb : TI ≠ i2
  oa : TO ≠ i1
  ob : TO ≠ i2
  ab : i1 ≠ i2
  lz : l1 ≠ z
  lo : l1 ≠ TO
  la : l1 ≠ i1
  lb : l1 ≠ i2
theorem next_item {x : Value} {c : Nat} {Q : Value → Shared → Prop} (D : Apart z TI TO i1 i2 l1) (hz : IsZip s.heap z TI TO .none) (hTI : IsPair s.heap TI (.ref i1) (.ref i2)) (hTO : IsPair s.heap TO a b)
    (h1 : s.heap.IsListIter i1 l1 k1) (h2 : SI s.heap i2 tx tt k2) (hl1 : s.heap.IsList l1 xs) (hx : xs[k1]? = some x) (hy : tx.cps[k2]? = some c)
    (hQ : ∀ h' tk, IsZip h' z TI TO (rawInt s.heap.objs.size) → (∃ p q, IsPair h' TO p q) → h'.IsListIter i1 l1 (k1 + 1) → SI h' i2 tx tt (k2 + 1) → IsPair h' s.heap.objs.size x (.str ⟨#[c]⟩ s.toks) → h'.objs.size = s.heap.objs.size + 1 →
      (∀ n o, n ≠ z → n ≠ TO → n ≠ i1 → n ≠ i2 → s.heap.get? n = some o → h'.get? n = some o) → Q (.ref s.heap.objs.size) { s with heap := h', toks := tk }) :
    wpAny (model prog w) A (Builtin.«zip.__next__» ⟨[.ref z], []⟩) (fun fin s' => ∃ v, fin = .done (.ret v) ∧ Q v s') E s := by
  show wpAny _ _ (field (.ref z) 2 >>= _) _ _ _; refine wpAny_bind (wpAny_field hz rfl (x := .bool false) rfl ?_)
  show wpAny _ _ (field (.ref z) 3 >>= _) _ _ _; refine wpAny_bind (wpAny_field hz rfl (x := .ref TI) rfl ?_); refine wpAny_bind (wpAny_seqItems hTI rfl ?_)
  show wpAny _ _ (Builtin.SmallTypes.ownedTupleIsFree (.ref z) >>= _) _ _ _; refine wpAny_bind ?_; unfold Builtin.SmallTypes.ownedTupleIsFree
  refine wpAny_bind (wpAny_field hz rfl (x := .none) rfl (wpAny_pure ?_)); simp only [if_true]; refine wpAny_bind (wpAny_rule ?_)
  refine wpAny_bind (wpAny_field hz rfl (x := .ref TO) rfl ?_); refine wpAny_bind (wpAny_setField_rec hz (by simp) fun g1 zz1 su1 => ?_)
  replace zz1 : IsZip g1 z TI TO .ellipsis := zz1; refine wpAny_bind ?_; simp only [List.zipIdx_cons, List.zipIdx_nil, List.forIn_cons, List.forIn_nil]
  refine wpAny_bind (wpAny_bind (wpAny_onRaise ?_)); show wpAny _ _ (Builtin.SmallTypes.nextOf (.ref i1) >>= _) _ _ _
  refine wpAny_bind (wpAny_nextOf_list_item (h1.extBut su1.extBut D.az) (hl1.extBut su1.extBut D.lz) hx fun g2 it2 su2 => wpAny_pure ?_)
  have to2 : IsPair g2 TO a b := su2.extBut _ _ D.oa (su1.extBut _ _ D.oz hTO)
  refine wpAny_bind (wpAny_seqItems to2 rfl ?_); refine wpAny_bind (wpAny_updateSeq_pair to2 fun g3 to3 su3 => ?_)
  replace to3 : IsPair g3 TO x b := to3; refine wpAny_bind (wpAny_letGo (wpAny_pure ?_))
  refine wpAny_bind (wpAny_bind (wpAny_onRaise ?_)); show wpAny _ _ (Builtin.SmallTypes.nextOf (.ref i2) >>= _) _ _ _
  have si3 : SI g3 i2 tx tt k2 := si_at h2 fun o e => su3.extBut _ _ D.ob.symm (su2.extBut _ _ D.ab.symm (su1.extBut _ _ D.bz e))
  refine wpAny_bind (wpAny_nextOf_ascii_item si3 hy fun g4 it4 su4 => wpAny_pure ?_)
  have to4 : IsPair g4 TO x b := su4.extBut _ _ D.ob to3
  refine wpAny_bind (wpAny_seqItems to4 rfl ?_); refine wpAny_bind (wpAny_updateSeq_pair to4 fun g5 to5 su5 => ?_)
  replace to5 : IsPair g5 TO x (.str ⟨#[c]⟩ s.toks) := to5; refine wpAny_bind (wpAny_letGo (wpAny_pure (wpAny_pure ?_)))
  refine wpAny_bind (wpAny_seqItems to5 rfl ?_); refine wpAny_bind (wpAny_newTuple ?_)
  have size5 : g5.objs.size = s.heap.objs.size := by rw [su5.1, su4.1, su3.1, su2.1, su1.1]
  have zz5 : IsZip g5 z TI TO .ellipsis := su5.extBut _ _ D.oz.symm (su4.extBut _ _ D.bz.symm (su3.extBut _ _ D.oz.symm (su2.extBut _ _ D.az.symm zz1)))
  have keep5 : ∀ n o, n ≠ z → n ≠ TO → n ≠ i1 → n ≠ i2 → s.heap.get? n = some o → g5.get? n = some o := fun n o c1 c2 c3 c4 e => su5.extBut _ _ c2 (su4.extBut _ _ c4 (su3.extBut _ _ c2 (su2.extBut _ _ c3 (su1.extBut _ _ c1 e))))
  have li5 : g5.IsListIter i1 l1 (k1 + 1) := ((it2.extBut su3.extBut D.oa.symm).extBut su4.extBut D.ab).extBut su5.extBut D.oa.symm
  have si5 : SI g5 i2 tx tt (k2 + 1) := si_at it4 fun o e => su5.extBut _ _ D.ob.symm e
  have ltz : z < g5.objs.size := Heap.lt_size zz5
  show wpAny _ _ (Builtin.SmallTypes.ownedTupleHandOut (.ref z) (.ref g5.objs.size) >>= _) _ _ _; refine wpAny_bind ?_; unfold Builtin.SmallTypes.ownedTupleHandOut
  have zz6 : IsZip (g5.push { cls := .type "tuple", data := .seq #[x, .str ⟨#[c]⟩ s.toks] }) z TI TO .ellipsis := Heap.get?_push_of_some _ zz5
  refine wpAny_bind (wpAny_setField_rec zz6 (by simp) fun g7 zz7 su7 => ?_); replace zz7 : IsZip g7 z TI TO (rawInt g5.objs.size) := zz7
  refine wpAny_setField_rec zz7 (by simp) fun g8 zz8 su8 => ?_; replace zz8 : IsZip g8 z TI TO (rawInt g5.objs.size) := zz8
  have up : ∀ n o, n ≠ z → g5.get? n = some o → g8.get? n = some o := fun n o c1 e => su8.extBut _ _ c1 (su7.extBut _ _ c1 (Heap.get?_push_of_some _ e))
  have new8 : IsPair g8 g5.objs.size x (.str ⟨#[c]⟩ s.toks) := su8.extBut _ _ (Nat.ne_of_gt ltz) (su7.extBut _ _ (Nat.ne_of_gt ltz) (Heap.get?_push_size _ rfl))
  have size8 : g8.objs.size = g5.objs.size + 1 := by rw [su8.1, su7.1, Heap.size_push]
  rw [size5] at zz8 new8 size8
  refine wpAny_pure ⟨_, rfl, ?_⟩; show Q (.ref g5.objs.size) _; rw [size5]
  exact hQ g8 _ zz8 ⟨_, _, up _ _ D.oz to5⟩ (li5.at fun o e => up _ o D.az e) (si_at si5 fun o e => up _ o D.bz e) new8 size8 fun n o c1 c2 c3 c4 e => up n o c1 (keep5 n o c1 c2 c3 c4 e)
theorem next_end {Q : Fin → Shared → Prop} (hh : A.handled = none) (D : Apart z TI TO i1 i2 l1) (hz : IsZip s.heap z TI TO .none) (hTI : IsPair s.heap TI (.ref i1) (.ref i2)) (hTO : IsPair s.heap TO a b)
    (h1 : s.heap.IsListIter i1 l1 k1) (h2 : SI s.heap i2 tx tt k2) (hl1 : s.heap.IsList l1 xs) (stop : xs[k1]? = none ∨ tx.cps[k2]? = none)
    (hE : ∀ h' tk e, (∀ n o, n ≠ z → n ≠ TO → n ≠ i1 → n ≠ i2 → s.heap.get? n = some o → h'.get? n = some o) → (∃ o, h'.get? e = some o ∧ o.cls = .type "StopIteration") → E (.ref e) { s with heap := h', toks := tk }) :
    wpAny (model prog w) A (Builtin.«zip.__next__» ⟨[.ref z], []⟩) Q E s := by
  show wpAny _ _ (field (.ref z) 2 >>= _) _ _ _; refine wpAny_bind (wpAny_field hz rfl (x := .bool false) rfl ?_)
  show wpAny _ _ (field (.ref z) 3 >>= _) _ _ _; refine wpAny_bind (wpAny_field hz rfl (x := .ref TI) rfl ?_); refine wpAny_bind (wpAny_seqItems hTI rfl ?_)
  show wpAny _ _ (Builtin.SmallTypes.ownedTupleIsFree (.ref z) >>= _) _ _ _; refine wpAny_bind ?_; unfold Builtin.SmallTypes.ownedTupleIsFree
  refine wpAny_bind (wpAny_field hz rfl (x := .none) rfl (wpAny_pure ?_)); simp only [if_true]; refine wpAny_bind (wpAny_rule ?_)
  refine wpAny_bind (wpAny_field hz rfl (x := .ref TO) rfl ?_); refine wpAny_bind (wpAny_setField_rec hz (by simp) fun g1 zz1 su1 => ?_)
  replace zz1 : IsZip g1 z TI TO .ellipsis := zz1; refine wpAny_bind ?_; simp only [List.zipIdx_cons, List.zipIdx_nil, List.forIn_cons, List.forIn_nil]
  refine wpAny_bind (wpAny_bind (wpAny_onRaise ?_)); show wpAny _ _ (Builtin.SmallTypes.nextOf (.ref i1) >>= _) _ _ _
  cases hx : xs[k1]? with
  | none =>
    refine wpAny_bind (wpAny_nextOf_list_end hh (h1.extBut su1.extBut D.az) (hl1.extBut su1.extBut D.lz) hx fun g2 e su2 ⟨oe, hoe, hce⟩ => ?_)
    have zz2 : IsZip g2 z TI TO .ellipsis := su2 _ _ D.az.symm zz1
    have ez : e ≠ z := fun q => by subst q; rw [zz2] at hoe; cases hoe; simp at hce
    exact wpAny_setField_rec zz2 (by simp) fun g3 _ su3 => hE g3 _ e (fun n o c1 _ c3 _ q => su3.extBut _ _ c1 (su2 _ _ c3 (su1.extBut _ _ c1 q))) ⟨oe, su3.extBut _ _ ez hoe, hce⟩
  | some x =>
    have hy : tx.cps[k2]? = none := stop.resolve_left (by rw [hx]; exact fun q => nomatch q)
    refine wpAny_bind (wpAny_nextOf_list_item (h1.extBut su1.extBut D.az) (hl1.extBut su1.extBut D.lz) hx fun g2 it2 su2 => wpAny_pure ?_)
    have to2 : IsPair g2 TO a b := su2.extBut _ _ D.oa (su1.extBut _ _ D.oz hTO)
    refine wpAny_bind (wpAny_seqItems to2 rfl ?_); refine wpAny_bind (wpAny_updateSeq_pair to2 fun g3 to3 su3 => ?_); refine wpAny_bind (wpAny_letGo (wpAny_pure ?_))
    refine wpAny_bind (wpAny_bind (wpAny_onRaise ?_)); show wpAny _ _ (Builtin.SmallTypes.nextOf (.ref i2) >>= _) _ _ _
    have si3 : SI g3 i2 tx tt k2 := si_at h2 fun o e => su3.extBut _ _ D.ob.symm (su2.extBut _ _ D.ab.symm (su1.extBut _ _ D.bz e))
    refine wpAny_bind (wpAny_nextOf_ascii_end hh si3 hy fun g4 e su4 ⟨oe, hoe, hce⟩ => ?_)
    have zz4 : IsZip g4 z TI TO .ellipsis := su4 _ _ D.bz.symm (su3.extBut _ _ D.oz.symm (su2.extBut _ _ D.az.symm zz1))
    have ez : e ≠ z := fun q => by subst q; rw [zz4] at hoe; cases hoe; simp at hce
    exact wpAny_setField_rec zz4 (by simp) fun g5 _ su5 => hE g5 _ e (fun n o c1 c2 c3 c4 q => su5.extBut _ _ c1 (su4 _ _ c4 (su3.extBut _ _ c2 (su2.extBut _ _ c3 (su1.extBut _ _ c1 q))))) ⟨oe, su5.extBut _ _ ez hoe, hce⟩
theorem py_item {x : Value} {c : Nat} {Q : Option Value → Shared → Prop} (D : Apart z TI TO i1 i2 l1) (hz : IsZip s.heap z TI TO .none) (hTI : IsPair s.heap TI (.ref i1) (.ref i2)) (hTO : IsPair s.heap TO a b)
    (h1 : s.heap.IsListIter i1 l1 k1) (h2 : SI s.heap i2 tx tt k2) (hl1 : s.heap.IsList l1 xs) (hx : xs[k1]? = some x) (hy : tx.cps[k2]? = some c)
    (hQ : ∀ h' tk, IsZip h' z TI TO (rawInt s.heap.objs.size) → (∃ p q, IsPair h' TO p q) → h'.IsListIter i1 l1 (k1 + 1) → SI h' i2 tx tt (k2 + 1) → IsPair h' s.heap.objs.size x (.str ⟨#[c]⟩ s.toks) → h'.objs.size = s.heap.objs.size + 1 →
      (∀ n o, n ≠ z → n ≠ TO → n ≠ i1 → n ≠ i2 → s.heap.get? n = some o → h'.get? n = some o) → Q (some (.ref s.heap.objs.size)) { s with heap := h', toks := tk }) : wpAny (model prog w) A (pyNext (.ref z)) Q E s := by
  have ty : s.TypeIs (.ref z) "zip" := ⟨_, hz, rfl⟩
  unfold pyNext
  refine wpAny_bind (wpAny_attempt (wpAny_callSpecial?_slot (name := Str.ofString "__next__") ty F.slot_zip_next (wpAny_call_entry F.slot_zip_next ty F.entry_zip_next ?_ (F.args_zip_next_1 _))))
  exact next_item D hz hTI hTO h1 h2 hl1 hx hy fun h' tk q1 q2 q3 q4 q5 q6 q7 => wpAny_pure (hQ h' tk q1 q2 q3 q4 q5 q6 q7)
theorem py_end {Q : Option Value → Shared → Prop} (hh : A.handled = none) (D : Apart z TI TO i1 i2 l1) (hz : IsZip s.heap z TI TO .none) (hTI : IsPair s.heap TI (.ref i1) (.ref i2)) (hTO : IsPair s.heap TO a b)
    (h1 : s.heap.IsListIter i1 l1 k1) (h2 : SI s.heap i2 tx tt k2) (hl1 : s.heap.IsList l1 xs) (stop : xs[k1]? = none ∨ tx.cps[k2]? = none)
    (hQ : ∀ h' tk, (∀ n o, n ≠ z → n ≠ TO → n ≠ i1 → n ≠ i2 → s.heap.get? n = some o → h'.get? n = some o) → Q none { s with heap := h', toks := tk }) : wpAny (model prog w) A (pyNext (.ref z)) Q E s := by
  have ty : s.TypeIs (.ref z) "zip" := ⟨_, hz, rfl⟩
  unfold pyNext
  refine wpAny_bind (wpAny_attempt (wpAny_callSpecial?_slot (name := Str.ofString "__next__") ty F.slot_zip_next (wpAny_call_entry F.slot_zip_next ty F.entry_zip_next ?_ (F.args_zip_next_1 _))))
  refine next_end hh D hz hTI hTO h1 h2 hl1 stop fun h' tk e hk ⟨o, ho, hc⟩ => ?_
  exact wpAny_bind (wpAny_isInstance (T := "StopIteration") (b := true) ⟨o, ho, hc⟩ isSubtype_stop (wpAny_pure (hQ _ tk hk)))
end
/-! zip(list, text) -/
abbrev hp1 (h : Heap) (l1 : Addr) : Heap := h.push { cls := .type "list_iterator", data := .fields #[.ref l1, .int 0 0] }
abbrev hp2 (h : Heap) (l1 : Addr) (tx : Str) (tt : Tok) : Heap := (hp1 h l1).push { cls := .type "str_ascii_iterator", data := .fields #[.str tx tt, .int 0 0] }
abbrev hp3 (h : Heap) (l1 : Addr) (tx : Str) (tt : Tok) : Heap := (hp2 h l1 tx tt).push { cls := .type "tuple", data := .seq #[.ref h.objs.size, .ref (hp1 h l1).objs.size] }
abbrev hp4 (h : Heap) (l1 : Addr) (tx : Str) (tt : Tok) : Heap := (hp3 h l1 tx tt).push { cls := .type "tuple", data := .seq #[.none, .none] }
abbrev hp5 (h : Heap) (l1 : Addr) (tx : Str) (tt : Tok) : Heap := (hp4 h l1 tx tt).push { cls := .type "zip", data := .fields #[.none, .bool false, .bool false, .ref (hp2 h l1 tx tt).objs.size, .ref (hp3 h l1 tx tt).objs.size] }
theorem meets_new (l1 : Addr) (xs : Array Value) (tx : Str) (tt : Tok) (ha : tx.cps.all (· < 128) = true) :
    Meets (Builtin.«zip.__new__» ⟨[.type "zip", .ref l1, .str tx tt], []⟩) (fun _ R s => s.heap.IsList l1 xs ∧ R (.ok (.ret (.ref (hp4 s.heap l1 tx tt).objs.size))) { s with heap := hp5 s.heap l1 tx tt }) :=
  .of_wp fun prog w A R s h => by
    obtain ⟨hp, g, d, tk, os⟩ := s; obtain ⟨hl1, h⟩ := h
    have zsub := sub_zip
    have hL1 : Heap.IsList (Shared.heap ⟨hp, g, d, tk, os⟩) l1 xs := hl1
    have hS {E : Value → Shared → Prop} {s : Shared} {Q : Value → Shared → Prop} (hQ : Q (.ref s.heap.objs.size) { s with heap := s.heap.push { cls := .type "str_ascii_iterator", data := .fields #[.str tx tt, .int 0 0] } }) : wpAny (model prog w) A.in1 (pyIter (.str tx tt)) Q E s := wpAny_pyIter_ascii ha hQ
    wp_walk using wpAny_pyIter_list hL1, wpAny_pyIter_ascii ha
    exact ⟨_, rfl, h⟩
section
variable {prog : Program} {w : World} {A : Around} {E : Value → Shared → Prop} {s : Shared}
theorem call_new {l1 : Addr} {xs : Array Value} {tx : Str} {tt : Tok} {Q : Value → Shared → Prop} (ha : tx.cps.all (· < 128) = true) (hl1 : s.heap.IsList l1 xs)
    (h : ∀ h', IsZip h' (s.heap.objs.size + 4) (s.heap.objs.size + 2) (s.heap.objs.size + 3) .none → IsPair h' (s.heap.objs.size + 2) (.ref s.heap.objs.size) (.ref (s.heap.objs.size + 1)) → IsPair h' (s.heap.objs.size + 3) .none .none →
      h'.IsListIter s.heap.objs.size l1 0 → SI h' (s.heap.objs.size + 1) tx tt 0 → (∀ c o, s.heap.get? c = some o → h'.get? c = some o) → Q (.ref (s.heap.objs.size + 4)) { s with heap := h' }) :
    wpAny (model prog w) A (call (.type "zip") [.ref l1, .str tx tt]) Q E s := by
  refine callType_new F.called_zip (by decide) (F.typeCall_zip_2 _ _) (F.newCall_zip_2 _ _) (fun obj => F.args_object_init_3 obj _ _) F.entry_zip_new (meets_new l1 xs tx tt ha) ⟨hl1, ?_⟩
  have y1 : (hp1 s.heap l1).objs.size = s.heap.objs.size + 1 := Heap.size_push ..
  have y2 : (hp2 s.heap l1 tx tt).objs.size = s.heap.objs.size + 2 := by rw [Heap.size_push, y1]
  have y3 : (hp3 s.heap l1 tx tt).objs.size = s.heap.objs.size + 3 := by rw [Heap.size_push, y2]
  have y4 : (hp4 s.heap l1 tx tt).objs.size = s.heap.objs.size + 4 := by rw [Heap.size_push, y3]
  have e5 : (hp5 s.heap l1 tx tt).get? (hp4 s.heap l1 tx tt).objs.size = some _ := Heap.get?_push_size _ rfl
  have e4 : (hp5 s.heap l1 tx tt).get? (hp3 s.heap l1 tx tt).objs.size = some _ := Heap.get?_push_of_some _ (Heap.get?_push_size _ rfl)
  have e3 : (hp5 s.heap l1 tx tt).get? (hp2 s.heap l1 tx tt).objs.size = some _ := Heap.get?_push_of_some _ (Heap.get?_push_of_some _ (Heap.get?_push_size _ rfl))
  have e2 : (hp5 s.heap l1 tx tt).get? (hp1 s.heap l1).objs.size = some _ := Heap.get?_push_of_some _ (Heap.get?_push_of_some _ (Heap.get?_push_of_some _ (Heap.get?_push_size _ rfl)))
  have e1 : (hp5 s.heap l1 tx tt).get? s.heap.objs.size = some _ := Heap.get?_push_of_some _ (Heap.get?_push_of_some _ (Heap.get?_push_of_some _ (Heap.get?_push_of_some _ (Heap.get?_push_size _ rfl))))
  show _ ∧ _
  rw [y2, y3, y4] at e5
  rw [y1, y2] at e3
  rw [y3] at e4
  rw [y1] at e2
  rw [y4]
  exact ⟨⟨_, e5, rfl⟩, h _ e5 e3 e4 ⟨_, e1, rfl, rfl⟩ ⟨_, e2, rfl, rfl⟩ fun c o q => Heap.get?_push_of_some _ (Heap.get?_push_of_some _ (Heap.get?_push_of_some _ (Heap.get?_push_of_some _ (Heap.get?_push_of_some _ q))))⟩
end
end Zl

/-! Zl1: walks over zip of a list and a text. -/
namespace Zl
open PySem PySem.Spec PyProof.Rows L2
/-- the list at a as it stands at each turn, the text's signs beside -/
def Its (K : PySem.W.Frag) (a : Addr) (tx : Str) : It :=
  ⟨fun i H => ∃ (xs : List V) (x : V) (c : Nat), SqL K H a xs ∧ xs[i]? = some x ∧ tx.cps[i]? = some c,
    fun i H v H' => ∃ T x c, v = .ref T ∧ H T = none ∧ H' = upd H T (.tup [x, .str ⟨#[c]⟩]) ∧ (∀ xs, SqL K H a xs → xs[i]? = some x) ∧ tx.cps[i]? = some c,
    fun i H => ∃ xs : List V, SqL K H a xs ∧ (xs.length ≤ i ∨ tx.cps.size ≤ i)⟩
theorem turn_zs {P : Program} {w : World} {K : PySem.W.Frag} {elts : List Expr} {kk : Nat} {tpos : Pos} {a z TI TO i1 i2 : Addr} {tx : Str} {tt : Tok} (D : Apart z TI TO i1 i2 a) :
    Turn P w K (.Tuple elts kk tpos) (Its K a tx) [z, TI, TO, i1, i2] z (fun i h => IsZip h z TI TO .none ∧ IsPair h TI (.ref i1) (.ref i2) ∧ (∃ x y, IsPair h TO x y) ∧ h.IsListIter i1 a i ∧ SI h i2 tx tt i) where
  mem := by simp
  obj := fun i h st c hc => by
    obtain ⟨hz, hTI, ⟨x, y, hTO⟩, ⟨o1, e1, _, d1⟩, ⟨o2, e2, _, d2⟩⟩ := st
    simp only [List.mem_cons, List.not_mem_nil, or_false] at hc
    rcases hc with rfl | rfl | rfl | rfl | rfl
    · exact ⟨_, hz, fun v q => nomatch q⟩
    · exact ⟨_, hTI, fun v q => nomatch q⟩
    · exact ⟨_, hTO, fun v q => nomatch q⟩
    · exact ⟨o1, e1, fun v q => by rw [d1] at q; cases q⟩
    · exact ⟨o2, e2, fun v q => by rw [d2] at q; cases q⟩
  keep := fun i h h' st k => by
    obtain ⟨hz, hTI, ⟨x, y, hTO⟩, h1, h2⟩ := st
    exact ⟨k z (by simp) _ hz, k TI (by simp) _ hTI, ⟨x, y, k TO (by simp) _ hTO⟩, h1.at fun o q => k i1 (by simp) o q, si_at h2 fun o q => k i2 (by simp) o q⟩
  item := by
    intro X hP hw hK hc i pins s σ H E I hf st hg
    subst hP hw hK
    obtain ⟨hz, hTI, ⟨x0, y0, hTO⟩, h1, h2⟩ := st
    obtain ⟨xs, x, c, hqx, hx, hy⟩ := hg
    obtain ⟨its, rv, p, _⟩ := I.list hqx
    obtain ⟨u, hu, ru⟩ := rv.get hx
    have hzl : z < s.heap.objs.size := Heap.lt_size hz
    refine py_item D hz hTI hTO h1 h2 p.isList (x := u) (c := c) (by simpa using hu) hy fun h' tk z' ⟨p', q', TO'⟩ h1' h2' hT hsz hk => ?_
    refine ⟨_, rfl, wpAny_letOwnedTupleGo_zip (s := { s with heap := h', toks := tk }) z' fun h'' z'' sb => ?_⟩
    have hT2 : h''.get? s.heap.objs.size = some { cls := .type "tuple", data := .seq #[u, .str ⟨#[c]⟩ s.toks] } := (sb.2 _ (Nat.ne_of_gt hzl)).trans hT
    have new : ObjOk X.prog X.w (upd H s.heap.objs.size (.tup [x, .str ⟨#[c]⟩])) h'' s.heap.objs.size (.tup [x, .str ⟨#[c]⟩]) :=
      ⟨by show 2 ≤ sizeLine; decide, [u, .str ⟨#[c]⟩ s.toks], .cons ru (.cons ⟨_, rfl⟩ .nil), ⟨_, hT2, rfl, _, rfl⟩⟩
    have I1 : Inv X pins σ (upd H s.heap.objs.size (.tup [x, .str ⟨#[c]⟩])) { s with heap := h'', toks := tk } :=
      I.turnedNew (t' := tk) (ch := [z, TI, TO, i1, i2]) (fun n o hb q => by
        have nz : ∀ y ∈ [z, TI, TO, i1, i2], n ≠ y := fun y hy e => hb (by rw [e]; exact hy)
        exact (sb.2 n (nz z (by simp))).trans (hk n o (nz z (by simp)) (nz TO (by simp)) (nz i1 (by simp)) (nz i2 (by simp)) q)) hf (Nat.le_refl _) new
    refine ⟨.ref s.heap.objs.size, _, I1, rfl, ⟨_, x, c, rfl, I.hok.fresh (Nat.le_refl _), rfl, fun l hl => by rw [I.list_inj hl hqx]; exact hx, hy⟩, ⟨z'', ?_, ⟨p', q', ?_⟩, ?_, ?_⟩, fun n hcm => ?_⟩
    · exact (sb.2 _ D.tz).trans (hk _ _ D.tz D.to D.ta D.tb hTI)
    · exact (sb.2 _ D.oz).trans TO'
    · exact h1'.at fun o q => (sb.2 _ D.az).trans q
    · exact si_at h2' fun o q => (sb.2 _ D.bz).trans q
    · have hlt : n < s.heap.objs.size := by
        simp only [List.mem_cons, List.not_mem_nil, or_false] at hcm
        rcases hcm with rfl | rfl | rfl | rfl | rfl
        · exact hzl
        · exact Heap.lt_size hTI
        · exact Heap.lt_size hTO
        · obtain ⟨_, e1, _⟩ := h1; exact Heap.lt_size e1
        · obtain ⟨_, e2, _⟩ := h2; exact Heap.lt_size e2
      rw [upd_ne (Nat.ne_of_lt hlt)]
      exact (hf n hcm).1
  done := by
    intro X hP hw hK hc i pins s σ H E I hf st hg
    subst hP hw hK
    obtain ⟨hz, hTI, ⟨x0, y0, hTO⟩, h1, h2⟩ := st
    obtain ⟨xs, hqx, stop⟩ := hg
    obtain ⟨its, rv, p, _⟩ := I.list hqx
    have hl := rv.length
    have he : its.toArray[i]? = none ∨ tx.cps[i]? = none := stop.imp (fun q => by simp; omega) fun q => by simp; omega
    exact py_end (I.ok.hd hc) D hz hTI hTO h1 h2 p.isList he fun h' tk hk => ⟨rfl, I.turnedL (t' := tk) (ch := [z, TI, TO, i1, i2]) (fun n o hb q => by
      have nz : ∀ y ∈ [z, TI, TO, i1, i2], n ≠ y := fun y hy e => hb (by rw [e]; exact hy)
      exact hk n o (nz z (by simp)) (nz TO (by simp)) (nz i1 (by simp)) (nz i2 (by simp)) q) hf⟩
  self := fun A i s Q E st h => wpAny_pyIter_zip st.1 h
theorem apart_new (n a : Addr) (ha : a < n) : Apart (n + 4) (n + 2) (n + 3) n (n + 1) a :=
  let D := PySem.W.ktu_apart n a a ha ha
  ⟨D.TIz, D.TOz, D.i1z, D.i2z, D.TITO, D.TIi1, D.TIi2, D.TOi1, D.TOi2, D.i12, D.l1z, D.l1TO, D.l1i1, D.l1i2⟩
def iZs (K : PySem.W.Frag) (ta : TA) : TI := fun σ H R => ta σ H fun vs H1 => ∃ a tx xs, vs = [.ref a, .str tx] ∧ tx.cps.all (· < 128) = true ∧ SqL K H1 a xs ∧ R (Its K a tx) H1
theorem pi_zs {X : Cx} {e e2 : Expr} {ta : TA} {p pos tpos : Pos} {elts : List Expr} {kk : Nat} (hg : Gl X "zip") (hm : X.mg "zip" = none) (ha : PA X [e, e2] ta) (hs : starEach [e, e2] X.env = (false, eval e X.env) :: starEach [e2] X.env := by rfl)
    (hpl : (backTo pos (starEach [e2] X.env)).any (·.1) = false := by rfl) : PI X (.Tuple elts kk tpos) (.Call (.Name "zip" p) [e, e2] [] pos) (iZs X.K ta) := by
  refine ⟨fun pins s σ H R I h => Call_ (ld_blt I hg hm PyProof.Rows.boot_zip (PyProof.Rows.callWith_type1 (thn (ha.run pos pins s σ H _ I h) fun us s1 ⟨vs, H1, I1, r1, q1⟩ => ?_) hs hpl))⟩
  obtain ⟨a, tx, xs, rfl, hasc, hqx, q⟩ := q1
  cases r1 with
  | cons r rr =>
    cases rr with
    | cons r' rr =>
      cases rr
      cases r
      obtain ⟨t, rfl⟩ := r'
      obtain ⟨its, rv, p1, _⟩ := I1.list hqx
      refine call_new hasc p1.isList fun h' hz hTI hTO h1 h2 hk => wpAny_pyIter_zip hz ?_
      have I2 : Inv X pins σ H1 { s1 with heap := h' } := I1.kept (t' := s1.toks) hk
      refine ⟨s1.heap.objs.size + 4, [s1.heap.objs.size + 4, s1.heap.objs.size + 2, s1.heap.objs.size + 3, s1.heap.objs.size, s1.heap.objs.size + 1], _, _, H1, rfl, I2, turn_zs (apart_new s1.heap.objs.size a p1.lt), ⟨hz, hTI, ⟨_, _, hTO⟩, h1, h2⟩, fun c hcm => ?_, q⟩
      have le : s1.heap.objs.size ≤ c := by
        simp only [List.mem_cons, List.not_mem_nil, or_false] at hcm
        rcases hcm with rfl | rfl | rfl | rfl | rfl
        · exact Nat.le_add_right _ _
        · exact Nat.le_add_right _ _
        · exact Nat.le_add_right _ _
        · exact Nat.le_refl _
        · exact Nat.le_add_right _ _
      exact I1.fpOk le (I1.hok.fresh le)
end Zl
namespace Pd
open PySem PySem.Spec L2 SkE
open PyProof.Rows hiding St
/-- pairs of a list's items and a text's signs -/
def zsD : List D → List Nat → List D
  | d :: ds, c :: cs => .tup [d, .str ⟨#[c]⟩] :: zsD ds cs
  | _, _ => []
def itZs : List D → Option (List D)
  | [.lst ds, .str tx] => if tx.cps.all (· < 128) = true then some (zsD ds tx.cps.toList) else none
  | _ => none
theorem zsD_get : ∀ (ds : List D) (cs : List Nat) (i : Nat) (d : D), (zsD ds cs)[i]? = some d → ∃ d1 c, ds[i]? = some d1 ∧ cs[i]? = some c ∧ d = .tup [d1, .str ⟨#[c]⟩]
  | [], _, i, d, h => by simp [zsD] at h
  | _ :: _, [], i, d, h => by simp [zsD] at h
  | d0 :: ds, c :: cs, 0, d, h => by
    simp only [zsD, List.getElem?_cons_zero, Option.some.injEq] at h
    exact ⟨d0, c, rfl, rfl, h.symm⟩
  | d0 :: ds, c :: cs, i + 1, d, h => by
    simp only [zsD, List.getElem?_cons_succ] at h
    obtain ⟨d1, c1, a, b, e⟩ := zsD_get ds cs i d h
    exact ⟨d1, c1, by simpa using a, by simpa using b, e⟩
theorem zsD_len : ∀ (ds : List D) (cs : List Nat), (zsD ds cs).length = min ds.length cs.length
  | [], cs => by simp [zsD]
  | _ :: _, [] => by simp [zsD]
  | _ :: ds, _ :: cs => by simp only [zsD, List.length_cons, zsD_len ds cs]; omega
theorem wk_zs {K : PySem.W.Frag} {μ : List Addr} {Hs : Hp} {a : Addr} {xs : List V} {ds : List D} {tx : Str} (h : SqL K Hs a xs) (r : RpA K μ Hs xs ds) : Wk K μ (Zl.Its K a tx) (zsD ds tx.cps.toList) Hs := by
  refine ⟨fun i H s hi => ?_, fun i H s hi => ⟨xs, s.seq h, ?_⟩, fun i H Hs1 x H' s1 s hy d hd => ?_⟩
  · rw [zsD_len] at hi
    have h1 : i < xs.length := by rw [r.len]; omega
    have h2 : i < tx.cps.size := by have : i < tx.cps.toList.length := by omega
                                    simpa using this
    exact ⟨xs, xs[i], tx.cps[i], s.seq h, by simp [h1], by simp [h2]⟩
  · rw [zsD_len] at hi
    rw [r.len]
    have : tx.cps.toList.length = tx.cps.size := by simp
    omega
  · obtain ⟨T, y, c, rfl, hT, rfl, hx, hc⟩ := hy
    obtain ⟨d1, c1, e1, e2, rfl⟩ := zsD_get _ _ _ _ hd
    obtain ⟨v, e3, r1⟩ := r.getD e1
    have e4 := hx xs ((s1.trans s).seq h)
    rw [e3] at e4
    cases e4
    have e5 : c = c1 := by
      have : tx.cps[i]? = some c1 := by simpa using e2
      rw [hc] at this
      exact Option.some.inj this
    subst e5
    exact ⟨_, Ext.made s hT, .tup (SqT.of upd_same) (.cons (r1.mono (s1.trans (Ext.made s hT).part)) (.cons (.str _) .nil))⟩
theorem pdi_zs {X : Cx} {a b : Expr} {fs : Fs} {p pos tpos : Pos} {elts : List Expr} {kk : Nat} (hm : X.mg "zip" = none) (ha : PA X [a, b] (tDs X.K fs)) (hg : Gl X "zip" := by rfl) (hs : starEach [a, b] X.env = (false, eval a X.env) :: starEach [b] X.env := by rfl)
    (hpl : (backTo pos (starEach [b] X.env)).any (·.1) = false := by rfl) : PI X (.Tuple elts kk tpos) (.Call (.Name "zip" p) [a, b] [] pos) (tDI X.K (fIs itZs fs)) := by
  refine pi_imp (Zl.pi_zs hg hm ha hs hpl) fun σ H R ⟨μ, Hs, ρ, ds, s, env, e, k⟩ => ?_
  obtain ⟨d1, e1, e2⟩ := b1_eq e
  refine ⟨μ, Hs, ρ, d1, s, env, e1, fun vs H1 Hs1 x1 r1 => ?_⟩
  unfold itZs at e2
  split at e2
  · obtain ⟨hasc, rfl⟩ := ite_some e2
    obtain ⟨v, u, rfl, rv, ru⟩ := rpa2 r1
    cases ru
    cases rv with
    | lst h1 h2 => exact ⟨_, _, _, rfl, hasc, SqL.of (x1.sub _ _ h1), k _ _ Hs1 x1 (wk_zs (SqL.of h1) h2)⟩
  · cases e2
/-! *x in a display -/
def fStar (f : F) (fs : Fs) : Fs := fun ρ => b1 (f ρ) fun d => b1 (fs ρ) fun es => match d with
  | .lst ds => some (ds ++ es)
  | .tup ds => some (ds ++ es)
  | _ => none
theorem pda_star {X : Cx} {e : Expr} {es : List Expr} {f : F} {fs : Fs} {p : Pos} (he : PE X e (tD X.K f)) (hr : PA X es (tDs X.K fs)) (hs : starEach (.Starred e p :: es) X.env = (true, eval e X.env) :: starEach es X.env := by rfl) : PA X (.Starred e p :: es) (tDs X.K (fStar f fs)) := by
  refine pa_imp (StX.pa_star he hr hs) fun σ H Q ⟨μ, Hs, ρ, ds, s, env, e, k⟩ => ?_
  obtain ⟨d1, e1, e2⟩ := b1_eq e
  obtain ⟨d2, e3, e4⟩ := b1_eq e2
  refine ⟨μ, Hs, ρ, d1, s, env, e1, fun v H1 Hs1 x1 r1 => ?_⟩
  cases r1 with
  | lst q1 q2 =>
    cases e4
    exact ⟨_, _, rfl, .inr (SqL.of (x1.sub _ _ q1)), μ, Hs1, ρ, d2, x1.sub, env.mono x1.part, e3, fun ys H2 Hs2 x2 r2 => k _ H2 Hs2 (x1.trans x2) ((q2.mono x2.part).app r2)⟩
  | tup q1 q2 =>
    cases e4
    exact ⟨_, _, rfl, .inl (sqT_mono x1.sub q1), μ, Hs1, ρ, d2, x1.sub, env.mono x1.part, e3, fun ys H2 Hs2 x2 r2 => k _ H2 Hs2 (x1.trans x2) ((q2.mono x2.part).app r2)⟩
  | _ => cases e4
/-! a dict of the text: texts at texts -/
structure Kt (K : PySem.W.Frag) (w : World) (mg : Str → Option Value) (x : Str) (kvs : List (Str × Str)) : Prop where
  ex : ∃ (d : Addr) (es : Array DictEntry) (n : Nat), mg x = some (.ref d) ∧ KDict K w d es n ∧ ∀ z, ∃ t, PySem.W.nsIn K d z = some ((kvs.lookup z).map fun v => Value.str v t)
section
variable {X : Cx} {e : Expr} {f : F} {pos p : Pos} {x : Str} {kvs : List (Str × Str)}
def gKin (kvs : List (Str × Str)) : D → Option D
  | .str z => some (.bool (kvs.lookup z).isSome)
  | _ => none
def gKno (kvs : List (Str × Str)) : D → Option D
  | .str z => some (.bool (!(kvs.lookup z).isSome))
  | _ => none
def gKix (kvs : List (Str × Str)) : D → Option D
  | .str z => (kvs.lookup z).map D.str
  | _ => none
theorem kt_no (T : Kt X.K X.w X.mg x kvs) (he : PE X e (tD X.K f)) (hg : Gl X x := by rfl) (hd : (x == ("__debug__" : Str)) = false := by decide) (hm : behindInMarks .NotIn (.Name x p) = false := by first | exact nomark _ | rfl) : PE X (.Compare e [.NotIn] [.Name x p] pos) (tD X.K (f1 (gKno kvs) f)) := by
  obtain ⟨d, es, n, m1, m2, m3⟩ := T.ex
  refine pe_imp (pe_cmpR (op_notIn_kd m2) he (pe_glob (v := .ref d) hg m1 rfl hd) hm) fun σ H Q ⟨μ, Hs, ρ, o, s, env, e, k⟩ => ?_
  obtain ⟨d1, e1, e2⟩ := b1_eq e
  refine ⟨μ, Hs, ρ, d1, s, env, e1, fun v H1 Hs1 x1 r1 => ?_⟩
  cases d1 with
  | str z =>
    cases e2
    cases r1
    obtain ⟨t, ht⟩ := m3 z
    refine ⟨z, _, rfl, rfl, ht, ?_⟩
    rw [Option.isSome_map]
    exact k _ H1 Hs1 x1 (.bool _)
  | _ => cases e2
theorem ktt_no (T : Kt X.K X.w X.mg x kvs) (he : PE X e (tD X.K f)) (hg : Gl X x := by rfl) (hd : (x == ("__debug__" : Str)) = false := by decide) (hm : behindInMarks .NotIn (.Name x p) = false := by first | exact nomark _ | rfl) : PT X (.Compare e [.NotIn] [.Name x p] pos) (tDT X.K (ftB (f1 (gKno kvs) f))) := by
  obtain ⟨d, es, n, m1, m2, m3⟩ := T.ex
  refine pt_imp (pt_cmpR (op_notIn_kd m2) he (pe_glob (v := .ref d) hg m1 rfl hd) hm) fun σ H Q ⟨μ, Hs, ρ, b, s, env, e, k⟩ => ?_
  obtain ⟨d0, e0, e2⟩ := b1_eq e
  obtain ⟨d1, e1, e3⟩ := b1_eq e0
  refine ⟨μ, Hs, ρ, d1, s, env, e1, fun v H1 Hs1 x1 r1 => ?_⟩
  cases d1 with
  | str z =>
    cases e3
    cases e2
    cases r1
    obtain ⟨t, ht⟩ := m3 z
    refine ⟨z, _, rfl, rfl, ht, ?_⟩
    rw [Option.isSome_map]
    exact ⟨_, rfl, k _ x1.all⟩
  | _ => cases e3
theorem ix_kt {d : Addr} {es : Array DictEntry} {n : Nat} (D : KDict X.K X.w d es n) : IxR X (fun x y H Q => ∃ (z : Str) (u0 : Value) (v0 : V), x = .ref d ∧ y = .str z ∧ PySem.W.nsIn X.K d z = some (some u0) ∧ RelV v0 u0 ∧ Q v0 H) := by
  intro value slice pins s σ H x y v u Q I rx ry h hs
  obtain ⟨z, u0, v0, rfl, rfl, e, r, q⟩ := h
  obtain ⟨t, rfl⟩ := ry
  cases rx
  have hmp := PySem.W.mapOf_K (prog := X.prog) I.kIn D.at_ D.lit
  exact tail_any hmp.typeIs slot_dict_getitem.lookup (wpAny_getItem_of (PySem.strKind_is X.prog X.w z t) hmp (PySem.W.find_K D.at_ e) ⟨v0, H, I.tok _, r, q⟩) hs
theorem kt_ix (T : Kt X.K X.w X.mg x kvs) (he : PE X e (tD X.K f)) (hg : Gl X x := by rfl) (hd : (x == ("__debug__" : Str)) = false := by decide) (hs : PlainIx e := by exact fun _ _ => rfl) : PE X (.Subscript (.Name x p) e pos) (tD X.K (f1 (gKix kvs) f)) := by
  obtain ⟨d, es, n, m1, m2, m3⟩ := T.ex
  refine pe_imp (pe_ix (ix_kt m2) (pe_glob (v := .ref d) hg m1 rfl hd) he hs) fun σ H Q ⟨μ, Hs, ρ, o, s, env, e, k⟩ => ?_
  obtain ⟨d1, e1, e2⟩ := b1_eq e
  refine ⟨μ, Hs, ρ, d1, s, env, e1, fun v H1 Hs1 x1 r1 => ?_⟩
  cases d1 with
  | str z =>
    cases r1
    obtain ⟨t, ht⟩ := m3 z
    have e3 : (kvs.lookup z).map D.str = some o := e2
    cases q : kvs.lookup z with
    | none => rw [q] at e3; cases e3
    | some u =>
      rw [q] at e3 ht
      cases e3
      exact ⟨z, _, .str u, rfl, rfl, ht, ⟨t, rfl⟩, k _ H1 Hs1 x1 (.str _)⟩
  | _ => cases e2
end
end Pd

/-! Zl2: a text some times; statements never reached. -/
namespace Pd
open PySem PySem.Spec L2 SkE
open PyProof.Rows hiding St
def repS (z : Str) (k : Int) : Str := ⟨(List.replicate k.toNat z.cps).foldl (· ++ ·) #[]⟩
def rSM : R2 := fun x y H Q => ∃ (z : Str) (k : Int), x = .str z ∧ y = .int k ∧ (z.length ≤ 100 ∧ 0 ≤ k ∧ k ≤ 100000) ∧ Q (.str (repS z k)) H
theorem op_strmul {X : Cx} : OpR X (binaryOp .Mult) rSM := by
  intro pins s σ H x y v u Q I rx ry h
  obtain ⟨z, k, rfl, rfl, ⟨h1, h2, h3⟩, q⟩ := h
  obtain ⟨t, rfl⟩ := rx
  obtain ⟨t', rfl⟩ := ry
  have zl : z.length * k.toNat ≤ 10000000 := by
    have : k.toNat ≤ 100000 := by omega
    exact Nat.le_trans (Nat.mul_le_mul h1 this) (by decide)
  refine PySem.P.mul_str (by rw [decide_eq_false (by omega), decide_eq_false (by omega)]; rfl) (fun hk _ hg => ?_) (fun hk _ => ?_) ?_
  · have h4 : (100 : Int) ≤ (2 ^ 63 - 1) / k := (Int.le_ediv_iff_mul_le (by omega)).mpr (by omega)
    omega
  · show decide (z.length * k.toNat > sizeLine) = false
    rw [decide_eq_false]
    rw [sizeLine_eq]
    omega
  · by_cases hk : k < 1
    · rw [if_pos hk]
      have : k = 0 := by omega
      subst this
      exact ⟨by decide, .str (repS z 0), H, I.tok _, ⟨_, rfl⟩, q⟩
    · rw [if_neg hk]
      split
      · rename_i h5
        rw [Bool.or_eq_true] at h5
        refine ⟨.str (repS z k), H, I, ⟨t, ?_⟩, q⟩
        rcases h5 with h5 | h5
        · have : k = 1 := by simpa using h5
          subst this
          show Value.str z t = Value.str ⟨#[] ++ z.cps⟩ t
          rw [Array.empty_append]
        · have h6 : z.cps.size = 0 := by simpa [Str.length] using h5
          have h7 : z.cps = #[] := Array.eq_empty_of_size_eq_zero h6
          have h8 : ∀ n : Nat, (List.replicate n (#[] : Array Nat)).foldl (· ++ ·) #[] = #[] := fun n => by
            induction n with
            | zero => rfl
            | succ n ih => rw [List.replicate_succ, List.foldl_cons]; exact ih
          show Value.str z t = Value.str ⟨(List.replicate k.toNat z.cps).foldl (· ++ ·) #[]⟩ t
          rw [h7, h8, ← h7]
      · have h9 : (repS z k).length = z.length * k.toNat := by
          have h8 : ∀ (n : Nat) (acc : Array Nat), ((List.replicate n z.cps).foldl (· ++ ·) acc).size = acc.size + n * z.cps.size := fun n => by
            induction n with
            | zero => intro acc; simp
            | succ n ih => intro acc; rw [List.replicate_succ, List.foldl_cons, ih, Array.size_append, Nat.succ_mul]; omega
          show ((List.replicate k.toNat z.cps).foldl (· ++ ·) #[]).size = z.cps.size * k.toNat
          rw [h8, Nat.mul_comm]
          simp
        refine ⟨?_, .str (repS z k), H, I.tok _, ⟨_, rfl⟩, q⟩
        show (repS z k).length ≤ sizeLine
        rw [h9, sizeLine_eq]
        omega
/-- a text some times -/
def gMulS : D → D → Option D
  | .str z, .int k => if z.length ≤ 100 ∧ 0 ≤ k ∧ k ≤ 100000 then some (.str (repS z k)) else none
  | _, _ => none
theorem imp_mulS {K : PySem.W.Frag} : Imp2 K rSM gMulS := by
  intro μ H Hs x y d e o Q s rx ry g k
  cases rx with
  | str z =>
    cases ry with
    | int i =>
      obtain ⟨h, rfl⟩ := ite_some g
      exact ⟨z, i, rfl, rfl, h, k _ H Hs (Ext.refl s) (.str _)⟩
    | _ => exact nomatch g
  | _ => exact nomatch g
/-- an entry of a dict of texts -/
def dEnt (q : Int × Str × Tok × Str × Tok) : DictEntry := ⟨q.1, .str q.2.1 q.2.2.1, .str q.2.2.2.1 q.2.2.2.2⟩
theorem find_ent (z : Str) : ∀ l : List (Int × Str × Tok × Str × Tok), ∃ t, ((l.map dEnt).find? (·.key.isStr z)).map (·.val) = ((l.map fun q => (q.2.1, q.2.2.2.1)).lookup z).map fun v => Value.str v t
  | [] => ⟨0, rfl⟩
  | q :: l => by
    rw [List.map_cons, List.map_cons, List.find?_cons, List.lookup_cons]
    have e : (dEnt q).key.isStr z = (z == q.2.1) := by
      show (q.2.1 == z) = (z == q.2.1)
      rw [Bool.eq_iff_iff, beq_iff_eq, beq_iff_eq]
      exact ⟨Eq.symm, Eq.symm⟩
    rw [e]
    cases h : z == q.2.1 with
    | true => exact ⟨q.2.2.2.2, rfl⟩
    | false => exact find_ent z l
theorem kt_of {K : PySem.W.Frag} {d : Addr} {n : Nat} {l : List (Int × Str × Tok × Str × Tok)} (hl : K.lookup d = some ⟨.type "dict", none, .dict (l.map dEnt).toArray n, #[]⟩) :
    ∀ z, ∃ t, PySem.W.nsIn K d z = some (((l.map fun q => (q.2.1, q.2.2.2.1)).lookup z).map fun v => Value.str v t) := fun z => by
  obtain ⟨t, h⟩ := find_ent z l
  refine ⟨t, ?_⟩
  unfold PySem.W.nsIn
  rw [hl]
  dsimp only
  have nr : (l.map dEnt).any (·.refKey) = false := by
    rw [List.any_eq_false]
    intro e he
    obtain ⟨q, _, rfl⟩ := List.mem_map.mp he
    exact Bool.false_ne_true
  rw [← h]
  cases q : (l.map dEnt).find? (·.key.isStr z) with
  | none => rw [nr]; rfl
  | some e => rfl
/-- never reached -/
def gNo : SG := fun _ _ => none
def noG : Gs := fun _ => none
theorem pg_never {X : Cx} {μ : List Addr} {Hs0 H0 : Hp} {st : Stmt} : PS X st (tS X.K μ Hs0 H0 noG) := ps_imp ps_never fun Dn σ H ⟨Hs, ρ, fl, S, e, k⟩ => nomatch e
theorem sg_never {X : Cx} {W : WX} {st : Stmt} : PS X st (tG X.K X.mg W gNo) := ps_imp ps_never fun Dn σ H ⟨μ, Hs, ρ, S, fl, S1, s, env, e, k⟩ => nomatch e
def st2L (i j : Nat) : D → Rho → Option Rho := fun d ρ => match d with
  | .lst [d1, d2] => some ((ρ.set i (.val d1)).set j (.val d2))
  | _ => none
theorem tg_2L {K : PySem.W.Frag} (i j : Nat) : TgD K (gLst K 2 (gCons (gName i) (gCons (gName j) L2.gNil))) (st2L i j) [i, j] := by
  have ne : ∀ {m : Nat}, m ∉ [i, j] → m ≠ i ∧ m ≠ j := fun hm => by simpa using hm
  refine ⟨fun μ Hs H σ ρ d ρ' v k s env e r kk => ?_, fun d ρ ρ' e m hm => ?_, fun d ρ ρ' e m x hm hx => ?_⟩ <;> unfold st2L at e <;> split at e
  · cases e
    cases r with
    | lst h1 h2 =>
      obtain ⟨v1, v2, rfl, r1, r2⟩ := rpa2 h2
      refine ⟨_, _, rfl, SqL.of (s _ _ h1), rfl, v1, [v2], rfl, v2, [], rfl, rfl, kk _ (paired_set ⟨v2, rfl, r2⟩ j (paired_set ⟨v1, rfl, r1⟩ i env)) (by simp) fun m hm => ?_⟩
      rw [get_set_ne' (ne hm).2, get_set_ne' (ne hm).1]
  · cases e
  · cases e
    rw [get_set_ne' (ne hm).2, get_set_ne' (ne hm).1]
  · cases e
  · cases e
    rcases get_set_val hx with h | h
    · exact .inl h
    · exact get_set_val h
  · cases e
theorem hv_2L (i j : Nat) : ∀ d ρ ρ' m ds, st2L i j d ρ = some ρ' → m ∈ [i, j] → ρ'[m]? ≠ some (.own ds) := fun d ρ ρ' m ds e hm => by
  unfold st2L at e
  split at e
  · cases e
    simp only [List.mem_cons, List.not_mem_nil, or_false] at hm
    rcases hm with rfl | rfl
    · exact set_val_no set_val_self
    · exact set_val_self
  · cases e
theorem w_asg2L {ρ : Rho} {f : F} {Q : Fl → Prop} {i j : Nat} {a b : D} (h1 : f ρ = some (.lst [a, b])) (h : Q (.nx ((ρ.set i (.val a)).set j (.val b)))) : W (asgG (st2L i j) f) ρ Q := ⟨_, by unfold asgG evG; rw [h1]; rfl, h⟩
end Pd

/-! Zl3: str.replace of written texts, once; displays in which a token is out. -/
namespace Zl
open PySem Builtin Builtin.Str
/-- the first y of x becomes z -/
def rep1 (x y z : Str) : Str := if ((occurrences x y 0 x.length 1).isEmpty || (y.length == 0 && z.length == 0)) = true then x else glued z (partsBetween x (occurrences x y 0 x.length 1) y.length)
theorem gives_rep1 (x y z : Str) (t u v tn : Tok) (h0 : (u == 0 || v == 0) = false) (h1 : (u == v) = false) (h2 : (y == z) = false) (h3 : tooLong (x.length + (occurrences x y 0 x.length 1).length * z.length) = false) :
    Gives («str.replace» ⟨[.str x t, .str y u, .str z v, .int 1 tn], []⟩) (if ((occurrences x y 0 x.length 1).isEmpty || (y.length == 0 && z.length == 0)) = true then .val (.str x t) else .str (glued z (partsBetween x (occurrences x y 0 x.length 1) y.length))) := by
  show Gives (if ((occurrences x y 0 x.length 1).isEmpty || (y.length == 0 && z.length == 0)) = true then (do rule "str.replace.nothing"; ret (.str x t)) else
    (do let same ← isSame (.str y u) (.str z v); if same = true then (do rule "str.replace.old-is-new"; ret (.str x t)) else if tooLong (x.length + (occurrences x y 0 x.length 1).length * z.length) = true then unsupported "str.replace:memory" else retStr (glued z (partsBetween x (occurrences x y 0 x.length 1) y.length)))) _
  cases hc : ((occurrences x y 0 x.length 1).isEmpty || (y.length == 0 && z.length == 0))
  · rw [isSame_str_other y z u v h0 h1 h2, h3]
    exact .of_eq rfl
  · exact .rule (.of_eq rfl)
theorem call_rep1 {prog : Program} {w : World} {A : Around} {E : Value → Shared → Prop} {s : Shared} {x y z : Str} {t u v tn : Tok} {Q : Value → Shared → Prop}
    (hu : u ≠ 0) (hv : v ≠ 0) (huv : u ≠ v) (hyz : (y == z) = false) (h3 : tooLong (x.length + (occurrences x y 0 x.length 1).length * z.length) = false) (hb : (rep1 x y z).length ≤ sizeLine)
    (hq : ∀ t' k, Q (.str (rep1 x y z) t') { s with toks := k }) : wpAny (model prog w) A (call (.builtin "str.replace") [.str x t, .str y u, .str z v, .int 1 tn]) Q E s := by
  refine call_gives F.slot_str_replace (typeIs_str _ _ _) F.entry_str_replace (F.args_str_replace_4 _ _ _ _)
    (gives_rep1 x y z t u v tn (by simp [hu, hv]) (by simp [huv]) hyz h3) ?_
  have hq' := hq
  unfold rep1 at hq' hb
  cases hc : ((occurrences x y 0 x.length 1).isEmpty || (y.length == 0 && z.length == 0))
  · rw [hc] at hq' hb
    simp only [Bool.false_eq_true, if_false] at hq' hb ⊢
    exact ⟨hb, hq' _ _⟩
  · rw [hc] at hq'
    simp only [if_true] at hq' ⊢
    exact hq' t s.toks
section
variable {prog : Program} {w : World} {A : Around} {E : Value → Shared → Prop} {s : Shared} {env : Env}
theorem Call_method3 {o e1 e2 e3 : Expr} {name : Str} {apos pos : Pos} {Q : Value → Shared → Prop}
    (hbase : attributeBase o name env (eval o env) = eval o env) (hs : starEach [e1, e2, e3] env = [(false, eval e1 env), (false, eval e2 env), (false, eval e3 env)]) (hline : (apos.endLine == pos.line) = true)
    (h : wpAny (model prog w) A (eval o env) (fun ov s₁ => MethodOnS prog w A E name ov pos [(false, eval e1 env), (false, eval e2 env), (false, eval e3 env)] Q s₁) E s) :
    wpAny (model prog w) A (eval (.Call (.Attribute o name apos) [e1, e2, e3] [] pos) env) Q E s := by
  refine wpAny_Call_method_lateS hbase (by rw [hs]; rfl) hline ?_
  rw [hs]; exact h
end
end Zl
namespace Pd
open PySem PySem.Spec L2 CwR
open PyProof.Rows hiding St
def gRep1 (y z : Str) : D → Option D
  | .str x => if Builtin.Str.tooLong (x.length + (Builtin.Str.occurrences x y 0 x.length 1).length * z.length) = false ∧ (Zl.rep1 x y z).length ≤ sizeLine then some (.str (Zl.rep1 x y z)) else none
  | _ => none
section
variable {X : Cx} {o e b : Expr} {es : List Expr} {f g : F} {fs : Fs} {x y z : Str} {j k m : Nat} {c0 c1 c2 apos pos p : Pos} {te : TE} {ta : TA}
/-- a token is out behind it -/
def PEk (X : Cx) (e : Expr) (t : TE) : Prop := ∀ (pins : List (Addr × Obj)) (s : Shared) (σ : St) (H : Hp) (Q : VK), Inv X pins σ H s → t σ H Q → wpAny (model X.prog X.w) X.A (eval e X.env) (fun v s1 => 1 ≤ s1.toks ∧ EP X pins σ Q v s1) X.xe s
theorem pek_imp {t' : TE} (h : PEk X e te) (i : ∀ σ H Q, t' σ H Q → te σ H Q) : PEk X e t' := fun pins s σ H Q I q => h pins s σ H Q I (i _ _ _ q)
theorem pet_imp {t' : TE} (h : PET X e te) (i : ∀ σ H Q, t' σ H Q → te σ H Q) : PET X e t' := fun pins s σ H Q h0 I q => h pins s σ H Q h0 I (i _ _ _ q)
theorem pat_imp {t' : TA} (h : PAT X es ta) (i : ∀ σ H Q, t' σ H Q → ta σ H Q) : PAT X es t' := fun pos pins s σ H Q h0 I q => h pos pins s σ H Q h0 I (i _ _ _ q)
theorem pek_op {op : Operator} {r : R2} {G : D → D → Option D} (ho : OpR X (binaryOp op) r) (hG : Imp2 X.K r G) (hb : PE X b (tD X.K g)) : PEk X (.BinOp (.Constant (.str x) j p) op b pos) (tD X.K (f2 G (fC (.str x)) g)) := by
  refine pek_imp (te := tOp r (tD X.K (fC (.str x))) (tD X.K g)) (fun pins s σ H Q I h => ?_) (tD_2 hG)
  obtain ⟨μ, Hs, ρ, d, sm, env, e, kk⟩ := h
  cases e
  have h2 := kk (.str x) H Hs (Ext.refl sm) (.str x)
  refine wpAny_BinOp (Calls.Constant_str ?_)
  have h3 := PySem.wpAny_toks_of (n := 1) (show 1 ≤ ({ s with toks := s.toks + 1 } : Shared).toks by show 1 ≤ s.toks + 1; omega) (hb.run pins { s with toks := s.toks + 1 } σ H _ (I.tok _) h2)
  refine wpAny_mono h3 (fun u s2 q => ?_) fun _ _ z => z.2
  obtain ⟨hk, w, H2, I2, r2, q2⟩ := q
  exact wpAny_mono (PySem.wpAny_toks_of hk (ho pins s2 σ H2 (.str x) w _ u Q I2 ⟨_, rfl⟩ r2 q2)) (fun _ _ z => z) fun _ _ z => z.2
theorem pa_consk (ha : PEk X e te) (hr : PAT X es ta) (hs : starEach (e :: es) X.env = (false, eval e X.env) :: starEach es X.env := by rfl) : PA X (e :: es) (tCons te ta) := by
  refine ⟨fun pos pins s σ H Q I h => ?_⟩
  rw [hs]
  show wpAny _ _ (spliced ((false, eval e X.env) :: backTo pos (starEach es X.env))) _ _ s
  refine Calls.spliced_cons (wpAny_mono (ha pins s σ H _ I h) (fun v s1 q => ?_) fun _ _ z => z)
  obtain ⟨hk, x, H1, I1, r1, q1⟩ := q
  exact thn (hr pos pins s1 σ H1 _ hk I1 q1) fun us s2 ⟨xs, H2, I2, r2, q2⟩ => ⟨x :: xs, H2, I2, .cons r1 r2, q2⟩
theorem pet_rep1 (ho : PE X o (tD X.K f)) (hyz : (y == z) = false := by decide)
    (hst : starEach [.Constant (.str y) j c0, .Constant (.str z) k c1, .Constant (.int 1) m c2] X.env = [(false, eval (.Constant (.str y) j c0) X.env), (false, eval (.Constant (.str z) k c1) X.env), (false, eval (.Constant (.int 1) m c2) X.env)] := by rfl)
    (hbase : attributeBase o "replace" X.env (eval o X.env) = eval o X.env := by rfl) (hline : (apos.endLine == pos.line) = true := by rfl) :
    PET X (.Call (.Attribute o "replace" apos) [.Constant (.str y) j c0, .Constant (.str z) k c1, .Constant (.int 1) m c2] [] pos) (tD X.K (f1 (gRep1 y z) f)) := by
  rintro pins s σ H Q h0 I ⟨μ, Hs, ρ, d, sm, env, e, kk⟩
  obtain ⟨d1, e1, e2⟩ := b1_eq e
  refine Zl.Call_method3 hbase hst hline (wpAny_mono (PySem.wpAny_toks (ho.run pins s σ H (fun v H1 => ∃ Hs1, Ext Hs H Hs1 H1 ∧ Rp X.K μ Hs1 v d1) I ⟨μ, Hs, ρ, d1, sm, env, e1, fun v H1 Hs1 x1 r1 => ⟨Hs1, x1, r1⟩⟩)) (fun v s1 q => ?_) fun _ _ z => z.2)
  obtain ⟨hk, v', H1, I1, r1, Hs1, x1, rp⟩ := q
  cases rp with
  | str x =>
    obtain ⟨⟨hl, hb⟩, e3⟩ := ite_some (show (if Builtin.Str.tooLong (x.length + (Builtin.Str.occurrences x y 0 x.length 1).length * z.length) = false ∧ (Zl.rep1 x y z).length ≤ sizeLine then some (D.str (Zl.rep1 x y z)) else none) = some d from e2)
    subst e3
    obtain ⟨tx, e4⟩ := r1
    subst e4
    refine ⟨"str", _, PySem.F.plainAttrs_str, PySem.F.slot_str_replace, PySem.F.type_str_replace, typeIs_str _ _ _, (fun _ e => nomatch e), Calls.callWith_builtin rfl (Calls.evalArgs_plain (Calls.spliced_cons ?_))⟩
    refine Calls.Constant_str (Calls.spliced_cons (Calls.Constant_str (Calls.spliced_cons (wpAny_Constant_int (Calls.spliced_nil ?_)))))
    exact Zl.call_rep1 (by show s1.toks ≠ 0; omega) (by show s1.toks + 1 ≠ 0; omega) (by show s1.toks ≠ s1.toks + 1; omega) hyz hl hb fun t' k => ⟨.str (Zl.rep1 x y z), H1, I1.tok k, ⟨t', rfl⟩, kk _ _ _ x1 (.str _)⟩
  | _ => exact nomatch e2
end
section
variable {X : Cx} {W : WX} {e : Expr} {es : List Expr}
theorem imp_pure {f : F} : ∀ σ H Q, tM X.K X.mg W (mP f) σ H Q → tD X.K f σ H Q := by
  rintro σ H Q ⟨μ, Hs, ρ, S, r, S1, s, env, e, P⟩
  obtain ⟨d, e1, e2⟩ := b1_eq e
  cases e2
  exact ⟨μ, Hs, ρ, d, s.sub, env, e1, fun v H' Hs' x r => P μ Hs' H' (Gr.part x.part) (s.ext x) v r⟩
theorem pek_pure {f : F} (h : PEk X e (tD X.K f)) : PEk X e (tM X.K X.mg W (mP f)) := pek_imp h imp_pure
theorem pet_pure {f : F} (h : PET X e (tD X.K f)) : PET X e (tM X.K X.mg W (mP f)) := pet_imp h imp_pure
theorem imp_consM {f : SF} {fs : SFs} : ∀ σ H Q, tMs X.K X.mg W (mCons f fs) σ H Q → tCons (tM X.K X.mg W f) (tMs X.K X.mg W fs) σ H Q := by
  rintro σ H Q ⟨μ, Hs, ρ, S, r, S1, s, env, e, P⟩
  obtain ⟨q, S2, e1, P1⟩ := post_bind e P
  refine ⟨μ, Hs, ρ, S, q, S2, s, env, e1, P1.imp fun d μ' Hs' H' g s' ⟨_, _, e2, P2⟩ v rv => ?_⟩
  obtain ⟨q2, S3, e3, P3⟩ := post_bind e2 P2
  refine ⟨μ', Hs', ρ, S2, q2, S3, s', env.gr g, e3, P3.imp fun ds μ2 Hs2 H2 g2 s2 ⟨_, _, e4, P4⟩ vs rvs => ?_⟩
  cases e4
  exact P4 μ2 Hs2 H2 (Gr.refl _ _) s2 (v :: vs) (.cons (rv.gr g2) rvs)
theorem s_consk {f : SF} {fs : SFs} (he : PEk X e (tM X.K X.mg W f)) (ht : PAT X es (tMs X.K X.mg W fs)) (hs : starEach (e :: es) X.env = (false, eval e X.env) :: starEach es X.env := by rfl) : PA X (e :: es) (tMs X.K X.mg W (mCons f fs)) :=
  pa_imp (pa_consk he ht hs) imp_consM
theorem s_consT {f : SF} {fs : SFs} (he : PET X e (tM X.K X.mg W f)) (ht : PAT X es (tMs X.K X.mg W fs)) (hs : starEach (e :: es) X.env = (false, eval e X.env) :: starEach es X.env := by rfl) : PAT X (e :: es) (tMs X.K X.mg W (mCons f fs)) :=
  pat_imp (pat_cons he ht hs) imp_consM
theorem s_nilT : PAT X [] (tMs X.K X.mg W mNil) := fun pos pins s σ H Q _ I q => s_nil.run pos pins s σ H Q I q
end
section
variable {X : Cx} {e : Expr} {es : List Expr} {f : F} {fs : Fs}
theorem imp_consD : ∀ σ H Q, tDs X.K (fCons f fs) σ H Q → tCons (tD X.K f) (tDs X.K fs) σ H Q := by
  rintro σ H Q ⟨μ, Hs, ρ, d, s, env, e, k⟩
  obtain ⟨d1, e1, e2⟩ := b1_eq e
  obtain ⟨d2, e3, e4⟩ := b1_eq e2
  cases e4
  refine ⟨μ, Hs, ρ, d1, s, env, e1, fun v H1 Hs1 x1 r1 => ⟨μ, Hs1, ρ, d2, x1.sub, env.mono x1.part, e3, fun u H2 Hs2 x2 r2 => ?_⟩⟩
  exact k _ H2 Hs2 (x1.trans x2) (.cons (r1.mono x2.part) r2)
theorem pda_consk (he : PEk X e (tD X.K f)) (ht : PAT X es (tDs X.K fs)) (hs : starEach (e :: es) X.env = (false, eval e X.env) :: starEach es X.env := by rfl) : PA X (e :: es) (tDs X.K (fCons f fs)) := pa_imp (pa_consk he ht hs) imp_consD
theorem pda_consT (he : PET X e (tD X.K f)) (ht : PAT X es (tDs X.K fs)) (hs : starEach (e :: es) X.env = (false, eval e X.env) :: starEach es X.env := by rfl) : PAT X (e :: es) (tDs X.K (fCons f fs)) := pat_imp (pat_cons he ht hs) imp_consD
theorem pda_nilT : PAT X [] (tDs X.K fNil) := fun pos pins s σ H Q _ I q => pda_nil.run pos pins s σ H Q I q
end
end Pd
namespace Pd
open PySem PySem.Spec L2 SkE
open PyProof.Rows hiding St
theorem v_iL {ρ : Rho} {S : Store} {E : Exn → Store → Prop} {f : SF} {Qi : List D × (Store → Prop) → Store → Prop} (h : Ev (f ρ S) (fun d S1 => ∃ n ds, d = .loc n ∧ S1[n]? = some (.lst ds) ∧ Qi (ds, fun S => S[n]? = some (.lst ds)) S1) E) : Ev (miL f ρ S) Qi E :=
  ev_sb (h.mono (fun d S1 ⟨n, ds, e1, h1, q⟩ => by
    subst e1
    rw [ls_at h1]
    exact q) fun _ _ e => e)
theorem cutL_to (xs : List D) (k : Nat) (hk : k ≤ xs.length) : gSl (.lst xs) none (some (k : Int)) = some (.lst (xs.take k)) := by
  show some (D.lst (Pd.cutD xs none (some (k : Int)))) = _
  congr 2
  unfold Pd.cutD
  rw [HT.sIx_none, HT.sIx_nat, Nat.min_eq_left hk, List.drop_zero, Nat.sub_zero]
theorem x_rep1 {x y z : Str} (h1 : (Builtin.Str.occurrences x y 0 x.length 1).length = 1) (h2 : x.length + z.length ≤ 10000000) (h3 : (Zl.rep1 x y z).length ≤ 10000000) : gRep1 y z (.str x) = some (.str (Zl.rep1 x y z)) := by
  refine if_pos ⟨?_, ?_⟩
  · rw [h1, Nat.one_mul]
    unfold Builtin.Str.tooLong
    rw [sizeLine_eq]
    exact decide_eq_false (by omega)
  · rw [sizeLine_eq]
    omega
end Pd
namespace Pd
open PySem PySem.Spec L2 SkE
open PyProof.Rows hiding St
/-- x = [.. for ..] on one line, over data, in a def over a store -/
theorem sg_asgLc {X : Cx} {W : WX} {tg elt iter : Expr} {ifs : List Expr} {fi : Fs} {fe : F} {ft : Ft} {pos spos : Pos} (i : Nat) {y : Str} {py : Pos} {scope : Scope} {own : List (Str × Nat)} {g : TG} {set : D → Rho → Option Rho} {tt : TT} (hc : X.calm = true) (hN : X.N.Nodup) (hi : PI X tg iter (tDI X.K fi)) (ok : BlkOk X.N X.env.scope scope own) (hg : TgD X.K g set (own.map (·.2)))
    (hpg : ∀ (s : Shared) (H : Hp) (C : Addr) (cl : List (Str × Addr)) (fp : List Addr), PG (X.blk s H scope (compEnvC scope cl C X.env) fp) tg g)
    (ht : ∀ σ H Q, tDT X.K ft σ H Q → tt σ H Q) (hpt : ∀ (s : Shared) (H : Hp) (C : Addr) (cl : List (Str × Addr)) (fp : List Addr), PTs (X.blk s H scope (compEnvC scope cl C X.env) fp) ifs tt)
    (hpe : ∀ (s : Shared) (H : Hp) (C : Addr) (cl : List (Str × Addr)) (fp : List Addr), PE (X.blk s H scope (compEnvC scope cl C X.env) fp) elt (tD X.K fe)) (hs : ∀ x, foldedSetIterable iter X.env x = pure x := by intro _; rfl)
    (hy : X.N[i]? = some y := by rfl) (hyl : X.env.scope.names.lookup y = some .local := by rfl) (hsw : swapsWith (.ListComp elt [⟨tg, iter, ifs, 0⟩] scope pos) (some (.Name y py)) spos.line X.env = pure true := by exact sw_true rfl rfl rfl (by decide +kernel)) :
    PS X (.Assign [.Name y py] (.ListComp elt [⟨tg, iter, ifs, 0⟩] scope pos) spos) (tG X.K X.mg W (gAsg (st1 i) (mP (fLc fi set ft fe (own.map (·.2)))))) := by
  refine ps_imp (ps_setLc (own := own) (g := g) (tt := tt) hc hN hy hyl hsw hi ok hpg hpt hpe hs) fun Dn σ H ⟨μ, Hs, ρ, S, fl, S1, s, env, e, k⟩ => ?_
  obtain ⟨q, S2, e1, P1⟩ := aft_bind env e k
  obtain ⟨d, e2, e3⟩ := b1_eq e1
  cases e3
  refine lc_read (fun _ _ _ h => h) hg ht (fun _ _ _ h => h) _ _ _ ⟨μ, Hs, ρ, d, s.sub, env, e2, fun v H' Hs' x r => ?_⟩
  obtain ⟨s2, g2, env2, e5, P5⟩ := P1 μ Hs' H' (Gr.part x.part) (s.ext x)
  cases e5
  exact P5 (σ.set i (some v)) μ Hs' H' (Gr.refl _ _) s2 (paired_set ⟨v, rfl, r⟩ i env2)
end Pd

/-! Xs0: an error class over ValueError whose __init__ says super().__init__("..") and stores one field. -/
namespace Xs
open PySem PySem.W PySem.Calls PyProof.Rows L2
/-- the wrapper of ValueError.__init__, called -/
theorem call_mw {prog : Program} {w : World} {A : Around} {E : Value → Shared → Prop} {h : Heap} {g : Array GenState} {d : Drawn} {t : Nat} {os : OsState} {nm q : Str} {C N u e t0 : Addr} {bs bm : List Value} {hdct : Bool} {sn : List Str} {sub : List Value} {ab : Bool} {col : Option Bool} {dd : Option Addr} {k0 k1 k2 k3 k5 : Option Value} {rest : List Value} {Q : Value → Shared → Prop}
    (hC : h.get? C = some (excClassObj nm q C N bs bm hdct sn sub ab col dd k0 k1 k2 k3 k5 "ValueError.__new__")) (he : h.get? e = some (excObj C t0 none .none)) (hu : h.get? u = some (kxs_mw "ValueError.__init__" e)) (hz : rest.length ≤ sizeLine)
    (fin : ∀ h' t1, (∀ b o, b ≠ e → h.get? b = some o → h'.get? b = some o) → h'.get? e = some (excObj C t1 none .none) → Q .none ⟨h', g, d, t, os⟩) :
    wpAny (model prog w) A (call (.ref u) rest) Q E ⟨h, g, d, t, os⟩ := by
  refine wpAny_call (codeAny_of_tree ?_)
  show wpAny _ A.in1 (callAny (.ref u) (⟨rest, []⟩ : Args)) _ _ ⟨h, g, d, t, os⟩
  simp only [callAny]
  have y1 : (Value.type "method-wrapper" == Value.type "method" || Value.type "method-wrapper" == Value.type "builtin_function_or_method" || Value.type "method-wrapper" == Value.type "method-wrapper") = true := by decide
  refine wpAny_bind (wpAny_load hu ?_)
  simp only [kxs_mw, y1, if_true]
  refine KFB.if_so (by decide) (wpAny_bind (check_bound_init PySem.F.excBase_ValueError.toExcCallFacts hC he rfl (wpAny_bind (wpAny_pure (wpAny_pure ?_)))))
  exact ⟨plainId_quiet PySem.F.excBase_ValueError.init.plain _, codeAny_builtin PySem.F.excBase_ValueError.initEntry (exc_init_tree (cls := .ref C) (t0 := t0) (dv := none) (c2 := .none) (c3 := .none) (b4 := .bool false) he hz fun h' k e' _ => fin h' _ k e')⟩
/-- what such an __init__ promises -/
def spXi (D : Addr) (fl : Str) : Sp := fun vs H Q _ => ∃ (a : Addr) (y : V), vs = [.ref a, y] ∧ H a = some (exo a D none) ∧ ∀ dx, H dx = none → dx ≠ a → Q .non (upd (upd H dx (exd dx [(fl, y)])) a (exo a D (some dx)))
/-- the class, as the written part has it -/
structure XiC (K : Frag) (D : Addr) (fl : Str) : Prop where
  oex : OexC K D
  sup : ks_superIn K D D "__init__" = some (some (.builtin "ValueError.__init__"))
  ve : subIn K (.ref D) (.type "ValueError") = some true
  self : mroIn K D (.ref D) = some true
  fl : findIn K (.ref D) fl = some none
  opq : nsIn K cStatics "thirdparty.any" = some none
theorem init_ok {P : Program} {w : World} {K : Frag} {mg : Str → Option Value} {base : Heap} {CX : CXT} {k : Nat} {f cc cda D : Addr} {name qual a0 a1 fl msg file : Str} {params : Arguments} {scope : Scope} {dV kV doc pm ct oc ccl cl : Value} {an od cdd cld : Option Addr} {osl ccs csl : Array (Option Value)} {vs2 : Array Value} {tf : Tok} {ar : Arg} {j : Nat} {p0 p1 p2 p3 p4 p5 p6 p7 p8 c0 : Pos}
    (T : XiC K D fl)
    (hcd : codeIn K (.ref cda) qual = true) (hp : (params.posonlyargs ++ params.args).head? = some ar) (har : ar.arg = a0) (hcode : K.lookup cda = some ⟨ccl, cdd, .fields vs2, ccs⟩) (hvs : vs2[2]? = some (.str file tf)) (hfile : ((P.main.file : Str) == file) = true)
    (hcell : K.lookup cc = some ⟨cl, cld, .cell (some (.ref D)), csl⟩) (hsuper : mg "super" = none)
    (hks : scope.names.lookup ("super" : Str) = some .globalImplicit) (hkc : scope.names.lookup ("__class__" : Str) = some .free) (h0 : scope.names.lookup a0 = some .local) (h1 : scope.names.lookup a1 = some .local) (hne : (a0 == a1) = false) (hk : scope.kind = .function)
    (hd0 : (a0 == ("__debug__" : Str)) = false) (hd1 : (a1 == ("__debug__" : Str)) = false) (hncell : ∀ x ∈ scope.names, x.2 ≠ .cell) (hco : scope.isCoroutine = false) (hgen : scope.isGenerator = false)
    {pl : Addr → Sem Bool} {body : List Stmt} (hbody : body = [.Expr (.Call (.Attribute (.Call (.Name "super" p0) [] [] p1) "__init__" p2) [.Constant (.str msg) j c0] [] p3) p4, .Assign [.Attribute (.Name a0 p5) fl p6] (.Name a1 p7) p8])
    (hcall : ∀ L : Addr, eval (.Call (.Attribute (.Call (.Name "super" p0) [] [] p1) "__init__" p2) [.Constant (.str msg) j c0] [] p3) (callEnv (ksFn name qual params body scope dV kV doc pm an (.ref cda) ct cc) L f) = (do
      let ov ← attributeBase (.Call (.Name "super" p0) [] [] p1) "__init__" (callEnv (ksFn name qual params body scope dV kV doc pm an (.ref cda) ct cc) L f) (eval (.Call (.Name "super" p0) [] [] p1) (callEnv (ksFn name qual params body scope dV kV doc pm an (.ref cda) ct cc) L f))
      standAt p2.atName
      let (ff, first) ← holding [ov] (getMethod ov "__init__" (pl L))
      callWith p3 ff first (backTo p3 (starEach [.Constant (.str msg) j c0] (callEnv (ksFn name qual params body scope dV kV doc pm an (.ref cda) ct cc) L f))) []))
    (hint : ∀ L : Addr, interactive (callEnv (ksFn name qual params body scope dV kV doc pm an (.ref cda) ct cc) L f) = false)
    (lk : K.lookup f = some ⟨oc, od, .func (ksFn name qual params body scope dV kV doc pm an (.ref cda) ct cc), osl⟩)
    (htop : (P.main.scope.names.lookup ("super" : Str)).isSome = false) :
    FnOk P w K mg base CX (k + 1) f (ksFn name qual params body scope dV kV doc pm an (.ref cda) ct cc) [a0, a1] (spXi D fl) := by
  refine ⟨fun vs H Q E h => by obtain ⟨a, y, rfl, _⟩ := h; rfl, fun A outer s H args us vs Q E hr e0 hb rv hs => ?_⟩
  obtain ⟨a, y, rfl, ha, hq⟩ := hs
  obtain ⟨nm, q, N, bs, bm, sn, sub, ab, col, dd, k0, k1, k2, k3, k5, hC, hbm⟩ := T.oex.cls
  have hcl : clsIn K D = some { name := nm, bases := bs, mro := .ref D :: bm, ns := N, qualname := q, hasDict := true, slotNames := sn, subclasses := sub, abstract := ab, collection := col, hasDel := false } := by unfold clsIn; rw [hC] <;> rfl
  have KX : K.In s.heap := e0.mod.kin.keeps fun b o e => (e0.bs b o e).1
  have lim : s.heap.NoLimit := e0.mod.nolimit.keeps fun b o e => (e0.bs b o e).1
  obtain ⟨t1, hoe⟩ := exo_at e0.hok ha
  cases rv with
  | @cons _ u0 _ ur ra rt =>
  cases rt with
  | @cons _ u1 _ _ ry rn =>
  cases rn
  obtain rfl : u0 = Value.ref a := ra
  have l0 : (([a0, a1].zip [Value.ref a, u1]).reverse).lookup a0 = some (.ref a) := by
    show [(a1, u1), (a0, Value.ref a)].lookup a0 = _
    simp [List.lookup, hne]
  have l1 : (([a0, a1].zip [Value.ref a, u1]).reverse).lookup a1 = some u1 := by
    show [(a1, u1), (a0, Value.ref a)].lookup a1 = _
    simp [List.lookup]
  refine ks_codeAny_call_defAt hr.depth (KX _ _ lk) rfl lim (codeRec_of KX hcd) rfl hb hncell (fun x hx => ?_) (fun hA hns hkA => ?_) hco hgen hk
  · have hx' : x = (a0, Value.ref a) ∨ x = (a1, u1) := by simpa using hx
    rcases hx' with rfl | rfl
    · exact h0
    · exact h1
  obtain ⟨hp0, g, d, t, os⟩ := s
  have KA : K.In hA := KX.keeps hkA
  have keepA : ∀ b o, base.get? b = some o → hA.get? b = some o := fun b o e => hkA _ _ (e0.bs b o e).1
  have fin : ∀ (h4 : Heap) (tk : Nat) (dx t2 : Addr), (∀ b o, b ≠ a → hp0.get? b = some o → h4.get? b = some o) → (∀ b o, hp0.get? b = some o → b ≠ dx) → H dx = none → dx ≠ a → h4.get? a = some { cls := .ref D, dict := some dx, data := .fields #[.ref t2, .none, .none, .none, .bool false, .none] } → h4.Ns1 dx (fun z => if z = fl then some u1 else none) →
      CR CX outer P w H ⟨hp0, g, d, t, os⟩ Q E (.ok (.ret .none)) ⟨h4, g, d, tk, os⟩ := fun h4 tk dx t2 kp dn hnd dne hx hn => by
    have apart : ∀ {b : Addr}, H b = none → b ≠ a := fun {b} n z => by
      rw [z, ha] at n
      cases n
    have below : ∀ {b : Addr} {o : Obj}, hp0.get? b = some o → b ≠ dx := fun {b o} z => dn b o z
    refine ⟨.non, upd (upd H dx (exd dx [(fl, y)])) a (exo a D (some dx)), rfl, e0.bare, ?_, fun b o z => ?_, rfl, hq dx hnd dne⟩
    · constructor
      · exact fun b o z n _ _ => kp b o (apart n) z
      · exact fun b o z n _ _ => ⟨o.slots, kp b o (apart n) z⟩
      · intro b o z n _
        rw [upd_ne (apart n), upd_ne (below z)]
        exact n
      · intro b o z _
        by_cases hba : b = a
        · subst hba
          exact ⟨_, hx⟩
        · exact ⟨o, kp b o hba z⟩
      · intro b xs z
        rw [upd_ne (at_ne ha z exo_tup), upd_ne (ne_of_none z hnd)]
        exact z
      · intro b o v z
        rw [upd_ne (at_ne ha z exo_frz), upd_ne (ne_of_none z hnd)]
        exact z
      · intro b ps z
        refine ⟨#[], ?_⟩
        rw [upd_ne (at_ne ha z exo_tbl), upd_ne (ne_of_none z hnd), z]
        simp
    · by_cases hba : b = a
      · subst hba
        rw [upd_same] at z
        cases z
        exact exo_ok hx
      · rw [upd_ne hba] at z
        by_cases hbd : b = dx
        · subst hbd
          rw [upd_same] at z
          cases z
          exact exd_ok hn (relO_put (fs := []) ry fun _ => True.intro)
        · rw [upd_ne hbd] at z
          have own : ∀ {c : Addr}, H c = some (.own b) → c ≠ a := fun {c} hc => at_ne ha hc exo_own
          refine (e0.hok b o z).stay (fun c v hc => kp c v ?_) (fun c hc => ?_) fun c xs hc => ?_
          · rcases hc with rfl | hc
            · exact hba
            · exact own hc
          · rw [upd_ne (own hc), upd_ne (ne_of_none hc hnd)]
            exact hc
          · rw [upd_ne (at_ne ha hc exo_tup), upd_ne (ne_of_none hc hnd)]
            exact hc
  obtain ⟨mb, hmb, hmb2⟩ := e0.mod.blt
  have neL : hp0.objs.size ≠ a := Nat.ne_of_gt (Heap.lt_size hoe)
  show PySem.wpAt _ _ _ (execs body _) _ _ _
  have hex : ∀ env, execs body env = execs [.Expr (.Call (.Attribute (.Call (.Name "super" p0) [] [] p1) "__init__" p2) [.Constant (.str msg) j c0] [] p3) p4, .Assign [.Attribute (.Name a0 p5) fl p6] (.Name a1 p7) p8] env := fun env => by rw [hbody]
  rw [hex]
  refine ks_wpAt_execs_cons (ks_wpAt_Expr_any (hi := hint _) (ks_wpAt_MethodCall (he := hcall _) (ks_wpAt_super_base hks hkc (by decide) rfl (KA _ _ lk) rfl hp rfl (KA _ _ hcode) rfl hvs hfile htop ?_)))
  refine ks_loadName_global hk hks (loadGlobal_builtin (e0.mod.glob.keeps keepA) hsuper (hmb.keeps keepA) ((hmb2 _ (by decide +kernel)).trans (by decide +kernel)) ⟨rfl, ?_⟩)
  refine wpAny_loadName_free hk hkc rfl ⟨_, KA _ _ hcell, rfl⟩ ?_
  refine wpAny_loadName_local hk (by rw [har]; exact h0) hns (by rw [har]; exact l0) ?_
  refine ks_wpAny_isType_cls (KA _ _ hC) rfl ⟨rfl, ?_⟩
  refine ks_wpAny_call_super (KA _ _ hC) rfl (hkA _ _ hoe) rfl (fun c e => nomatch e) (looks_mroIn KA T.self) (fun h2 e2 kk2 => ?_)
  have K2 := KA.keeps kk2
  have I2 : InstAt h2 a { cls := .ref D, dict := none, data := .fields #[.ref t1, .none, .none, .none, .bool false, .none] } D none := ⟨kk2 _ _ (hkA _ _ hoe), rfl, rfl, trivial⟩
  have hm := T.sup
  unfold ks_superIn at hm
  rw [hcl] at hm
  refine kxs_getMethod kxs_ValueError e2 (looks_opaque K2 T.opq) (l₀ := .ref D :: bm) (fun A Q E s k q => wpAny_bind ((looks_clsIn K2 hcl) A _ E s k (wpAny_pure q))) rfl K2 hm (I2.type.andThen (looks_subIn K2 T.ve)) (ks_ne K2 I2 hcl) (by decide) ?_
  have kk3 : ∀ b o, h2.get? b = some o → (h2.push (kxs_mw "ValueError.__init__" a)).get? b = some o := fun b o e => Heap.get?_push_of_some _ e
  have hu : (h2.push (kxs_mw "ValueError.__init__" a)).get? h2.objs.size = some (kxs_mw "ValueError.__init__" a) := Heap.get?_push_at rfl rfl
  refine kxs_callWith (i := "ValueError.__init__") (x := a) rfl (evalArgs_plain (Calls.spliced_cons (Calls.Constant_str (k := j) (pos := c0) (Calls.spliced_nil ⟨hu, ?_⟩))))
  refine call_mw (kk3 _ _ (K2 _ _ hC)) (kk3 _ _ I2.at_) hu (by show 1 ≤ sizeLine; decide) (fun h3 t2 k3' hx3 => ?_)
  have kk : ∀ b o, b ≠ a → hA.get? b = some o → h3.get? b = some o := fun b o hb e => k3' b o hb (kk3 b o (kk2 b o e))
  have K3 : K.In h3 := fun b o z => kk b o (fun e => by
    have n := (e0.bs _ _ (e0.mod.kin b o z)).2
    rw [e, ha] at n
    cases n) (KA b o z)
  obtain ⟨oL, es, ep, hL, hr3⟩ := hns
  have ns3 : h3.Ns hp0.objs.size (fun z => ([a0, a1].zip [Value.ref a, u1]).reverse.lookup z) := ⟨oL, es, ep, kk _ _ neL hL, hr3⟩
  refine ks_wpAt_execs_cons (PySem.wpAt_of_wpAny (plainObj_wpAny_Assign_Attribute (wpAny_Name (wpAny_loadName_local hk h1 ns3 l1 ?_) hd1)))
  refine wpAny_Name (wpAny_loadName_local hk h0 ns3 l0 ?_) hd0
  refine set_plain K3 (ox := { cls := .ref D, dict := none, data := .fields #[.ref t2, .none, .none, .none, .bool false, .none] }) (od := none) ⟨hx3, rfl, rfl, trivial⟩ T.oex.sa ?_
  refine PySem.HandSPX.exc_osa K3 hx3 hcl (show PySem.HandSPX.refsVE (.ref D :: bm) = true from hbm) rfl T.fl (fun h4 tk' dx k4 dn dne hx4 hn4 => ?_)
  refine PySem.wpAt_of_wpAny (wpAny_execs_nil ?_)
  have dn' : h3.objs.size ≤ dx := dn
  refine fin h4 tk' dx t2 (fun b o hb z => k4 b o hb (kk b o hb (hkA b o z))) (fun b o z e => ?_) ?_ dne hx4 hn4
  · by_cases hba : b = a
    · exact dne (e.symm.trans hba)
    · have hlt := Heap.lt_size (kk b o hba (hkA b o z))
      rw [e] at hlt
      exact absurd (Nat.lt_of_lt_of_le hlt dn') (Nat.lt_irrefl _)
  · cases z : H dx with
    | none => rfl
    | some u =>
      have hlt := ((e0.hok dx u z).stay (h' := h3) (H' := H) (fun b v hc q => kk b v (by
        rcases hc with rfl | hc
        · exact dne
        · exact at_ne ha hc exo_own) (hkA b v q)) (fun _ q => q) fun _ _ q => q).lt
      exact absurd (Nat.lt_of_lt_of_le hlt dn') (Nat.lt_irrefl _)
end Xs

/-! Xs1: errors with a field: raised, asked for their class, their field read. -/
namespace Xs
open PySem PySem.W PySem.Spec PySem.Calls PyProof.Rows L2
section
variable {prog : Program} {w : World} {A : Around} {E : Value → Shared → Prop} {s : Shared} {K : Frag} {x D : Addr} {ox : Obj} {od : Option Obj}
theorem cls_some (C : ExcC K D) : ∃ cd, clsIn K D = some cd := by
  obtain ⟨cd, hc, _⟩ := any_some C.hd
  exact ⟨cd, hc⟩
theorem own_class {Q : Option Value → Shared → Prop} (C : ExcC K D) (kin : K.In s.heap) (inst : InstAt s.heap x ox D od) (fin : Q (some (.ref D)) { s with toks := s.toks + 1 }) : wpAny (model prog w) A (getAttr? (.ref x) "__class__") Q E s := by
  obtain ⟨cd, hcd⟩ := cls_some C
  have look : findObj K D od "__class__" = some (.bind (.builtin "getset_descriptor.__get__") (.builtin "object.__class__")) := by
    unfold findObj
    rw [hcd, Option.bind_some, C.ha, Option.bind_some]
    simp [C.hn, C.ht]
  obtain ⟨hp0, g0, d0, t0, os0⟩ := s
  have a0 := inst.type (M := model prog w)
  have a1 := looks_findIn (M := model prog w) kin C.hg
  have a2 := looks_findIn (M := model prog w) kin C.hk
  have a3 := looks_find (M := model prog w) kin inst look
  have below : Looks (model prog w) hp0 (isInstance (.ref x) (.type "BaseException")) true := a0.andThen (looks_subIn kin C.hs)
  have b2 : (Value.builtin "BaseException.__getattribute__" == Value.builtin "object.__getattribute__") = false := by decide +kernel
  have b1 : (onTheHeap (Value.ref D) && Value.builtin "BaseException.__getattribute__" == Value.builtin "object.__getattribute__") = false := by simp only [b2, Bool.and_false]
  unfold getAttr? getAttrBy? getAttrBy
  refine wpAny_bind (wpAny_mkText (wpAny_bind (wpAny_attempt (wpAny_holding (wpAny_bind (a0.at (wpAny_bind (a1.at ?_))))))))
  show wpAny _ _ (if (onTheHeap (Value.ref D) && Value.builtin "BaseException.__getattribute__" == Value.builtin "object.__getattribute__") = true then _ else _) _ _ _
  simp only [b1, Bool.false_eq_true, if_false]
  unfold getAttrByItsOwn hookBefore
  refine wpAny_bind ?_
  simp only [show onTheHeap (Value.ref D) = true from rfl, if_true]
  refine a2.at (wpAny_bind (wpAny_attempt (wpAny_holding ?_)))
  unfold callGetattribute
  simp only [Bool.false_and, Bool.false_eq_true, if_false]
  unfold boundAndCalled
  rw [PySem.F.excAttr_ValueError.ga.bind (.ref x)]
  refine wpAny_bind (wpAny_pure (?_ : wpAny (model prog w) _ (call (.builtin "BaseException.__getattribute__") [.ref x, .str "__class__" t0]) _ _ _))
  refine wpAny_call (codeAny_call_builtin PySem.F.excAttr_ValueError.ga.plain PySem.F.entry_bexc_ga (@check_slot (model prog w) _ _ ⟨hp0, g0, d0, t0 + 1, os0⟩ "BaseException.__getattribute__" "BaseException" "__getattribute__" (.ref x) [.str "__class__" t0] [] _ (by decide +kernel) (by decide +kernel) below (PySem.F.args_bexc_ga (.ref x) (.str "__class__" t0)) ?_))
  unfold Builtin.«object.__getattribute__»
  refine wpAny_bind (wpAny_of_eq (a := ((Value.ref x : Value), [Value.str "__class__" t0])) (by first | rfl | (simp only [slotArgs]; rfl)) (wpAny_bind (wpAny_pure (wpAny_bind (a0.at (wpAny_bind (a3.at ?_)))))))
  refine (?_ : wpAny (model prog w) _ (holding [Value.builtin "object.__class__"] (call (.builtin "getset_descriptor.__get__") [.builtin "object.__class__", .ref x, .ref D]) >>= ret) _ _ _)
  refine wpAny_bind (wpAny_holding (wpAny_call (class_get (s := ⟨hp0, g0, d0, t0 + 1, os0⟩) (ox := ox) (od := od) kin inst C.hm (wpAny_pure ?_))))
  show wpAny (model prog w) _ (handedOut (.ref D)) _ _ _
  rw [handedOut_of (v := .ref D) rfl]
  first
    | exact wpAny_pure (wpAny_pure fin)
    | exact wpAny_pure fin
    | exact wpAny_pure (wpAny_bind (wpAny_pure (wpAny_pure fin)))
theorem kitx_any (C : ExcC K D) : KitX K (.ref x) (.ref D) (fun h => ∃ od, InstAt h x ox D od) := by
  obtain ⟨cd, hcd⟩ := cls_some C
  have obj : ∀ h : Heap, K.In h → ∃ o, h.get? D = some o ∧ o.data = .cls cd := fun h kin => by
    unfold clsIn at hcd
    split at hcd
    · rename_i z
      cases hcd
      exact ⟨_, kin _ _ z, rfl⟩
    · cases hcd
  refine ⟨fun M h kin ⟨od, inst⟩ => inst.type, fun M h kin _ => ?_, fun h tp dd its n sl kin htp => ?_, fun kin ⟨od, inst⟩ k => own_class C kin inst k⟩
  · obtain ⟨o, ho, hd⟩ := obj h kin
    intro A' Q' E' s' k q
    unfold isType loadHead
    refine wpAny_bind (wpAny_loadPart (k _ _ ho) ?_)
    rw [hd]
    exact wpAny_pure q
  · obtain ⟨o, ho, hd⟩ := obj h kin
    cases e : (Value.ref D == .ref tp) with
    | false => rfl
    | true =>
      have e2 : D = tp := Value.ref.inj (eq_of_beq e)
      subst e2
      rw [ho] at htp
      cases htp
      cases hd
end
/-- isinstance(e, c), e the exception that the suite holds, with a dict or none -/
theorem call_isE2 {X : Cx} {a D : Addr} {oe : Obj} {d : Option Addr} {pn : List (Addr × Obj)} (C : ExcC X.K D) (hz : Zc (.ref D) d oe) (hf : ∃ vs, oe.data = .fields vs) :
    CallR (X.suite a ((a, oe) :: pn)) (.builtin "isinstance") (fun xs H Q => (∀ dd, d = some dd → ∃ vs, H dd = some (.xd vs)) ∧ rIsE X.K D a xs H Q) := by
  rintro pins s σ H xs us Q I r ⟨hdd, c, cv, b, rfl, hcv, e, q⟩
  cases r with
  | cons rx rr =>
    cases rr with
    | cons rt rr =>
      cases rr
      cases rx
      have ec := hcv _ rt
      subst ec
      obtain ⟨hget, _⟩ := I.pin (a, oe) (List.mem_append.mpr (.inl List.mem_cons_self))
      obtain ⟨vs, hv⟩ := hf
      have inst : ∃ od, InstAt s.heap a oe D od := by
        obtain ⟨oc, odd, oda, osl⟩ := oe
        obtain ⟨h1, h2⟩ := hz
        dsimp only at h1 h2 hv
        subst h1 h2 hv
        cases odd with
        | none => exact ⟨none, hget, rfl, rfl, trivial⟩
        | some dd =>
          obtain ⟨ws, hw⟩ := hdd dd rfl
          obtain ⟨mA, ⟨o, es, ep, ho, _⟩, _⟩ := I.hok dd _ hw
          exact ⟨some o, hget, rfl, rfl, ho⟩
      exact kia_one (kitx_any C) I.kIn inst e (fun z => nomatch z) fun tk => ⟨.bl b, H, I.kept (t' := tk) fun _ _ z => z, rfl, q⟩
end Xs
namespace Pd
open PySem PySem.Spec L2 SkE
open PyProof.Rows hiding St
/-- raise c(e), c with an own __init__ that stores its argument in the field fl -/
def gRaiseF (c fl : Str) (f : SF) : SG := fun ρ S => ev (f ρ S) ρ fun d S1 => some (.er ⟨c, [(fl, d)]⟩ ρ, S1)
/-- the class and its __init__ -/
structure Xki (P : Program) (w : World) (K : PySem.W.Frag) (mg : Str → Option Value) (base : Heap) (k : Nat) (c fl : Str) : Prop where
  ex : ∃ (D fI : Addr) (fd : FuncData) (ps : List Str), mg c = some (.ref D) ∧ Xs.XiC K D fl ∧ PySem.W.findIn K (.ref D) "__init__" = some (some (.ref fI)) ∧ PySem.W.typeIn K (.ref fI) = some (.type "function") ∧ Binds K fd ps [] ∧ FnOk P w K mg base (L2.CX P w) k fI fd ps (Xs.spXi D fl)
section
variable {X : Cx} {W : WX} {e : Expr} {f : SF} {pos p p2 p1 : Pos} {c fl n : Str} {k : Nat}
theorem sg_raiseF (tk : Takes X W) (hc : X.calm = true) (F : Xki X.prog X.w X.K X.mg X.base k c fl) (hr : Room (k + 1) X.A) (he : PE X e (tM X.K X.mg W f)) (hg : Gl X c := by rfl) (hs : starEach [e] X.env = (false, eval e X.env) :: starEach [] X.env := by rfl) (hdb : (c == ("__debug__" : Str)) = false := by decide) :
    PS X (.Raise (some (.Call (.Name c p) [e] [] p2)) none pos) (tG X.K X.mg W (gRaiseF c fl f)) := by
  obtain ⟨D, fI, fd, ps, m, T, f1, f2, hb, F1⟩ := F.ex
  have hx : Passes (L2.CX X.prog X.w) X (fun _ _ _ => False) := fun pins σ H s e s' _ z => by
    obtain ⟨_, _, _, _, _, _, _, _, _, _, _, _, z⟩ := z
    exact z.elim
  refine ps_imp (ps_raise hc tk (pmk_oex T.oex f1 f2 F1 hr hb .nil hx hg m (s_cons he s_nil hs) hdb hs rfl)) fun Dn σ H ⟨μ, Hs, ρ, S, fl', S1, s, env, e, k⟩ => ?_
  obtain ⟨q, S2, e1, P1⟩ := aft_bind env e k
  cases q with
  | er x =>
    refine ⟨μ, Hs, ρ, S, .er x, S2, s, env, ?_, P1⟩
    show sb (f ρ S) _ = _
    rw [e1]
    rfl
  | ok d =>
    refine ⟨μ, Hs, ρ, S, .ok [d], S2, s, env, ?_, fun μ1 Hs1 H1 g1 s1 vs rv => ?_⟩
    · show sb (f ρ S) _ = _
      rw [e1]
      rfl
    obtain ⟨_, _, env1, e2, k2⟩ := P1 μ1 Hs1 H1 g1 s1
    cases e2
    cases rv with
    | @cons v vs _ _ rp rt =>
      cases rt
      refine ⟨by show 1 ≤ 1000; decide, fun a hn => ⟨a, v, rfl, upd_same, fun dx hdx hne => ⟨rfl, dx, [(fl, v)], upd_same, (upd_ne hne).trans upd_same, ?_, ?_⟩⟩⟩
      · rw [upd_ne hne] at hdx
        exact hdx
      · rw [upd_ne hne] at hdx
        have eH : upd (del (upd (upd (upd H1 a (exo a D none)) dx (exd dx [(fl, v)])) a (exo a D (some dx))) a) dx (.xd [(fl, v)]) = upd H1 dx (.xd [(fl, v)]) := by
          funext b
          by_cases hb : b = dx
          · rw [hb, upd_same, upd_same]
          · rw [upd_ne hb, upd_ne hb]
            by_cases ha : b = a
            · rw [ha, del_same, hn]
            · rw [del_ne ha, upd_ne ha, upd_ne hb, upd_ne ha]
        rw [eH]
        have sm : Same H1 (upd H1 dx (.xd [(fl, v)])) := fun b u hb => by
          rw [upd_ne (fun z => by subst z; rw [hdx] at hb; cases hb)]
          exact hb
        exact k2 σ μ1 Hs1 _ _ _ (Gr.refl _ _) (s1.side sm) env1 ⟨D, m, rfl, .inr ⟨dx, [(fl, v)], by simp, rfl, upd_same, s1.sub.free hdx, .cons ⟨rfl, rp⟩ .nil⟩⟩
/-- the field of a caught error, of a class of these -/
def mXf2 (i : Nat) (fl : Str) (cs : List Str) (x : Exn) (a : Addr) (d : Option Addr) : SF := fun ρ S => if x.cls ∈ cs then mXfl i fl a d ρ S else none
theorem s_xf2 (i : Nat) {a C : Addr} {oe : Obj} {d : Option Addr} {pn : List (Addr × Obj)} {cs : List Str} {xx : Exn} {fn : Str} (M : Xfl X.K X.mg fn cs) (hz : Zc (.ref C) d oe) (hf : ∃ vs, oe.data = .fields vs) (hx : X.mg xx.cls = some (.ref C))
    (hi : X.N[i]? = some n := by rfl) (hv : Vis X.env.scope n := by first | exact .inl rfl | exact .inr (.inl rfl) | exact .inr (.inr rfl)) (hd : (n == ("__debug__" : Str)) = false := by decide) (hcd : (n == ("__classdict__" : Str)) = false := by decide) (hb : attributeBase (.Name n p1) fn X.env (eval (.Name n p1) X.env) = eval (.Name n p1) X.env := by rfl) :
    PE (X.suite a ((a, oe) :: pn)) (.Attribute (.Name n p1) fn pos) (tM X.K X.mg W (mXf2 i fn cs xx a d)) := by
  by_cases h : xx.cls ∈ cs
  · have e : mXf2 i fn cs xx a d = mXfl i fn a d := by
      funext ρ S
      exact if_pos h
    rw [e]
    exact s_xfl i M h hz hf hx hi hv hd hcd hb
  · refine ⟨fun pins s σ H Q I ⟨μ, Hs, ρ, S, r, S1, s, env, e, P⟩ => ?_⟩
    have e' : (if xx.cls ∈ cs then mXfl i fn a d ρ S else none) = some (r, S1) := e
    rw [if_neg h] at e'
    cases e'
/-- isinstance of a caught error -/
def mXi2 (i : Nat) (tab : Str → Option Bool) (x : Exn) (a : Addr) (d : Option Addr) : SF := fun ρ S => match ρ[i]? with
  | some (.exc a' d' fs) => if a' = a ∧ d' = d ∧ fs.isEmpty = x.fs.isEmpty then b1 (tab x.cls) fun b => some (.ok (.bool b), S) else none
  | _ => none
theorem s_isE2 (i : Nat) {a C : Addr} {oe : Obj} {d : Option Addr} {pn : List (Addr × Obj)} {tab : Str → Option Bool} {xx : Exn} (M : Xi X.K X.mg c tab) (hz : Zc (.ref C) d oe) (hf : ∃ vs, oe.data = .fields vs) (hx : X.mg xx.cls = some (.ref C)) (hxd : (xx.fs = [] ∧ d = none) ∨ (xx.fs ≠ [] ∧ d.isSome = true))
    (hm : X.mg "isinstance" = none) (hi : X.N[i]? = some n := by rfl) (hv : Vis X.env.scope n := by first | exact .inl rfl | exact .inr (.inl rfl) | exact .inr (.inr rfl)) (hg : Gl X "isinstance" := by rfl) (hg2 : Gl X c := by rfl) (hd : (n == ("__debug__" : Str)) = false := by decide) (hcd : (n == ("__classdict__" : Str)) = false := by decide) (hdc : (c == ("__debug__" : Str)) = false := by decide)
    (h1 : starEach [.Name n p1, .Name c p2] X.env = (false, eval (.Name n p1) X.env) :: starEach [.Name c p2] X.env := by rfl) (h2 : starEach [.Name c p2] X.env = (false, eval (.Name c p2) X.env) :: starEach [] X.env := by rfl) (hpl : (backTo pos (starEach [.Name c p2] X.env)).any (·.1) = false := by rfl) :
    PE (X.suite a ((a, oe) :: pn)) (.Call (.Name "isinstance" p) [.Name n p1, .Name c p2] [] pos) (tM X.K X.mg W (mXi2 i tab xx a d)) := by
  obtain ⟨D, m1, m2⟩ := M.ex
  cases ht : tab xx.cls with
  | none =>
    refine ⟨fun pins s σ H Q I ⟨μ, Hs, ρ, S, r, S1, s, env, e, P⟩ => ?_⟩
    exfalso
    unfold mXi2 at e
    rw [ht] at e
    split at e
    · obtain ⟨_, h⟩ := ite_opt e
      cases h
    · cases e
  | some b =>
    obtain ⟨k1, k2⟩ := m2 _ _ ht C hx
    refine pe_imp (pe_callB (X := X.suite a ((a, oe) :: pn)) (Xs.call_isE2 k1 hz hf) hg hm (by decide +kernel) (pa_cons (pe_var (X := X.suite a ((a, oe) :: pn)) (i := i) hi hv hd hcd) (pa_cons (pe_glob (X := X.suite a ((a, oe) :: pn)) (v := .ref D) hg2 m1 rfl hdc) pa_nil h2) h1) (by decide) (by decide) h1 hpl) fun σ H Q ⟨μ, Hs, ρ, S, r, S1, s, env, e, P⟩ => ?_
    unfold mXi2 at e
    rw [ht] at e
    split at e
    · rename_i a' d' fs' hq
      obtain ⟨⟨rfl, rfl, hfs⟩, h⟩ := ite_opt e
      cases h
      obtain ⟨ov, q1, q2⟩ := paired_get env hq
      obtain ⟨rfl, q3⟩ := q2
      refine ⟨_, q1, fun dd hdd => ?_, .ref D, .ref D, b, rfl, fun u hu => hu, k2, P μ Hs H (Gr.refl _ _) s _ (.bool _)⟩
      rcases q3 with rfl | ⟨d2, vs, e2, e3, _⟩
      · rcases hxd with ⟨_, z⟩ | ⟨z, _⟩
        · rw [z] at hdd; cases hdd
        · exact absurd (List.isEmpty_iff.mp (by rw [← hfs]; rfl)) z
      · rw [e2] at hdd
        cases hdd
        exact ⟨vs, s.sub _ _ e3⟩
    · cases e
end
/-! what they are worth -/
section
variable {Q : D → Store → Prop} {E : Exn → Store → Prop} {QG : Fx → Store → Prop} {ρ : Rho} {S : Store} {f : SF} {c fl : Str}
theorem vs_raiseF (h : Ev (f ρ S) (fun d S1 => QG (.er ⟨c, [(fl, d)]⟩ ρ) S1) (fun x S1 => QG (.er x ρ) S1)) : EG (gRaiseF c fl f ρ S) QG := eg_ev h
theorem v_xi2 {i : Nat} {tab : Str → Option Bool} {x : Exn} {a a' : Addr} {d d' : Option Addr} {fs' : List (Str × D)} {b : Bool} (h1 : ρ[i]? = some (.exc a' d' fs')) (h2 : a' = a) (h3 : d' = d) (h5 : fs'.isEmpty = x.fs.isEmpty) (h4 : tab x.cls = some b) : mXi2 i tab x a d ρ S = some (.ok (.bool b), S) := by
  unfold mXi2
  rw [h1]
  show (if a' = a ∧ d' = d ∧ fs'.isEmpty = x.fs.isEmpty then b1 (tab x.cls) _ else none) = _
  rw [if_pos ⟨h2, h3, h5⟩, h4]
  rfl
theorem v_xf2 {i : Nat} {cs : List Str} {x : Exn} {a a' : Addr} {d d' : Option Addr} {fs' : List (Str × D)} {v : D} (h0 : x.cls ∈ cs) (h1 : ρ[i]? = some (.exc a' d' fs')) (h2 : a' = a) (h3 : d' = d) (h4 : fs'.lookup fl = some v) : mXf2 i fl cs x a d ρ S = some (.ok v, S) := by
  unfold mXf2
  rw [if_pos h0]
  unfold mXfl
  rw [h1]
  show (if a' = a ∧ d' = d then b1 (fs'.lookup fl) _ else none) = _
  rw [if_pos ⟨h2, h3⟩, h4]
  rfl
theorem ev_of {α : Type} {m : Option (Res α × Store)} {d : α} {S : Store} {Q : α → Store → Prop} {E : Exn → Store → Prop} (e : m = some (.ok d, S)) (q : Q d S) : Ev m Q E := by rw [e]; exact q
theorem ev_eq {α : Type} {m : Option (Res α × Store)} {a : α} {S : Store} (h : Ev m (fun d S1 => d = a ∧ S1 = S) (fun _ _ => False)) : m = some (.ok a, S) := by
  cases m with
  | none => exact h.elim
  | some p =>
    obtain ⟨r, S1⟩ := p
    cases r with
    | ok d => obtain ⟨e1, e2⟩ := (h : d = a ∧ S1 = S); rw [e1, e2]
    | er x => exact (h : False).elim
end
theorem xfl_nil {K : PySem.W.Frag} {mg : Str → Option Value} {f : Str} : Xfl K mg f [] := ⟨fun x h => by simp at h⟩
theorem xfl_cons {K : PySem.W.Frag} {mg : Str → Option Value} {f x : Str} {l : List Str} {C : Addr} (M : Xfl K mg f l) (hm : mg x = some (.ref C)) (h : XfC K C) (h2 : PySem.W.findIn K (.ref C) f = some none) : Xfl K mg f (x :: l) := ⟨fun y hy D hD => by
  rcases List.mem_cons.mp hy with rfl | hy
  · rw [hm] at hD
    cases hD
    exact ⟨h, h2⟩
  · exact M.ex y hy D hD⟩
end Pd

/-! Xs2: a list's cell made by a comprehension, an item of a list's cell stored, a text's method over a cell. -/
namespace Pd
open PySem PySem.Spec L2 SkE
open PyProof.Rows hiding St
theorem RpA.set {K : PySem.W.Frag} {μ : List Addr} {H : Hp} {v : V} {d : D} (r : Rp K μ H v d) : ∀ {vs : List V} {ds : List D} (j : Nat), RpA K μ H vs ds → RpA K μ H (vs.set j v) (ds.set j d)
  | _, _, _, .nil => .nil
  | _, _, 0, .cons _ t => .cons r t
  | _, _, j + 1, .cons h t => .cons h (RpA.set r j t)
/-- a list is made, outside the part that is only read -/
def tDC (K : PySem.W.Frag) (f : F) : TE := fun σ H Q => ∃ (μ : List Addr) (Hs : Hp) (ρ : Rho) (d : D), Same Hs H ∧ VEnv K μ Hs σ ρ ∧ f ρ = some d ∧
  ∀ (D0 : Addr) (acc : List V) (H' Hs' : Hp) (ds : List D), d = .lst ds → Ext Hs H Hs' H' → H D0 = none → Hs' D0 = none → H' D0 = some (.lst acc) → RpA K μ Hs' acc ds → Q (.ref D0) H'
theorem lc_readC {K : PySem.W.Frag} {fi : Fs} {wi : TI} {g : TG} {tt : TT} {te : TE} {set : D → Rho → Option Rho} {ft : Ft} {fe : F} {vs : List Nat} (hi : ∀ σ H R, tDI K fi σ H R → wi σ H R) (hg : TgD K g set vs) (ht : ∀ σ H Q, tDT K ft σ H Q → tt σ H Q) (he : ∀ σ H Q, tD K fe σ H Q → te σ H Q) :
    ∀ σ H Q, tDC K (fLc fi set ft fe vs) σ H Q → tLc wi g tt te vs σ H Q := by
  rintro σ H Q ⟨μ, Hs, ρ, d, s, env, e, k⟩
  obtain ⟨ds, e1, e2⟩ := b1_eq e
  have e2' : (if ds.length ≤ 1000000 then b1 (lcGo set ft fe (wipeR ρ vs) ds) fun ys => some (D.lst ys) else none) = some d := e2
  by_cases hz : ds.length ≤ 1000000
  · rw [if_pos hz] at e2'
    obtain ⟨ys, e3, e4⟩ := b1_eq e2'
    cases e4
    refine hi _ _ _ ⟨μ, Hs, ρ, ds, s, env, e1, fun J H1 Hs1 x1 wk D0 hD => ?_⟩
    have hDs : Hs1 D0 = none := x1.sub.free hD
    refine ⟨fun i m H2 => m = ds.length - i ∧ i ≤ ds.length ∧ ∃ Hs2 acc accD rest, Same Hs1 Hs2 ∧ Same Hs2 H2 ∧ Same H1 H2 ∧ (∀ a o, Hs2 a = some o → Hs1 a = some o ∨ H1 a = none) ∧ Hs2 D0 = none ∧ H2 D0 = some (.lst acc) ∧ RpA K μ Hs2 acc accD ∧ acc.length ≤ i ∧
      lcGo set ft fe (wipeR ρ vs) (ds.drop i) = some rest ∧ accD ++ rest = ys, ⟨_, rfl, Nat.zero_le _, Hs1, [], [], ys, Same.refl _, x1.sub.trans (Ext.made (Same.refl H1) hD).all, (Ext.made (Same.refl H1) hD).all, fun _ _ h => .inl h, hDs, upd_same, .nil, Nat.zero_le _, by simpa using e3, rfl⟩, ?_⟩
    rintro i m H2 ⟨rfl, hi2, Hs2, acc, accD, rest, s1, s2, s3, nw, d2, d1, ra, hl, eg, ea⟩
    by_cases hlt : i < ds.length
    · obtain ⟨d0, hd0⟩ : ∃ d0, ds[i]? = some d0 := ⟨ds[i], by simp [hlt]⟩
      have hdrop : ds.drop i = d0 :: ds.drop (i + 1) := by
        rw [List.drop_eq_getElem_cons hlt]
        rw [List.getElem?_eq_getElem hlt] at hd0
        cases hd0
        rfl
      rw [hdrop] at eg
      obtain ⟨ρ', g1, g2⟩ := b1_eq eg
      obtain ⟨b, g3, g4⟩ := b1_eq g2
      refine .inr ⟨wk.go i H2 (s1.trans s2) hlt, fun H3 => ∃ Hs2 acc accD rest, Same Hs1 Hs2 ∧ Same Hs2 H3 ∧ Same H1 H3 ∧ (∀ a o, Hs2 a = some o → Hs1 a = some o ∨ H1 a = none) ∧ Hs2 D0 = none ∧ H3 D0 = some (.lst acc) ∧ RpA K μ Hs2 acc accD ∧ acc.length ≤ i + 1 ∧
        lcGo set ft fe (wipeR ρ vs) (ds.drop (i + 1)) = some rest ∧ accD ++ rest = ys, fun H' hN => ⟨_, by omega, rfl, hlt, hN⟩, fun x H3 hy => ?_⟩
      obtain ⟨Hs3, x3, r3⟩ := wk.yld i H2 Hs2 x H3 s1 s2 hy d0 hd0
      have envw := wipe_env (env.mono (x1.part.trans (s1.trans x3.part))) vs
      have d3 : H3 D0 = some (.lst acc) := x3.all _ _ d1
      have ds3 : Hs3 D0 = none := by
        cases q : Hs3 D0 with
        | none => rfl
        | some o =>
          rcases x3.new _ _ q with h | h
          · rw [d2] at h; cases h
          · rw [d1] at h; cases h
      have nw3 : ∀ a o, Hs3 a = some o → Hs1 a = some o ∨ H1 a = none := fun a o h => by
        rcases x3.new a o h with h1 | h1
        · exact nw a o h1
        · exact .inr (s3.free h1)
      refine hg.run _ Hs3 H3 _ _ d0 ρ' x _ x3.sub envw g1 r3 fun σ' env' hlen hkeep => ⟨by rw [wipe_congr hlen hkeep]; exact wipe_idem _ _, ?_⟩
      refine ht _ _ _ ⟨μ, Hs3, ρ', b, x3.sub, env', g3, fun H4 s4 => ?_⟩
      cases b with
      | true =>
        rw [if_pos rfl] at g4
        obtain ⟨y, g5, g6⟩ := b1_eq g4
        obtain ⟨ys', g7, g8⟩ := b1_eq g6
        cases g8
        refine iteT (he _ _ _ ⟨μ, Hs3, ρ', y, x3.sub.trans s4, env', g5, fun v H5 Hs5 x5 r5 => ?_⟩)
        have d5 : H5 D0 = some (.lst acc) := x5.all _ _ (s4 _ _ d3)
        have ds5 : Hs5 D0 = none := by
          cases q : Hs5 D0 with
          | none => rfl
          | some o =>
            rcases x5.new _ _ q with h | h
            · rw [ds3] at h; cases h
            · rw [s4 _ _ d3] at h; cases h
        have nosub : ∀ (A B : Hp) (o' : HO), A D0 = none → Same A B → Same A (upd B D0 o') := fun A B o' hA hs b u hb => by
          rw [upd_ne (fun z => by subst z; rw [hA] at hb; cases hb)]
          exact hs b u hb
        refine ⟨acc, d5, by rw [sizeLine_eq]; omega, Hs5, acc ++ [v], accD ++ [y], ys', s1.trans (x3.part.trans x5.part), nosub _ _ _ ds5 x5.sub, nosub _ _ _ hD (s3.trans (x3.all.trans (s4.trans x5.all))), fun a o h => ?_, ds5, upd_same, (ra.mono (x3.part.trans x5.part)).snoc r5, by simp only [List.length_append, List.length_singleton]; omega, g7, by rw [← ea]; simp⟩
        rcases x5.new a o h with h1 | h1
        · exact nw3 a o h1
        · exact .inr ((s3.trans (x3.all.trans s4)).free h1)
      | false =>
        rw [if_neg Bool.false_ne_true] at g4
        exact iteF ⟨Hs3, acc, accD, rest, s1.trans x3.part, x3.sub.trans s4, s3.trans (x3.all.trans s4), nw3, ds3, s4 _ _ d3, ra.mono x3.part, by omega, g4, ea⟩
    · have e5 : i = ds.length := by omega
      subst e5
      rw [List.drop_length] at eg
      cases eg
      rw [List.append_nil] at ea
      subst ea
      refine .inl ⟨wk.stop _ H2 (s1.trans s2) (Nat.le_refl _), ?_⟩
      refine k D0 acc H2 Hs2 accD rfl ⟨x1.all.trans s3, x1.part.trans s1, s2, fun a o h => ?_⟩ (x1.all.free hD) d2 d1 ra
      rcases nw a o h with h1 | h1
      · exact x1.new a o h1
      · exact .inr (x1.all.free h1)
  · rw [if_neg hz] at e2'
    cases e2'
theorem imp_join {K : PySem.W.Frag} : ImpM K "str" (fun x xs H Q => ∃ a p, ∃ ys : List Str, x = .str a ∧ xs = [.ref p] ∧ (SqL K H p (ys.map V.str) ∨ SqT K H p (ys.map V.str)) ∧ (ys.map (·.length)).sum + ys.length * a.length ≤ 16777216 ∧ Q (.str (Txt.join a ys)) H) gJoin := fun μ H Hs x xs d ds o Q s rx rs gg k => by
    cases rx with
    | str a =>
      match ds, rs, gg with
      | [d], rs, gg =>
        obtain ⟨v, rfl, rv⟩ := rpa1 rs
        cases rv with
        | lst h1 h2 =>
          obtain ⟨ys, q1, q2⟩ := b1_eq gg
          obtain ⟨hz, rfl⟩ := ite_some q2
          rw [strs_rp h2 q1] at h1
          exact ⟨a, _, ys, rfl, rfl, .inl (SqL.of (s _ _ h1)), hz, k _ _ _ (Ext.refl s) (.str _)⟩
        | tup h1 h2 =>
          obtain ⟨ys, q1, q2⟩ := b1_eq gg
          obtain ⟨hz, rfl⟩ := ite_some q2
          rw [strs_rp h2 q1] at h1
          exact ⟨a, _, ys, rfl, rfl, .inr (sqT_mono s h1), hz, k _ _ _ (Ext.refl s) (.str _)⟩
        | _ => exact nomatch gg
      | [], _, gg => exact nomatch gg
      | .lst _ :: _ :: _, _, gg => exact nomatch gg
      | .tup _ :: _ :: _, _, gg => exact nomatch gg
      | .non :: _ :: _, _, gg => exact nomatch gg
      | .bool _ :: _ :: _, _, gg => exact nomatch gg
      | .int _ :: _ :: _, _, gg => exact nomatch gg
      | .str _ :: _ :: _, _, gg => exact nomatch gg
      | .scr _ :: _ :: _, _, gg => exact nomatch gg
      | .loc _ :: _ :: _, _, gg => exact nomatch gg
    | _ => exact nomatch gg
/-- without the object at a -/
def dropH (H : Hp) (a : Addr) : Hp := fun b => if b = a then none else H b
theorem dropH_upd {H : Hp} {a : Addr} {o : HO} (h : H a = some o) : upd (dropH H a) a o = H := by
  funext b
  by_cases hb : b = a
  · rw [hb, upd_same, h]
  · rw [upd_ne hb]
    exact if_neg hb
/-- the made list is a new cell -/
theorem Sim.made {K : PySem.W.Frag} {mg : Str → Option Value} {μ : List Addr} {Hs H Hs' H' : Hp} {S : Store} {D0 : Addr} {acc : List V} {ds : List D} (s : Sim K mg μ Hs H S) (x : Ext Hs H Hs' H') (h0 : H D0 = none) (h1 : Hs' D0 = none) (h2 : H' D0 = some (.lst acc)) (r : RpA K μ Hs' acc ds) :
    Sim K mg (μ ++ [D0]) Hs' H' (S ++ [.lst ds]) ∧ Gr μ Hs (μ ++ [D0]) Hs' := by
  have s1 := s.ext x
  have s2 : Sim K mg μ Hs' (dropH H' D0) S := by
    refine ⟨fun b u hb => ?_, s1.len, s1.nd, fun n a c q1 q2 => ?_⟩
    · have hb0 : b ≠ D0 := fun z => by rw [z, h1] at hb; cases hb
      exact (if_neg hb0).trans (s1.sub b u hb)
    · obtain ⟨k1, k2⟩ := s1.cell n a c q1 q2
      obtain ⟨c0, _, k3, _⟩ := s.at q1
      obtain ⟨o, k4, _⟩ := k3.some
      have ha : a ≠ D0 := fun z => by rw [z, h0] at k4; cases k4
      exact ⟨k1.move (Gr.refl _ _) fun o h => (if_neg ha).trans h, k2⟩
  have al := s2.alloc (p := D0) (c := .lst ds) (o := .lst acc) (if_pos rfl) ⟨acc, upd_same, r.gr ⟨⟨[D0], rfl⟩, Same.refl _⟩⟩
  rw [dropH_upd h2] at al
  exact ⟨al.1, ⟨⟨[D0], rfl⟩, x.part⟩⟩
/-- the value of f, a new list's cell -/
def mCell (f : F) : SF := fun ρ S => match f ρ with
  | some (.lst ds) => some (.ok (.loc S.length), S ++ [.lst ds])
  | _ => none
theorem tM_C {K : PySem.W.Frag} {mg : Str → Option Value} {W : WX} {f : F} : ∀ σ H Q, tM K mg W (mCell f) σ H Q → tDC K f σ H Q := by
  rintro σ H Q ⟨μ, Hs, ρ, S, r, S1, s, env, e, P⟩
  have e' : (match f ρ with | some (.lst ds) => some (Res.ok (D.loc S.length), S ++ [Cell.lst ds]) | _ => none) = some (r, S1) := e
  cases q : f ρ with
  | none => rw [q] at e'; cases e'
  | some d =>
    rw [q] at e'
    cases d with
    | lst ds =>
      cases e'
      refine ⟨μ, Hs, ρ, .lst ds, s.sub, env, q, fun D0 acc H' Hs' ds' ed x h0 h1 h2 r => ?_⟩
      cases ed
      obtain ⟨s3, g3⟩ := s.made x h0 h1 h2 r
      exact P _ _ _ g3 s3 _ (loc_new s.len)
    | _ => cases e'
section
variable {X : Cx} {W : WX} {tg e o elt iter : Expr} {ifs : List Expr} {fi : Fs} {fe : F} {ft : Ft} {pos spos cpos apos : Pos}
/-- x = [.. for ..] on one line, a new cell -/
theorem sg_asgLcC (i : Nat) {y : Str} {py : Pos} {scope : Scope} {own : List (Str × Nat)} {g : TG} {set : D → Rho → Option Rho} {tt : TT} (hc : X.calm = true) (hN : X.N.Nodup) (hi : PI X tg iter (tDI X.K fi)) (ok : BlkOk X.N X.env.scope scope own) (hg : TgD X.K g set (own.map (·.2)))
    (hpg : ∀ (s : Shared) (H : Hp) (C : Addr) (cl : List (Str × Addr)) (fp : List Addr), PG (X.blk s H scope (compEnvC scope cl C X.env) fp) tg g)
    (ht : ∀ σ H Q, tDT X.K ft σ H Q → tt σ H Q) (hpt : ∀ (s : Shared) (H : Hp) (C : Addr) (cl : List (Str × Addr)) (fp : List Addr), PTs (X.blk s H scope (compEnvC scope cl C X.env) fp) ifs tt)
    (hpe : ∀ (s : Shared) (H : Hp) (C : Addr) (cl : List (Str × Addr)) (fp : List Addr), PE (X.blk s H scope (compEnvC scope cl C X.env) fp) elt (tD X.K fe)) (hs : ∀ x, foldedSetIterable iter X.env x = pure x := by intro _; rfl)
    (hy : X.N[i]? = some y := by rfl) (hyl : X.env.scope.names.lookup y = some .local := by rfl) (hsw : swapsWith (.ListComp elt [⟨tg, iter, ifs, 0⟩] scope pos) (some (.Name y py)) spos.line X.env = pure true := by exact sw_true rfl rfl rfl (by decide +kernel)) :
    PS X (.Assign [.Name y py] (.ListComp elt [⟨tg, iter, ifs, 0⟩] scope pos) spos) (tG X.K X.mg W (gAsg (st1 i) (mCell (fLc fi set ft fe (own.map (·.2)))))) := by
  refine ps_imp (ps_setLc (own := own) (g := g) (tt := tt) hc hN hy hyl hsw hi ok hpg hpt hpe hs) fun Dn σ H ⟨μ, Hs, ρ, S, fl, S1, s, env, e, k⟩ => ?_
  obtain ⟨q, S2, e1, P1⟩ := aft_bind env e k
  refine lc_readC (fun _ _ _ h => h) hg ht (fun _ _ _ h => h) _ _ _ (tM_C (mg := X.mg) (W := W) _ _ _ ⟨μ, Hs, ρ, S, q, S2, s, env, e1, P1.imp fun d μ1 Hs1 H1 g1 s1 ⟨_, _, env1, e2, k2⟩ v rv => ?_⟩)
  cases e2
  exact k2 (σ.set i (some v)) μ1 Hs1 H1 (Gr.refl _ _) s1 (paired_set ⟨v, rfl, rv⟩ i env1)
theorem s_lcC {scope : Scope} {own : List (Str × Nat)} {g : TG} {set : D → Rho → Option Rho} {tt : TT} (hc : X.calm = true) (hN : X.N.Nodup) (hi : PI X tg iter (tDI X.K fi)) (ok : BlkOk X.N X.env.scope scope own) (hg : TgD X.K g set (own.map (·.2)))
    (hpg : ∀ (s : Shared) (H : Hp) (C : Addr) (cl : List (Str × Addr)) (fp : List Addr), PG (X.blk s H scope (compEnvC scope cl C X.env) fp) tg g)
    (ht : ∀ σ H Q, tDT X.K ft σ H Q → tt σ H Q) (hpt : ∀ (s : Shared) (H : Hp) (C : Addr) (cl : List (Str × Addr)) (fp : List Addr), PTs (X.blk s H scope (compEnvC scope cl C X.env) fp) ifs tt)
    (hpe : ∀ (s : Shared) (H : Hp) (C : Addr) (cl : List (Str × Addr)) (fp : List Addr), PE (X.blk s H scope (compEnvC scope cl C X.env) fp) elt (tD X.K fe)) (hs : ∀ x, foldedSetIterable iter X.env x = pure x := by intro _; rfl) :
    PE X (.ListComp elt [⟨tg, iter, ifs, 0⟩] scope pos) (tM X.K X.mg W (mCell (fLc fi set ft fe (own.map (·.2))))) :=
  pe_imp (pe_lc (own := own) (g := g) (tt := tt) hc hN hi ok hpg hpt hpe hs) fun σ H Q h => lc_readC (fun _ _ _ h => h) hg ht (fun _ _ _ h => h) _ _ _ (tM_C _ _ _ h)
/-- a text's method over the store -/
def isStr : D → Bool
  | .str _ => true
  | _ => false
def mMS (G : D → List D → Option D) (f : SF) (fs : SFs) : SF := fun ρ S => sb (f ρ S) fun d S1 => if isStr d = true then sb (fs ρ S1) fun ds S2 => b1 (G d (ds.map (view S2))) fun o => if o.sca = true then some (.ok o, S2) else none else none
theorem s_mS {id : String} {name : Str} {r : V → List V → Hp → VK → Prop} {G : D → List D → Option D} {f : SF} {fs : SFs} {es : List Expr} (slot : Slot "str" name id) (hty : typeOf (.builtin id) = pure (.type "method_descriptor")) (hm : MtR X id r) (hG : ImpM X.K "str" r G)
    (ho : PE X o (tM X.K X.mg W f)) (ha : PA X (e :: es) (tMs X.K X.mg W fs)) (hbase : attributeBase o name X.env (eval o X.env) = eval o X.env := by rfl)
    (hfew : ((backTo cpos (starEach (e :: es) X.env)).all (fun x => !x.1) && (backToKw cpos (keywordEach [] X.env)).all (fun x => x.1.isSome)
      && decide ((e :: es).length + ([] : List Keyword).length + (if ([] : List Keyword).isEmpty then 0 else 1) < 30)) = true := by rfl)
    (hline : (apos.endLine == cpos.line) = true := by rfl) (hs : starEach (e :: es) X.env = (false, eval e X.env) :: starEach es X.env := by rfl) (hplain : (backTo cpos (starEach es X.env)).any (·.1) = false := by rfl) :
    PE X (.Call (.Attribute o name apos) (e :: es) [] cpos) (tM X.K X.mg W (mMS G f fs)) := by
  refine pe_imp (pe_bm PySem.F.plainAttrs_str slot hty hm ho ha hbase hfew hline hs hplain) fun σ H Q ⟨μ, Hs, ρ, S, r, S1, s, env, e, P⟩ => ?_
  obtain ⟨q, S2, e1, P1⟩ := post_bind e P
  refine ⟨μ, Hs, ρ, S, q, S2, s, env, e1, P1.imp fun d μ1 Hs1 H1 g1 s1 ⟨_, _, e2, P2⟩ v rv => ?_⟩
  obtain ⟨hst, e2⟩ := ite_opt e2
  have td : TyD "str" d := by cases d with
    | str _ => rfl
    | _ => cases hst
  obtain ⟨q2, S3, e3, P3⟩ := post_bind e2 P2
  refine ⟨(rv.mono s1.sub).ty td, μ1, Hs1, ρ, S2, q2, S3, s1, env.gr g1, e3, P3.imp fun ds μ2 Hs2 H2 g2 s2 ⟨_, _, e4, P4⟩ vs rvs => ?_⟩
  obtain ⟨o, e5, e6⟩ := b1_eq e4
  obtain ⟨hsc, h2⟩ := ite_some e6
  cases h2
  exact hG μ2 H2 H2 v vs _ _ o Q (Same.refl _) ((rv.gr g2).mono s2.sub) (view_rpa s2 rvs) e5 fun v' H' Hs' x rr => P4 μ2 Hs2 H' (Gr.refl _ _) (s2.side x.all) v' (sca_any rr hsc)
theorem s_join {f g : SF} (ho : PE X o (tM X.K X.mg W f)) (ha : PE X e (tM X.K X.mg W g)) (hbase : attributeBase o "join" X.env (eval o X.env) = eval o X.env := by rfl)
    (hfew : ((backTo cpos (starEach [e] X.env)).all (fun x => !x.1) && (backToKw cpos (keywordEach [] X.env)).all (fun x => x.1.isSome) && decide ([e].length + ([] : List Keyword).length + (if ([] : List Keyword).isEmpty then 0 else 1) < 30)) = true := by rfl)
    (hline : (apos.endLine == cpos.line) = true := by rfl) (hs : starEach [e] X.env = (false, eval e X.env) :: starEach [] X.env := by rfl) :
    PE X (.Call (.Attribute o "join" apos) [e] [] cpos) (tM X.K X.mg W (mMS gJoin f (mCons g mNil))) :=
  s_mS PySem.F.slot_str_join PySem.F.type_str_join mt_join imp_join ho (s_cons ha s_nil hs) hbase hfew hline hs rfl
/-- o[i] = e, o a list's cell -/
def gSetIx (v o i : SF) : SG := fun ρ S => ev (v ρ S) ρ fun d S1 => ev (o ρ S1) ρ fun e S2 => ev (i ρ S2) ρ fun k S3 => b1 (lsAt S3 e) fun q => match k with
  | .int k => b1 (ixN q.2.length k) fun j => some (.nx ρ, S3.set q.1 (.lst (q.2.set j d)))
  | _ => none
theorem sg_setix {i : Expr} {f g h : SF} {p2 : Pos} (he : PE X e (tM X.K X.mg W f)) (ho : PE X o (tM X.K X.mg W g)) (hi : PE X i (tM X.K X.mg W h)) (hs : swapsWithSole [.Subscript o i p2] e pos.line X.env = pure false := by rfl) (hw : swappedStores [.Subscript o i p2] e X.env = pure none := by rfl)
    (h1 : (assignEach [.Subscript o i p2] X.env).map (·.2) = [assign (.Subscript o i p2) X.env] := by rfl)
    (ha : ∀ v, assign (.Subscript o i p2) X.env v = (do
      let ov ← holding [v] (eval o X.env)
      let iv ← holding [v, ov] (eval i X.env)
      standAt p2
      holding [v, ov, iv] (setItem ov iv v)
      release [v, ov, iv] []) := by intro _; rfl) :
    PS X (.Assign [.Subscript o i p2] e pos) (tG X.K X.mg W (gSetIx f g h)) := by
  refine ps_imp (ps_asg he (pg_sub ho hi set_list ha) hs hw h1) fun Dn σ H ⟨μ, Hs, ρ, S, fl, S1, s, env, e, k⟩ => ?_
  obtain ⟨q, S2, e1, P1⟩ := aft_bind env e k
  refine ⟨μ, Hs, ρ, S, q, S2, s, env, e1, P1.imp fun d μ1 Hs1 H1 g1 s1 ⟨_, _, env1, e2, k2⟩ v rv => ?_⟩
  obtain ⟨q2, S3, e3, P3⟩ := aft_bind env1 e2 k2
  refine ⟨μ1, Hs1, ρ, S2, q2, S3, s1, env1, e3, P3.imp fun d2 μ2 Hs2 H2 g2 s2 ⟨_, _, env2, e4, k4⟩ u ru => ?_⟩
  obtain ⟨q3, S4, e5, P5⟩ := aft_bind env2 e4 k4
  refine ⟨μ2, Hs2, ρ, S3, q3, S4, s2, env2, e5, P5.imp fun d3 μ3 Hs3 H3 g3 s3 ⟨_, _, env3, e6, k6⟩ w rw => ?_⟩
  obtain ⟨⟨n, ds⟩, e7, e8⟩ := b1_eq e6
  obtain ⟨rfl, e9⟩ := lsAt_eq e7
  obtain ⟨a, vs, rfl, j1, j2, j3⟩ := lst_at s3 (ru.gr g3) e9
  cases d3 with
  | int kk =>
    obtain ⟨j, e10, e11⟩ := b1_eq e8
    cases e11
    cases rw
    refine ⟨a, vs, kk, j, rfl, rfl, j2, by rw [j3.len]; exact e10, ?_⟩
    exact k6 σ μ3 Hs3 _ (Gr.refl _ _) (s3.write j1 ⟨_, upd_same, j3.set ((rv.gr g2).gr g3) j⟩) env3
  | _ => cases e8
end
/-! what they are worth -/
section
variable {Q : D → Store → Prop} {E : Exn → Store → Prop} {QG : Fx → Store → Prop} {ρ : Rho} {S : Store} {f g h : SF} {fs : SFs} {fp : F}
theorem v_cell {ds : List D} (e : fp ρ = some (.lst ds)) (q : Q (.loc S.length) (S ++ [.lst ds])) : Ev (mCell fp ρ S) Q E := by
  unfold mCell
  rw [e]
  exact q
theorem v_mS {G : D → List D → Option D} (h : Ev (f ρ S) (fun d S1 => isStr d = true ∧ Ev (fs ρ S1) (fun ds S2 => ∃ o, G d (ds.map (view S2)) = some o ∧ o.sca = true ∧ Q o S2) E) E) : Ev (mMS G f fs ρ S) Q E :=
  ev_sb (h.mono (fun d S1 ⟨h1, h2⟩ => ev_if h1 (ev_sb (h2.mono (fun ds S2 ⟨o, h3, h4, q⟩ => ev_b1 h3 (ev_if h4 q)) fun _ _ e => e))) fun _ _ e => e)
theorem vs_setix (hh : Ev (f ρ S) (fun d S1 => Ev (g ρ S1) (fun e S2 => Ev (h ρ S2) (fun k S3 => ∃ n ds i j, e = .loc n ∧ S3[n]? = some (.lst ds) ∧ k = .int i ∧ ixN ds.length i = some j ∧ QG (.nx ρ) (S3.set n (.lst (ds.set j d)))) (fun x S1 => QG (.er x ρ) S1)) (fun x S1 => QG (.er x ρ) S1)) (fun x S1 => QG (.er x ρ) S1)) : EG (gSetIx f g h ρ S) QG :=
  eg_ev (hh.mono (fun d S1 h2 => eg_ev (h2.mono (fun e S2 h3 => eg_ev (h3.mono (fun k S3 ⟨n, ds, i, j, e1, e2, e3, e4, q⟩ => by
    subst e1 e3
    rw [ls_at e2]
    show EG (b1 (ixN ds.length i) _) QG
    rw [e4]
    exact q) fun _ _ e => e)) fun _ _ e => e)) fun _ _ e => e)
end
/-- a block without free names, in any other -/
def sc0 : Scope := { kind := .function, names := [], isGenerator := false, isCoroutine := false }
theorem blkOk_closed {N : List Str} {sc scope : Scope} {own : List (Str × Nat)} (h : blkC N sc0 scope own = true) : BlkOk N sc scope own := by
  have b := blkOk_by h
  exact ⟨b.kind, b.uniq, b.ix, fun y hy e => by
    rcases b.free y hy e with z | z <;> exact absurd z (by simp [sc0]), b.own⟩
end Pd

/-! Lc0: comprehensions over the store; the list that grows is a cell. -/
namespace Pd
open PySem PySem.Spec L2 SkE
open PyProof.Rows hiding St
/-- nothing is raised -/
abbrev WF : WX := fun _ _ _ _ => False
theorem takes_no {X : Cx} : Takes X WF := fun u s' ⟨_, _, _, _, _, _, _, _, _, _, _, _, _, _, _, _, w⟩ => w.elim
open Classical in
/-- a turn for each of ds; what is kept goes into the cell n0 -/
noncomputable def goL (n0 : Nat) (chk : Store → Prop) (set : D → Rho → Option Rho) (ft : SFt) (fe : SF) (ρ : Rho) : List D → Store → Option Store
  | [], S => if chk S then some S else none
  | d :: ds, S => if chk S then b1 (set d ρ) fun ρ' => match ft ρ' S with
    | some (.ok b, S1) => if b = true then (match fe ρ' S1 with
      | some (.ok y, S2) => (match S2[n0]? with
        | some (.lst acc) => if acc.length < sizeLine then goL n0 chk set ft fe ρ ds (S2.set n0 (.lst (acc ++ [y]))) else none
        | _ => none)
      | _ => none) else goL n0 chk set ft fe ρ ds S1
    | _ => none
    else none
noncomputable def mLc (fi : SFi) (set : D → Rho → Option Rho) (ft : SFt) (fe : SF) (vs : List Nat) : SF := fun ρ S => sb (fi ρ S) fun p S1 => b1 (goL S1.length p.2 set ft fe (wipeR ρ vs) p.1 (S1 ++ [.lst []])) fun S2 => some (.ok (.loc S1.length), S2)
theorem lcM_read {K : PySem.W.Frag} {mg : Str → Option Value} {W : WX} {fi : SFi} {g : TG} {tt : TT} {te : TE} {set : D → Rho → Option Rho} {ft : SFt} {fe : SF} {vs : List Nat} (hg : TgD K g set vs) (ht : ∀ σ H Q, tMT K mg WF ft σ H Q → tt σ H Q) (he : ∀ σ H Q, tM K mg WF fe σ H Q → te σ H Q) :
    ∀ σ H Q, tM K mg W (mLc fi set ft fe vs) σ H Q → tLc (tMI K mg W fi) g tt te vs σ H Q := by
  rintro σ H Q ⟨μ, Hs, ρ, S, r, SE, s, env, e, P⟩
  obtain ⟨q, S1, e1, P1⟩ := post_bind e P
  refine ⟨μ, Hs, ρ, S, q, S1, s, env, e1, P1.imp fun p μ1 Hs1 H1 g1 s1 ⟨_, g1', e2, P2⟩ J wk D0 hD => ?_⟩
  obtain ⟨ds, chk⟩ := p
  obtain ⟨SZ, e3, e4⟩ := b1_eq e2
  cases e4
  obtain ⟨s2, g2⟩ := s1.alloc (p := D0) (c := .lst []) (o := .lst []) hD ⟨[], upd_same, .nil⟩
  have mD : ∀ {μ' : List Addr} {Hs' : Hp}, Gr (μ1 ++ [D0]) Hs1 μ' Hs' → μ'[S1.length]? = some D0 := fun {μ' Hs'} gg => by
    obtain ⟨l, rfl⟩ := gg.pre
    rw [← s1.len, List.getElem?_append_left (by simp), List.getElem?_append_right (Nat.le_refl _), Nat.sub_self]
    rfl
  refine ⟨fun i m H2 => m = ds.length - i ∧ i ≤ ds.length ∧ ∃ μ2 Hs2 S2, Gr (μ1 ++ [D0]) Hs1 μ2 Hs2 ∧ Sim K mg μ2 Hs2 H2 S2 ∧ goL S1.length chk set ft fe (wipeR ρ vs) (ds.drop i) S2 = some SE,
    ⟨_, rfl, Nat.zero_le _, μ1 ++ [D0], Hs1, _, Gr.refl _ _, s2, by simpa using e3⟩, ?_⟩
  rintro i m H2 ⟨rfl, hi2, μ2, Hs2, S2, g3, s3, e5⟩
  have g13 : Gr μ1 Hs1 μ2 Hs2 := g2.trans g3
  by_cases hlt : i < ds.length
  · obtain ⟨d0, hd0⟩ : ∃ d0, ds[i]? = some d0 := ⟨ds[i], by simp [hlt]⟩
    have hdrop : ds.drop i = d0 :: ds.drop (i + 1) := by
      rw [List.drop_eq_getElem_cons hlt]
      rw [List.getElem?_eq_getElem hlt] at hd0
      cases hd0
      rfl
    rw [hdrop] at e5
    unfold goL at e5
    obtain ⟨hch, e6⟩ := ite_opt e5
    obtain ⟨ρ', h1, e7⟩ := b1_eq e6
    refine .inr ⟨wk.go i μ2 Hs2 H2 S2 g13 s3 hch hlt, fun H3 => ∃ μ3 Hs3 S3, Gr (μ1 ++ [D0]) Hs1 μ3 Hs3 ∧ Sim K mg μ3 Hs3 H3 S3 ∧ goL S1.length chk set ft fe (wipeR ρ vs) (ds.drop (i + 1)) S3 = some SE, fun H' hN => ⟨_, by omega, rfl, hlt, hN⟩, fun x H3 hy => ?_⟩
    obtain ⟨Hs3, x3, r3⟩ := wk.yld i μ2 Hs2 H2 S2 x H3 g13 s3 hch hy d0 hd0
    have s4 := s3.ext x3
    have g4 : Gr μ2 Hs2 μ2 Hs3 := Gr.part x3.part
    have envw := wipe_env (env.gr ((g1'.trans g13).trans g4)) vs
    refine hg.run μ2 Hs3 H3 _ _ d0 ρ' x _ s4.sub envw h1 r3 fun σ' env' hlen hkeep => ⟨by rw [wipe_congr hlen hkeep]; exact wipe_idem _ _, ?_⟩
    cases qt : ft ρ' S2 with
    | none => rw [qt] at e7; cases e7
    | some pt =>
      obtain ⟨rt, S5⟩ := pt
      rw [qt] at e7
      cases rt with
      | er x => cases e7
      | ok b =>
        refine ht _ _ _ ⟨μ2, Hs3, ρ', S2, .ok b, S5, s4, env', qt, fun μ4 Hs4 H4 g5 s5 => ?_⟩
        cases b with
        | false => exact iteF ⟨μ4, Hs4, S5, (g3.trans g4).trans g5, s5, by simpa using e7⟩
        | true =>
          have e8 : (match fe ρ' S5 with
            | some (.ok y, S2) => (match S2[S1.length]? with
              | some (.lst acc) => if acc.length < sizeLine then goL S1.length chk set ft fe (wipeR ρ vs) (ds.drop (i + 1)) (S2.set S1.length (.lst (acc ++ [y]))) else none
              | _ => none)
            | _ => none) = some SE := by simpa using e7
          cases qe : fe ρ' S5 with
          | none => rw [qe] at e8; cases e8
          | some pe =>
            obtain ⟨re, S6⟩ := pe
            rw [qe] at e8
            cases re with
            | er x => cases e8
            | ok y =>
              simp only at e8
              refine iteT (he _ _ _ ⟨μ4, Hs4, ρ', S5, .ok y, S6, s5, env'.gr g5, qe, fun μ6 Hs6 H6 g6 s6 v rv => ?_⟩)
              have gg := ((g3.trans g4).trans g5).trans g6
              cases qc : S6[S1.length]? with
              | none => rw [qc] at e8; cases e8
              | some c =>
                rw [qc] at e8
                cases c with
                | lst acc =>
                  simp only at e8
                  obtain ⟨hz, e9⟩ := ite_opt e8
                  obtain ⟨a, us, ea, j1, j2, j3⟩ := lst_at s6 (Rp.loc (mD gg)) qc
                  cases ea
                  refine ⟨us, j2, by rw [j3.len]; exact hz, μ6, Hs6, _, gg, s6.write (c := .lst (acc ++ [y])) (o := .lst (us ++ [v])) j1 ⟨_, upd_same, j3.snoc rv⟩, e9⟩
                | _ => cases e8
  · have e6 : i = ds.length := by omega
    subst e6
    rw [List.drop_length] at e5
    unfold goL at e5
    obtain ⟨hch, e7⟩ := ite_opt e5
    have e8 := Option.some.inj e7
    subst e8
    exact .inl ⟨wk.stop _ μ2 Hs2 H2 _ g13 s3 hch (Nat.le_refl _), P2 μ2 Hs2 H2 g13 s3 _ (.loc (mD g3))⟩
section
variable {X : Cx} {W : WX} {tg elt iter : Expr} {ifs : List Expr} {fi : SFi} {fe : SF} {ft : SFt} {pos spos : Pos}
def mtYes : SFt := fun _ S => some (.ok true, S)
theorem tYes_M {K : PySem.W.Frag} {mg : Str → Option Value} : ∀ σ H Q, tMT K mg WF mtYes σ H Q → tYes σ H Q := fun σ H Q ⟨μ, Hs, ρ, S, r, S1, s, env, e, P⟩ => by cases e; exact P μ Hs H (Gr.refl _ _) s
theorem s_lc {scope : Scope} {own : List (Str × Nat)} {g : TG} {set : D → Rho → Option Rho} {tt : TT} (hc : X.calm = true) (hN : X.N.Nodup) (hi : PI X tg iter (tMI X.K X.mg W fi)) (ok : BlkOk X.N X.env.scope scope own) (hg : TgD X.K g set (own.map (·.2)))
    (hpg : ∀ (s : Shared) (H : Hp) (C : Addr) (cl : List (Str × Addr)) (fp : List Addr), PG (X.blk s H scope (compEnvC scope cl C X.env) fp) tg g)
    (ht : ∀ σ H Q, tMT X.K X.mg WF ft σ H Q → tt σ H Q) (hpt : ∀ (s : Shared) (H : Hp) (C : Addr) (cl : List (Str × Addr)) (fp : List Addr), PTs (X.blk s H scope (compEnvC scope cl C X.env) fp) ifs tt)
    (hpe : ∀ (s : Shared) (H : Hp) (C : Addr) (cl : List (Str × Addr)) (fp : List Addr), PE (X.blk s H scope (compEnvC scope cl C X.env) fp) elt (tM X.K X.mg WF fe)) (hs : ∀ x, foldedSetIterable iter X.env x = pure x := by intro _; rfl) :
    PE X (.ListComp elt [⟨tg, iter, ifs, 0⟩] scope pos) (tM X.K X.mg W (mLc fi set ft fe (own.map (·.2)))) :=
  pe_imp (pe_lc (own := own) (g := g) (tt := tt) hc hN hi ok hpg hpt hpe hs) (lcM_read hg ht (fun _ _ _ h => h))
/-- x = [.. for ..] on one line -/
theorem sg_asgLcM (i : Nat) {y : Str} {py : Pos} {scope : Scope} {own : List (Str × Nat)} {g : TG} {set : D → Rho → Option Rho} {tt : TT} (hc : X.calm = true) (hN : X.N.Nodup) (hi : PI X tg iter (tMI X.K X.mg W fi)) (ok : BlkOk X.N X.env.scope scope own) (hg : TgD X.K g set (own.map (·.2)))
    (hpg : ∀ (s : Shared) (H : Hp) (C : Addr) (cl : List (Str × Addr)) (fp : List Addr), PG (X.blk s H scope (compEnvC scope cl C X.env) fp) tg g)
    (ht : ∀ σ H Q, tMT X.K X.mg WF ft σ H Q → tt σ H Q) (hpt : ∀ (s : Shared) (H : Hp) (C : Addr) (cl : List (Str × Addr)) (fp : List Addr), PTs (X.blk s H scope (compEnvC scope cl C X.env) fp) ifs tt)
    (hpe : ∀ (s : Shared) (H : Hp) (C : Addr) (cl : List (Str × Addr)) (fp : List Addr), PE (X.blk s H scope (compEnvC scope cl C X.env) fp) elt (tM X.K X.mg WF fe)) (hs : ∀ x, foldedSetIterable iter X.env x = pure x := by intro _; rfl)
    (hy : X.N[i]? = some y := by rfl) (hyl : X.env.scope.names.lookup y = some .local := by rfl) (hsw : swapsWith (.ListComp elt [⟨tg, iter, ifs, 0⟩] scope pos) (some (.Name y py)) spos.line X.env = pure true := by exact sw_true rfl rfl rfl (by decide +kernel)) :
    PS X (.Assign [.Name y py] (.ListComp elt [⟨tg, iter, ifs, 0⟩] scope pos) spos) (tG X.K X.mg W (gAsg (st1 i) (mLc fi set ft fe (own.map (·.2))))) := by
  refine ps_imp (ps_setLc (own := own) (g := g) (tt := tt) hc hN hy hyl hsw hi ok hpg hpt hpe hs) fun Dn σ H ⟨μ, Hs, ρ, S, fl, S1, s, env, e, k⟩ => ?_
  obtain ⟨q, S2, e1, P1⟩ := aft_bind env e k
  refine lcM_read hg ht (fun _ _ _ h => h) _ _ _ ⟨μ, Hs, ρ, S, q, S2, s, env, e1, P1.imp fun d μ1 Hs1 H1 g1 s1 ⟨_, _, env1, e2, k2⟩ v rv => ?_⟩
  cases e2
  exact k2 (σ.set i (some v)) μ1 Hs1 H1 (Gr.refl _ _) s1 (paired_set ⟨v, rfl, rv⟩ i env1)
end
/-! what it is worth -/
section
variable {Q : D → Store → Prop} {E : Exn → Store → Prop} {ρ : Rho} {S : Store} {fi : SFi} {fe : SF} {ft : SFt} {set : D → Rho → Option Rho} {vs : List Nat}
theorem goL_inv {n0 : Nat} {chk : Store → Prop} (P : List D → Store → Prop) (hc : ∀ l S, P l S → chk S)
    (hs : ∀ d l S, P (d :: l) S → ∃ ρ', set d ρ = some ρ' ∧ Ev (ft ρ' S) (fun b S1 => if b = true then Ev (fe ρ' S1) (fun y S2 => ∃ acc, S2[n0]? = some (.lst acc) ∧ acc.length < sizeLine ∧ P l (S2.set n0 (.lst (acc ++ [y])))) (fun _ _ => False) else P l S1) (fun _ _ => False)) : ∀ (ds : List D) (S : Store), P ds S → ∃ S', goL n0 chk set ft fe ρ ds S = some S' ∧ P [] S'
  | [], S, h => ⟨S, by unfold goL; rw [if_pos (hc _ _ h)], h⟩
  | d :: ds, S, h => by
    obtain ⟨ρ', h1, h2⟩ := hs d ds S h
    unfold goL
    rw [if_pos (hc _ _ h), h1, b1_some]
    cases q : ft ρ' S with
    | none => rw [q] at h2; exact h2.elim
    | some p =>
      obtain ⟨r, S1⟩ := p
      rw [q] at h2
      cases r with
      | er x => exact (h2 : False).elim
      | ok b =>
        cases b with
        | false => simpa using goL_inv P hc hs ds S1 (by simpa [Ev] using h2)
        | true =>
          have h3 : Ev (fe ρ' S1) (fun y S2 => ∃ acc, S2[n0]? = some (.lst acc) ∧ acc.length < sizeLine ∧ P ds (S2.set n0 (.lst (acc ++ [y])))) (fun _ _ => False) := h2
          cases qe : fe ρ' S1 with
          | none => rw [qe] at h3; exact h3.elim
          | some pe =>
            obtain ⟨re, S2⟩ := pe
            rw [qe] at h3
            cases re with
            | er x => exact (h3 : False).elim
            | ok y =>
              obtain ⟨acc, k1, k2, k3⟩ := h3
              obtain ⟨S', k4, k5⟩ := goL_inv P hc hs ds _ k3
              refine ⟨S', ?_, k5⟩
              simp only [if_true, qe, k1]
              rw [if_pos k2]
              exact k4
theorem v_lc (h : Ev (fi ρ S) (fun p S1 => ∃ S2, goL S1.length p.2 set ft fe (wipeR ρ vs) p.1 (S1 ++ [.lst []]) = some S2 ∧ Q (.loc S1.length) S2) E) : Ev (mLc fi set ft fe vs ρ S) Q E :=
  ev_sb (h.mono (fun p S1 ⟨S2, h1, h2⟩ => ev_b1 h1 h2) fun _ _ e => e)
end
end Pd

/-! Lc1: dicts as cells. -/
namespace Pd
open PySem PySem.Spec L2 SkE
open PyProof.Rows hiding St
def keyD : D → Option Key
  | .str x => some (.inr x)
  | .int i => some (.inl i)
  | _ => none
def dKey : Key → D
  | .inl i => .int i
  | .inr x => .str x
theorem keyD_rp {K : PySem.W.Frag} {μ : List Addr} {H : Hp} {d : D} {k : Key} {v : V} (h : keyD d = some k) (r : Rp K μ H v d) : v = kV k := by
  cases d with
  | str x => cases h; cases r; rfl
  | int i => cases h; cases r; rfl
  | _ => cases h
theorem dKey_rp {K : PySem.W.Frag} {μ : List Addr} {H : Hp} : ∀ k : Key, Rp K μ H (kV k) (dKey k)
  | .inl i => .int i
  | .inr x => .str x
def valK (kv : List (Key × D)) (k : Key) : Option D := (kv.find? fun p => decide (p.1 = k)).map (·.2)
def putDk (kv : List (Key × D)) (k : Key) (d : D) : List (Key × D) := if (kv.any fun p => decide (p.1 = k)) = true then kv.map (fun p => if p.1 = k then (p.1, d) else p) else kv ++ [(k, d)]
section
variable {K : PySem.W.Frag} {mg : Str → Option Value} {μ : List Addr} {Hs H : Hp} {S : Store}
theorem val_rel {k : Key} : ∀ {vs : List (Key × V)} {kv : List (Key × D)}, FRp K μ H vs kv → (valV vs k = none ∧ valK kv k = none) ∨ ∃ v d, valV vs k = some v ∧ valK kv k = some d ∧ Rp K μ H v d
  | _, _, .nil => .inl ⟨rfl, rfl⟩
  | (k1, v) :: vs, (k2, d) :: kv, .cons ⟨h1, h2⟩ t => by
    cases (show k1 = k2 from h1)
    by_cases hk : k1 = k
    · exact .inr ⟨v, d, by simp [valV, hk], by simp [valK, hk], h2⟩
    · rcases val_rel (k := k) t with ⟨a, b⟩ | ⟨v', d', a, b, c⟩
      · exact .inl ⟨by rw [valV_neg hk]; exact a, by unfold valK at b ⊢; simp only [List.find?_cons, hk, decide_false]; exact b⟩
      · exact .inr ⟨v', d', by rw [valV_neg hk]; exact a, by unfold valK at b ⊢; simp only [List.find?_cons, hk, decide_false]; exact b, c⟩
theorem any_rel {k : Key} : ∀ {vs : List (Key × V)} {kv : List (Key × D)}, FRp K μ H vs kv → (vs.any fun p => decide (p.1 = k)) = (kv.any fun p => decide (p.1 = k))
  | _, _, .nil => rfl
  | (k1, v) :: vs, (k2, d) :: kv, .cons ⟨h1, h2⟩ t => by
    cases (show k1 = k2 from h1)
    rw [List.any_cons, List.any_cons, any_rel t]
theorem put_rel {k : Key} {v : V} {d : D} (r : Rp K μ H v d) {vs : List (Key × V)} {kv : List (Key × D)} (h : FRp K μ H vs kv) : FRp K μ H (putK vs k v) (putDk kv k d) := by
  have mp : ∀ {vs : List (Key × V)} {kv : List (Key × D)}, FRp K μ H vs kv → FRp K μ H (vs.map fun p => if p.1 = k then (p.1, v) else p) (kv.map fun p => if p.1 = k then (p.1, d) else p) := by
    intro vs
    induction vs with
    | nil => intro kv h; cases h; exact .nil
    | cons p vs ih =>
      intro kv h
      cases h with
      | @cons _ q _ kv' h1 t =>
        obtain ⟨k1, v1⟩ := p
        obtain ⟨k2, d2⟩ := q
        obtain ⟨e, h2⟩ := h1
        cases (show k1 = k2 from e)
        rw [List.map_cons, List.map_cons]
        refine .cons ?_ (ih t)
        by_cases hk : k1 = k
        · rw [if_pos hk, if_pos hk]
          exact ⟨rfl, r⟩
        · rw [if_neg hk, if_neg hk]
          exact ⟨rfl, h2⟩
  have app : ∀ {vs : List (Key × V)} {kv : List (Key × D)}, FRp K μ H vs kv → FRp K μ H (vs ++ [(k, v)]) (kv ++ [(k, d)]) := by
    intro vs
    induction vs with
    | nil => intro kv h; cases h; exact .cons ⟨rfl, r⟩ .nil
    | cons p vs ih =>
      intro kv h
      cases h with
      | cons h1 t => exact .cons h1 (ih t)
  unfold putK putDk
  rw [any_rel h]
  split
  · exact mp h
  · exact app h
def dctAt (S : Store) : D → Option (Nat × List (Key × D))
  | .loc n => match S[n]? with
    | some (.dct kv) => some (n, kv)
    | _ => none
  | _ => none
theorem dctAt_eq {d : D} {n : Nat} {kv : List (Key × D)} (h : dctAt S d = some (n, kv)) : d = .loc n ∧ S[n]? = some (.dct kv) := by
  cases d with
  | loc m =>
    simp only [dctAt] at h
    cases q : S[m]? with
    | none => rw [q] at h; cases h
    | some c =>
      rw [q] at h
      cases c with
      | dct kv => cases h; exact ⟨rfl, q⟩
      | _ => cases h
  | _ => cases h
theorem dct_at {n : Nat} {kv : List (Key × D)} {v : V} (s : Sim K mg μ Hs H S) (r : Rp K μ Hs v (.loc n)) (h : S[n]? = some (.dct kv)) : ∃ a vs, v = .ref a ∧ μ[n]? = some a ∧ H a = some (.dK vs) ∧ FRp K μ Hs vs kv := by
  cases r with
  | loc q =>
    obtain ⟨⟨vs, k1, k2⟩, _⟩ := s.cell n _ _ q h
    exact ⟨_, vs, rfl, q, k1, k2⟩
theorem frp_len : ∀ {vs : List (Key × V)} {kv : List (Key × D)}, FRp K μ H vs kv → vs.length = kv.length
  | _, _, .nil => rfl
  | _, _, .cons _ t => by rw [List.length_cons, List.length_cons, frp_len t]
theorem frp_keys : ∀ {vs : List (Key × V)} {kv : List (Key × D)}, FRp K μ H vs kv → RpA K μ H (vs.map fun p => kV p.1) (kv.map fun p => dKey p.1)
  | _, _, .nil => .nil
  | (k1, v) :: vs, (k2, d) :: kv, .cons ⟨h1, _⟩ t => .cons (by cases (show k1 = k2 from h1); exact dKey_rp _) (frp_keys t)
theorem frp_fst : ∀ {vs : List (Key × V)} {kv : List (Key × D)}, FRp K μ H vs kv → vs.map (·.1) = kv.map (·.1)
  | _, _, .nil => rfl
  | _, _, .cons h t => by rw [List.map_cons, List.map_cons, frp_fst t, h.1]
end
/-! expressions -/
def mDict0 : SF := fun _ S => some (.ok (.loc S.length), S ++ [.dct []])
def mDGet (f g : SF) : SF := fun ρ S => sb (f ρ S) fun d S1 => sb (g ρ S1) fun e S2 => b1 (dctAt S2 d) fun q => b1 (keyD e) fun k => b1 (valK q.2 k) fun v => some (.ok v, S2)
def mDGet1 (f g : SF) : SF := fun ρ S => sb (f ρ S) fun d S1 => if (dctAt S1 d).isSome = true then sb (g ρ S1) fun e S2 => b1 (dctAt S2 d) fun q => b1 (keyD e) fun k => some (.ok ((valK q.2 k).getD .non), S2) else none
def mDIn (n : Bool) (f g : SF) : SF := fun ρ S => sb (f ρ S) fun e S1 => sb (g ρ S1) fun d S2 => b1 (dctAt S2 d) fun q => b1 (keyD e) fun k => some (.ok (.bool ((valK q.2 k).isSome != n)), S2)
def gDPut (v o i : SF) : SG := fun ρ S => ev (v ρ S) ρ fun d S1 => ev (o ρ S1) ρ fun e S2 => ev (i ρ S2) ρ fun y S3 => b1 (dctAt S3 e) fun q => b1 (keyD y) fun k => if q.2.length < sizeLine then some (.nx ρ, S3.set q.1 (.dct (putDk q.2 k d))) else none
/-- list(d), the keys -/
def mDKeys (f : SF) : SF := fun ρ S => sb (f ρ S) fun d S1 => b1 (dctAt S1 d) fun q => some (.ok (.loc S1.length), S1 ++ [.lst (q.2.map fun p => dKey p.1)])
section
variable {X : Cx} {W : WX} {e o i : Expr} {pos cpos apos p : Pos} {f g h : SF}
theorem s_dict0 : PE X (.Dict [] [] pos) (tM X.K X.mg W mDict0) := by
  refine pe_imp pe_dnewK fun σ H Q ⟨μ, Hs, ρ, S, r, S1, s, env, e, P⟩ p hp => ?_
  cases e
  obtain ⟨s2, g2⟩ := s.alloc (c := .dct []) (o := .dK []) hp ⟨[], upd_same, .nil⟩
  exact P _ _ _ g2 s2 _ (loc_new s.len)
theorem s_dget (hu : X.A.units + 1 < cLine) (ho : PE X o (tM X.K X.mg W f)) (hi : PE X i (tM X.K X.mg W g)) (hs : NoSl i := by intro _ _; rfl) : PE X (.Subscript o i pos) (tM X.K X.mg W (mDGet f g)) := by
  refine pe_imp (pe_dget hu ho hi hs) fun σ H Q ⟨μ, Hs, ρ, S, r, S1, s, env, e, P⟩ => ?_
  obtain ⟨q, S2, e1, P1⟩ := post_bind e P
  refine ⟨μ, Hs, ρ, S, q, S2, s, env, e1, P1.imp fun d μ1 Hs1 H1 g1 s1 ⟨_, _, e2, P2⟩ v rv => ?_⟩
  obtain ⟨q2, S3, e3, P3⟩ := post_bind e2 P2
  refine ⟨μ1, Hs1, ρ, S2, q2, S3, s1, env.gr g1, e3, P3.imp fun d2 μ2 Hs2 H2 g2 s2 ⟨_, _, e4, P4⟩ u ru => ?_⟩
  obtain ⟨⟨n, kv⟩, e5, e6⟩ := b1_eq e4
  obtain ⟨k, e7, e8⟩ := b1_eq e6
  obtain ⟨o, e9, e10⟩ := b1_eq e8
  cases e10
  obtain ⟨rfl, e11⟩ := dctAt_eq e5
  obtain ⟨a, vs, rfl, j1, j2, j3⟩ := dct_at s2 (rv.gr g2) e11
  rcases val_rel (k := k) j3 with ⟨_, z⟩ | ⟨w, d', z1, z2, z3⟩
  · rw [z] at e9; cases e9
  · rw [z2] at e9
    cases e9
    refine ⟨a, w, rfl, ?_, P4 μ2 Hs2 H2 (Gr.refl _ _) s2 w z3⟩
    rw [keyD_rp e7 ru, ← z1]
    exact DGet.k j2
theorem s_dget1 (hu : X.A.units + 1 < cLine) (ho : PE X o (tM X.K X.mg W f)) (he : PE X e (tM X.K X.mg W g)) (hbase : attributeBase o "get" X.env (eval o X.env) = eval o X.env := by rfl)
    (hfew : ((backTo cpos (starEach [e] X.env)).all (fun x => !x.1) && (backToKw cpos (keywordEach [] X.env)).all (fun x => x.1.isSome) && decide (([e] : List Expr).length + ([] : List Keyword).length + (if ([] : List Keyword).isEmpty then 0 else 1) < 30)) = true := by rfl)
    (hline : (apos.endLine == cpos.line) = true := by rfl) (htr : backTo cpos (starEach [e] X.env) = [(false, eval e X.env)] := by rfl) : PE X (.Call (.Attribute o "get" apos) [e] [] cpos) (tM X.K X.mg W (mDGet1 f g)) := by
  refine pe_imp (pe_dget1 hu ho he ⟨hbase, hfew, hline, htr⟩) fun σ H Q ⟨μ, Hs, ρ, S, r, S1, s, env, e, P⟩ => ?_
  obtain ⟨q, S2, e1, P1⟩ := post_bind e P
  refine ⟨μ, Hs, ρ, S, q, S2, s, env, e1, P1.imp fun d μ1 Hs1 H1 g1 s1 ⟨_, _, e2, P2⟩ v rv => ?_⟩
  obtain ⟨hsome, e2⟩ := ite_opt e2
  obtain ⟨⟨n, kv⟩, hq⟩ := Option.isSome_iff_exists.mp hsome
  obtain ⟨rfl, hn⟩ := dctAt_eq hq
  obtain ⟨a, vs, rfl, j1, j2, j3⟩ := dct_at s1 rv hn
  obtain ⟨q2, S3, e3, P3⟩ := post_bind e2 P2
  refine ⟨a, rfl, .inl ⟨vs, .inl j2⟩, μ1, Hs1, ρ, S2, q2, S3, s1, env.gr g1, e3, P3.imp fun d2 μ2 Hs2 H2 g2 s2 ⟨_, _, e4, P4⟩ u ru => ?_⟩
  obtain ⟨⟨n', kv'⟩, e5, e6⟩ := b1_eq e4
  obtain ⟨k, e7, e8⟩ := b1_eq e6
  cases e8
  obtain ⟨e9, e11⟩ := dctAt_eq e5
  cases e9
  obtain ⟨a', vs', ea, i1, i2, i3⟩ := dct_at s2 (rv.gr g2) e11
  cases ea
  refine ⟨valV vs' k, by rw [keyD_rp e7 ru]; exact DGet.k i2, ?_⟩
  rcases val_rel (k := k) i3 with ⟨z1, z2⟩ | ⟨w, d', z1, z2, z3⟩
  · rw [z1]
    exact P4 μ2 Hs2 H2 (Gr.refl _ _) s2 _ (by rw [z2]; exact .non)
  · rw [z1]
    exact P4 μ2 Hs2 H2 (Gr.refl _ _) s2 _ (by rw [z2]; exact z3)
theorem dIn_read {n : Bool} {f g : SF} : ∀ σ H Q, tM X.K X.mg W (mDIn n f g) σ H Q → (tM X.K X.mg W f) σ H fun y H1 => (tM X.K X.mg W g) σ H1 fun x H2 => ∃ a o, x = .ref a ∧ DGet H2 a y o ∧ Q (.bl (o.isSome != n)) H2 := by
  rintro σ H Q ⟨μ, Hs, ρ, S, r, S1, s, env, e, P⟩
  obtain ⟨q, S2, e1, P1⟩ := post_bind e P
  refine ⟨μ, Hs, ρ, S, q, S2, s, env, e1, P1.imp fun d μ1 Hs1 H1 g1 s1 ⟨_, _, e2, P2⟩ v rv => ?_⟩
  obtain ⟨q2, S3, e3, P3⟩ := post_bind e2 P2
  refine ⟨μ1, Hs1, ρ, S2, q2, S3, s1, env.gr g1, e3, P3.imp fun d2 μ2 Hs2 H2 g2 s2 ⟨_, _, e4, P4⟩ u ru => ?_⟩
  obtain ⟨⟨m, kv⟩, e5, e6⟩ := b1_eq e4
  obtain ⟨k, e7, e8⟩ := b1_eq e6
  cases e8
  obtain ⟨rfl, e11⟩ := dctAt_eq e5
  obtain ⟨a, vs, rfl, j1, j2, j3⟩ := dct_at s2 ru e11
  refine ⟨a, valV vs k, rfl, by rw [keyD_rp e7 (rv.gr g2)]; exact DGet.k j2, ?_⟩
  have he : (valV vs k).isSome = (valK kv k).isSome := by
    rcases val_rel (k := k) j3 with ⟨z1, z2⟩ | ⟨w, d', z1, z2, z3⟩ <;> rw [z1, z2] <;> rfl
  rw [he]
  exact P4 μ2 Hs2 H2 (Gr.refl _ _) s2 _ (.bool _)
theorem pc_in (hu : X.A.units + 1 < cLine) (hi : PE X i (tM X.K X.mg W f)) (ho : PE X o (tM X.K X.mg W g)) : PC X .In i o (tM X.K X.mg W (mDIn false f g)) :=
  ⟨fun pins s σ H Q I h => (pc_din hu hi ho).run pins s σ H Q I (by
    have := dIn_read σ H Q h
    simpa [tDIn] using this)⟩
theorem pc_nin (hu : X.A.units + 1 < cLine) (hi : PE X i (tM X.K X.mg W f)) (ho : PE X o (tM X.K X.mg W g)) : PC X .NotIn i o (tM X.K X.mg W (mDIn true f g)) :=
  ⟨fun pins s σ H Q I h => (pc_dnotin hu hi ho).run pins s σ H Q I (by
    have := dIn_read σ H Q h
    simpa [tDNotIn] using this)⟩
theorem s_din (hu : X.A.units + 1 < cLine) (hi : PE X i (tM X.K X.mg W f)) (ho : PE X o (tM X.K X.mg W g)) (hm : behindInMarks .In o = false := by first | exact nomark _ | rfl) : PE X (.Compare i [.In] [o] pos) (tM X.K X.mg W (mDIn false f g)) := pe_cmp (pc_in hu hi ho) hm
theorem s_dnin (hu : X.A.units + 1 < cLine) (hi : PE X i (tM X.K X.mg W f)) (ho : PE X o (tM X.K X.mg W g)) (hm : behindInMarks .NotIn o = false := by first | exact nomark _ | rfl) : PE X (.Compare i [.NotIn] [o] pos) (tM X.K X.mg W (mDIn true f g)) := pe_cmp (pc_nin hu hi ho) hm
theorem st_din (hu : X.A.units + 1 < cLine) (hi : PE X i (tM X.K X.mg W f)) (ho : PE X o (tM X.K X.mg W g)) (hm : behindInMarks .In o = false := by first | exact nomark _ | rfl) : PT X (.Compare i [.In] [o] pos) (tMT X.K X.mg W (mtB (mDIn false f g))) := pt_imp (pt_cmp (pc_in hu hi ho) hm) tM_B
theorem st_dnin (hu : X.A.units + 1 < cLine) (hi : PE X i (tM X.K X.mg W f)) (ho : PE X o (tM X.K X.mg W g)) (hm : behindInMarks .NotIn o = false := by first | exact nomark _ | rfl) : PT X (.Compare i [.NotIn] [o] pos) (tMT X.K X.mg W (mtB (mDIn true f g))) := pt_imp (pt_cmp (pc_nin hu hi ho) hm) tM_B
theorem sg_dput {value : Expr} {v : SF} {pos' : Pos} (hu : X.A.units + 1 < cLine) (hv : PE X value (tM X.K X.mg W v)) (ho : PE X o (tM X.K X.mg W f)) (hi : PE X i (tM X.K X.mg W g)) (hs : swapsWith value (some (.Subscript o i pos')) pos.line X.env = pure false := by rfl) :
    PS X (.Assign [.Subscript o i pos'] value pos) (tG X.K X.mg W (gDPut v f g)) := by
  refine ps_imp (ps_dput hu ho hi hv hs) fun Dn σ H ⟨μ, Hs, ρ, S, fl, S1, s, env, e, k⟩ => ?_
  obtain ⟨q, S2, e1, P1⟩ := aft_bind env e k
  refine ⟨μ, Hs, ρ, S, q, S2, s, env, e1, P1.imp fun d μ1 Hs1 H1 g1 s1 ⟨_, _, env1, e2, k2⟩ v rv => ?_⟩
  obtain ⟨q2, S3, e3, P3⟩ := aft_bind env1 e2 k2
  refine ⟨μ1, Hs1, ρ, S2, q2, S3, s1, env1, e3, P3.imp fun d2 μ2 Hs2 H2 g2 s2 ⟨_, _, env2, e4, k4⟩ u ru => ?_⟩
  obtain ⟨q3, S4, e5, P5⟩ := aft_bind env2 e4 k4
  refine ⟨μ2, Hs2, ρ, S3, q3, S4, s2, env2, e5, P5.imp fun d3 μ3 Hs3 H3 g3 s3 ⟨_, _, env3, e6, k6⟩ w rw => ?_⟩
  obtain ⟨⟨n, kv⟩, e7, e8⟩ := b1_eq e6
  obtain ⟨kk, e9, e10⟩ := b1_eq e8
  obtain ⟨hz, h2⟩ := ite_some e10
  cases h2
  obtain ⟨rfl, e11⟩ := dctAt_eq e7
  obtain ⟨a, vs, rfl, j1, j2, j3⟩ := dct_at s3 (ru.gr g3) e11
  refine ⟨a, _, rfl, by rw [keyD_rp e9 rw]; exact DPut.k j2 (by rw [frp_len j3]; exact hz), ?_⟩
  exact k6 σ μ3 Hs3 _ (Gr.refl _ _) (s3.write (c := .dct (putDk kv kk d)) j1 ⟨_, upd_same, put_rel ((rv.gr g2).gr g3) j3⟩) env3
theorem s_dkeys (hc : X.calm = true) (hm : X.mg "list" = none) (ha : PE X e (tM X.K X.mg W f)) (hg : Gl X "list" := by rfl) (he : starEach [e] X.env = (false, eval e X.env) :: starEach [] X.env := by rfl) (hpl : (backTo pos (starEach [] X.env)).any (·.1) = false := by rfl) :
    PE X (.Call (.Name "list" p) [e] [] pos) (tM X.K X.mg W (mDKeys f)) := by
  refine pe_imp (pe_callTy (call_listD hc) hg hm (by decide +kernel) (pa_cons ha pa_nil he) (by decide) (by decide) he hpl) fun σ H Q ⟨μ, Hs, ρ, S, r, S1, s, env, e, P⟩ => ?_
  obtain ⟨q, S2, e1, P1⟩ := post_bind e P
  refine ⟨μ, Hs, ρ, S, q, S2, s, env, e1, P1.imp fun d μ1 Hs1 H1 g1 s1 ⟨_, _, e2, P2⟩ v rv => ?_⟩
  obtain ⟨⟨n, kv⟩, e5, e6⟩ := b1_eq e2
  cases e6
  obtain ⟨rfl, e11⟩ := dctAt_eq e5
  obtain ⟨a, vs, rfl, j1, j2, j3⟩ := dct_at s1 rv e11
  refine ⟨a, vs, rfl, .inl j2, fun p hp => ?_⟩
  obtain ⟨s2, g2⟩ := s1.alloc (c := .lst (kv.map fun p => dKey p.1)) (o := .lst (vs.map fun p => kV p.1)) hp ⟨_, upd_same, (frp_keys j3).gr ⟨⟨[p], rfl⟩, Same.refl _⟩⟩
  exact P2 _ _ _ g2 s2 _ (loc_new s1.len)
theorem room1 {k : Nat} {A : Around} (r : Room k A) : A.units + 1 < cLine := by have := r.un; omega
end
/-! what they are worth -/
section
variable {Q : D → Store → Prop} {E : Exn → Store → Prop} {QG : Fx → Store → Prop} {ρ : Rho} {S : Store} {f g h : SF}
theorem dc_at {n : Nat} {kv : List (Key × D)} (h : S[n]? = some (.dct kv)) : dctAt S (.loc n) = some (n, kv) := by
  show (match S[n]? with | some (.dct kv) => some (n, kv) | _ => none) = _
  rw [h]
theorem v_dict0 (q : Q (.loc S.length) (S ++ [.dct []])) : Ev (mDict0 ρ S) Q E := q
theorem v_dget (hh : Ev (f ρ S) (fun d S1 => Ev (g ρ S1) (fun e S2 => ∃ n kv k v, d = .loc n ∧ S2[n]? = some (.dct kv) ∧ keyD e = some k ∧ valK kv k = some v ∧ Q v S2) E) E) : Ev (mDGet f g ρ S) Q E :=
  ev_sb (hh.mono (fun d S1 h2 => ev_sb (h2.mono (fun e S2 ⟨n, kv, k, v, e1, h3, h4, h5, q⟩ => by subst e1; exact ev_b1 (dc_at h3) (ev_b1 h4 (ev_b1 h5 q))) fun _ _ e => e)) fun _ _ e => e)
theorem v_dget1 (hh : Ev (f ρ S) (fun d S1 => ∃ n kv0, d = .loc n ∧ S1[n]? = some (.dct kv0) ∧ Ev (g ρ S1) (fun e S2 => ∃ kv k, S2[n]? = some (.dct kv) ∧ keyD e = some k ∧ Q ((valK kv k).getD .non) S2) E) E) : Ev (mDGet1 f g ρ S) Q E :=
  ev_sb (hh.mono (fun d S1 ⟨n, kv0, e1, h1, h2⟩ => by
    subst e1
    exact ev_if (by rw [dc_at h1]; rfl) (ev_sb (h2.mono (fun e S2 ⟨kv, k, h3, h4, q⟩ => ev_b1 (dc_at h3) (ev_b1 h4 q)) fun _ _ e => e))) fun _ _ e => e)
theorem v_din {n : Bool} (hh : Ev (f ρ S) (fun e S1 => Ev (g ρ S1) (fun d S2 => ∃ m kv k, d = .loc m ∧ S2[m]? = some (.dct kv) ∧ keyD e = some k ∧ Q (.bool ((valK kv k).isSome != n)) S2) E) E) : Ev (mDIn n f g ρ S) Q E :=
  ev_sb (hh.mono (fun d S1 h2 => ev_sb (h2.mono (fun e S2 ⟨m, kv, k, e1, h3, h4, q⟩ => by subst e1; exact ev_b1 (dc_at h3) (ev_b1 h4 q)) fun _ _ e => e)) fun _ _ e => e)
theorem v_dkeys (hh : Ev (f ρ S) (fun d S1 => ∃ n kv, d = .loc n ∧ S1[n]? = some (.dct kv) ∧ Q (.loc S1.length) (S1 ++ [.lst (kv.map fun p => dKey p.1)])) E) : Ev (mDKeys f ρ S) Q E :=
  ev_sb (hh.mono (fun d S1 ⟨n, kv, e1, h3, q⟩ => by subst e1; exact ev_b1 (dc_at h3) q) fun _ _ e => e)
theorem vs_dput (hh : Ev (f ρ S) (fun d S1 => Ev (g ρ S1) (fun e S2 => Ev (h ρ S2) (fun y S3 => ∃ n kv k, e = .loc n ∧ S3[n]? = some (.dct kv) ∧ keyD y = some k ∧ kv.length < sizeLine ∧ QG (.nx ρ) (S3.set n (.dct (putDk kv k d)))) (fun x S1 => QG (.er x ρ) S1)) (fun x S1 => QG (.er x ρ) S1)) (fun x S1 => QG (.er x ρ) S1)) : EG (gDPut f g h ρ S) QG :=
  eg_ev (hh.mono (fun d S1 h2 => eg_ev (h2.mono (fun e S2 h3 => eg_ev (h3.mono (fun y S3 ⟨n, kv, k, e1, e2, e3, e4, q⟩ => by
    subst e1
    rw [dc_at e2]
    show EG (b1 (keyD y) _) QG
    rw [e3]
    show EG (if kv.length < sizeLine then _ else none) QG
    rw [if_pos e4]
    exact q) fun _ _ e => e)) fun _ _ e => e)) fun _ _ e => e)
end
end Pd

/-! Lc2: several names as a target, enumerate with a start, tuple of a list's cell, a dict's cell locked while its items are walked. -/
namespace Pd
open PySem PySem.Spec L2 SkE
open PyProof.Rows hiding St
/-! targets of n names -/
def setN : List Nat → List D → Rho → Option Rho
  | [], [], ρ => some ρ
  | i :: is, d :: ds, ρ => setN is ds (ρ.set i (.val d))
  | _, _, _ => none
def stN (is : List Nat) : D → Rho → Option Rho := fun d ρ => match d with
  | .tup ds => setN is ds ρ
  | _ => none
def gNames : List Nat → TGs
  | [] => L2.gNil
  | i :: is => gCons (gName i) (gNames is)
theorem setN_len : ∀ {is : List Nat} {ds : List D} {ρ ρ' : Rho}, setN is ds ρ = some ρ' → is.length = ds.length
  | [], [], _, _, _ => rfl
  | i :: is, d :: ds, _, _, h => by rw [List.length_cons, List.length_cons, setN_len (is := is) (ds := ds) h]
theorem setN_keep : ∀ {is : List Nat} {ds : List D} {ρ ρ' : Rho}, setN is ds ρ = some ρ' → ∀ i, i ∉ is → ρ'[i]? = ρ[i]?
  | [], [], _, _, h, _, _ => by cases h; rfl
  | j :: is, d :: ds, ρ, _, h, i, hi => by
    have hi' : i ≠ j ∧ i ∉ is := by simpa using hi
    rw [setN_keep (is := is) (ds := ds) h i hi'.2, get_set_ne' hi'.1]
theorem setN_put : ∀ {is : List Nat} {ds : List D} {ρ ρ' : Rho}, setN is ds ρ = some ρ' → ∀ (i : Nat) (x : Sl), ρ'[i]? = some x → (∃ d', x = .val d') ∨ ρ[i]? = some x
  | [], [], _, _, h, _, _, hx => by cases h; exact .inr hx
  | j :: is, d :: ds, ρ, _, h, i, x, hx => by
    rcases setN_put (is := is) (ds := ds) h i x hx with z | z
    · exact .inl z
    · exact get_set_val z
theorem setN_run {K : PySem.W.Frag} {μ : List Addr} {Hs H : Hp} : ∀ {is : List Nat} {ds : List D} {vs : List V} {σ : St} {ρ ρ' : Rho} (k : St → Hp → Prop), VEnv K μ Hs σ ρ → setN is ds ρ = some ρ' → RpA K μ Hs vs ds →
    (∀ σ', VEnv K μ Hs σ' ρ' → σ'.length = σ.length → (∀ i, i ∉ is → σ'[i]? = σ[i]?) → k σ' H) → gNames is vs σ H k
  | [], [], vs, σ, ρ, ρ', k, env, h, r, kk => by cases r; cases h; exact ⟨rfl, kk σ env rfl fun _ _ => rfl⟩
  | i :: is, d :: ds, vs, σ, ρ, ρ', k, env, h, r, kk => by
    cases r with
    | @cons v vs _ _ r1 r2 =>
      refine ⟨v, vs, rfl, setN_run (is := is) (ds := ds) k (paired_set ⟨v, rfl, r1⟩ i env) h r2 fun σ' e1 e2 e3 => kk σ' e1 (by simpa using e2) fun m hm => ?_⟩
      have hm' : m ≠ i ∧ m ∉ is := by simpa using hm
      rw [e3 m hm'.2, get_set_ne' hm'.1]
theorem tg_N {K : PySem.W.Frag} (is : List Nat) : TgD K (gTup K is.length (gNames is)) (stN is) is := by
  refine ⟨fun μ Hs H σ ρ d ρ' v k s env e r kk => ?_, fun d ρ ρ' e m hm => ?_, fun d ρ ρ' e m x hm hx => ?_⟩
  · cases d with
    | tup ds =>
      cases r with
      | tup h1 h2 => exact ⟨_, _, rfl, sqT_mono s h1, by rw [h2.len]; exact (setN_len e).symm, setN_run k env e h2 kk⟩
    | _ => cases e
  · cases d with
    | tup ds => exact setN_keep e m hm
    | _ => cases e
  · cases d with
    | tup ds => exact setN_put e m x hx
    | _ => cases e
/-! enumerate(list, k) -/
/-- the list at a as it stands at each turn, each item in a new pair with its number from k0 on -/
def Itek (K : PySem.W.Frag) (k0 : Nat) (a : Addr) : It :=
  ⟨fun i H => ∃ (xs : List V) (x : V), SqL K H a xs ∧ xs[i]? = some x, fun i H v H' => ∃ T x, v = .ref T ∧ H T = none ∧ H' = upd H T (.tup [.int ((k0 : Int) + (i : Nat)), x]) ∧ ∀ xs, SqL K H a xs → xs[i]? = some x, fun i H => ∃ xs : List V, SqL K H a xs ∧ xs.length ≤ i⟩
theorem enum_end {prog : Program} {w : World} {A : Around} {E : Value → Shared → Prop} {s : Shared} {e it l : Addr} {i : Nat} {c : Int} {items : Array Value} {old : Value} {Q : Option Value → Shared → Prop} (hh : A.handled = none)
    (he : IsEnum s.heap e it c old) (hit : s.heap.IsListIter it l i) (hl : s.heap.IsList l items) (hx : items[i]? = none)
    (hQ : ∀ h', Heap.ExtBut it s.heap h' → Q none { s with heap := h' }) : wpAny (model prog w) A (pyNext (.ref e)) Q E s := by
  have hT : s.TypeIs (.ref e) "enumerate" := ⟨_, he, rfl⟩
  unfold pyNext
  refine wpAny_bind (wpAny_attempt (wpAny_callSpecial?_slot (name := Str.ofString "__next__") hT F.slot_enumerate_next
    (wpAny_call_entry F.slot_enumerate_next hT F.entry_enumerate_next ?_ (F.args_enumerate_next_1 _))))
  show wpAny _ _ (field (.ref e) 2 >>= _) _ _ _
  refine wpAny_bind (wpAny_field he rfl (x := .ref it) rfl ?_)
  refine wpAny_bind (wpAny_nextOf_list_end hh hit hl hx fun h' x he' hx' => ?_)
  obtain ⟨o, ho, hc⟩ := hx'
  refine wpAny_bind (wpAny_isInstance (T := "StopIteration") (b := true) ⟨o, ho, hc⟩ isSubtype_stop ?_)
  exact wpAny_pure (hQ _ he')
theorem turn_enumk {P : Program} {w : World} {K : PySem.W.Frag} {elts : List Expr} {kk : Nat} {tpos : Pos} (k0 : Nat) (a e it : Addr) :
    Turn P w K (.Tuple elts kk tpos) (Itek K k0 a) [e, it] e (fun i h => (∃ old, IsEnum h e it ((k0 : Int) + (i : Nat)) old) ∧ h.IsListIter it a i ∧ e ≠ it ∧ a ≠ it ∧ e ≠ a) where
  mem := by simp
  obj := fun i h st b hb => by
    obtain ⟨⟨old, he⟩, ⟨o, ho, hc, hd⟩, _⟩ := st
    have e' : b = e ∨ b = it := by simpa using hb
    rcases e' with z | z
    · rw [z]; exact ⟨_, he, fun v q => nomatch q⟩
    · rw [z]; exact ⟨o, ho, fun v q => by rw [hd] at q; cases q⟩
  keep := fun i h h' st k => let ⟨⟨old, he⟩, hi, hne⟩ := st; ⟨⟨old, k e (by simp) _ he⟩, hi.at fun o q => k it (by simp) o q, hne⟩
  item := by
    intro X hP hw hK hc i pins s σ H E I hf st hg
    subst hP hw hK
    obtain ⟨⟨old, he⟩, hit, hne, hai, hea⟩ := st
    obtain ⟨xs, x, hq, hx⟩ := hg
    obtain ⟨its, rv, p, hz⟩ := I.list hq
    obtain ⟨u, hu, ru⟩ := rv.get hx
    have hel : e < s.heap.objs.size := Heap.lt_size he
    have hil : it < s.heap.objs.size := by obtain ⟨_, q, _⟩ := hit; exact Heap.lt_size q
    have hh : X.A.in1.handled = none := I.ok.hd hc
    have hsz' : i < its.toArray.size := by
      have := (List.getElem?_eq_some_iff.mp hu).1
      simpa using this
    refine wpAny_pyNext_enum_itemC (Draws.list hh it a hai its.toArray) he ⟨hit, p.isList⟩ hsz' hne (by simp [hne, hea]) fun x' h' tk hPx ho hst' hT hsz hk => ?_
    have hx' : x' = u := by
      have h1 : its.toArray[i]? = some x' := hPx
      have h2 : its[i]? = some x' := by simpa using h1
      rw [hu] at h2
      cases h2; rfl
    subst hx'
    obtain ⟨hit', _⟩ := hst'
    refine ⟨_, rfl, wpAny_letOwnedTupleGo_enum (s := { s with heap := h', toks := tk + 1 }) ho fun h'' he' sb => ?_⟩
    have hT2 : h''.get? s.heap.objs.size = some { cls := .type "tuple", data := .seq #[.int ((k0 : Int) + (i : Nat)) tk, x'] } := (sb.2 _ (Nat.ne_of_gt hel)).trans hT
    have new : ObjOk X.prog X.w (upd H s.heap.objs.size (.tup [.int ((k0 : Int) + (i : Nat)), x])) h'' s.heap.objs.size (.tup [.int ((k0 : Int) + (i : Nat)), x]) :=
      ⟨by show 2 ≤ sizeLine; decide, [.int ((k0 : Int) + (i : Nat)) tk, x'], .cons ⟨_, rfl⟩ (.cons ru .nil), ⟨_, hT2, rfl, _, rfl⟩⟩
    have I1 : Inv X pins σ (upd H s.heap.objs.size (.tup [.int ((k0 : Int) + (i : Nat)), x])) { s with heap := h'', toks := tk + 1 } :=
      I.turnedNew (ch := [e, it]) (fun b ob hb q => (sb.2 b (fun z => hb (by simp [z]))).trans (hk b ob (fun z => hb (by simp [z])) (fun z => hb (by simp [z])) q)) hf (Nat.le_refl _) new
    refine ⟨.ref s.heap.objs.size, _, I1, rfl, ⟨_, x, rfl, I.hok.fresh (Nat.le_refl _), rfl, fun ys hy => by rw [I.list_inj hy hq]; exact hx⟩, ⟨⟨x', ?_⟩, hit'.at fun o q => (sb.2 it (Ne.symm hne)).trans q, hne, hai, hea⟩, fun b hb => ?_⟩
    · have e1 : (k0 : Int) + ((i + 1 : Nat) : Int) = (k0 : Int) + (i : Int) + 1 := by omega
      rw [e1]; exact he'
    · have hb' : b < s.heap.objs.size := by
        have e' : b = e ∨ b = it := by simpa using hb
        rcases e' with z | z
        · rw [z]; exact hel
        · rw [z]; exact hil
      rw [upd_ne (Nat.ne_of_lt hb')]
      exact (hf b hb).1
  done := by
    intro X hP hw hK hc i pins s σ H E I hf st hg
    subst hP hw hK
    obtain ⟨⟨old, he⟩, hit, hne, _⟩ := st
    obtain ⟨xs, hq, hx⟩ := hg
    obtain ⟨its, rv, p, hz⟩ := I.list hq
    obtain ⟨f0, f1, f2, f3, f4, f5⟩ := hf it (by simp)
    have hl := rv.length
    exact enum_end (I.ok.hd hc) he hit p.isList (by simp; omega) fun h' eb => ⟨rfl, I.turned (t' := s.toks) (fun b o hb q => eb b o hb q) f0 f1 f3 f4 f5⟩
  self := fun A i s Q E st h => let ⟨⟨_, he⟩, _⟩ := st; wpAny_pyIter_enum he h
def iEnumK (K : PySem.W.Frag) (ta : TA) : TI := fun σ H R => ta σ H fun vs H1 => ∃ a xs, ∃ k0 : Nat, vs = [.ref a, .int k0] ∧ k0 < 1000 ∧ SqL K H1 a xs ∧ R (Itek K k0 a) H1
theorem pi_enumK {X : Cx} {e e2 : Expr} {ta : TA} {p pos tpos : Pos} {elts : List Expr} {kk : Nat} (hg : Gl X "enumerate") (hm : X.mg "enumerate" = none) (ha : PA X [e, e2] ta) (hs : starEach [e, e2] X.env = (false, eval e X.env) :: starEach [e2] X.env := by rfl) (hpl : (backTo pos (starEach [e2] X.env)).any (·.1) = false := by rfl) :
    PI X (.Tuple elts kk tpos) (.Call (.Name "enumerate" p) [e, e2] [] pos) (iEnumK X.K ta) := by
  refine ⟨fun pins s σ H R I h => ?_⟩
  refine Call_ (ld_blt I hg hm boot_enumerate (PyProof.Rows.callWith_type1 (thn (ha.run pos pins s σ H _ I h) fun us s1 ⟨vs, H1, I1, r1, q1⟩ => ?_) hs hpl))
  obtain ⟨a, xs, k0, ex, hk0, hq, q⟩ := q1
  subst ex
  cases r1 with
  | cons r rr =>
    cases rr with
    | cons r' rr =>
      cases rr
      cases r
      obtain ⟨t, rfl⟩ := r'
      obtain ⟨its, rv, p', hz⟩ := I1.list hq
      have hal : a < s1.heap.objs.size := p'.lt
      refine enum_begins (begins_list a its.toArray) p'.isList (by omega) (by omega) fun h' he hit hsz hk => wpAny_pyIter_enum he ?_
      have I2 : Inv X pins σ H1 { s1 with heap := h' } := I1.kept (t' := s1.toks) hk
      refine ⟨s1.heap.objs.size + 1, [s1.heap.objs.size + 1, s1.heap.objs.size], _, _, H1, rfl, I2, turn_enumk k0 a (s1.heap.objs.size + 1) s1.heap.objs.size, ⟨⟨.none, by simpa using he⟩, ⟨_, hit, rfl, rfl⟩, Nat.succ_ne_self _, Nat.ne_of_lt hal, (Nat.ne_of_lt (Nat.lt_succ_of_lt hal)).symm⟩, fun b hb => ?_, q⟩
      have e' : b = s1.heap.objs.size + 1 ∨ b = s1.heap.objs.size := by simpa using hb
      have hle : s1.heap.objs.size ≤ b := by
        rcases e' with z | z
        · rw [z]; exact Nat.le_add_right _ _
        · rw [z]; exact Nat.le_refl _
      exact I1.fpOk hle (I1.hok.fresh hle)
def listOf (S : Store) (d : D) : Option (List D × (Store → Prop)) := match lsAt S d with
  | some q => some (q.2, fun S => S[q.1]? = some (.lst q.2))
  | none => b1 (match d with | .lst ds => some ds | _ => none) fun ds => some (ds, fun _ => True)
theorem listOf_list {K : PySem.W.Frag} {mg : Str → Option Value} {μ : List Addr} {Hs H : Hp} {S : Store} {d : D} {v : V} {p : List D × (Store → Prop)} (s : Sim K mg μ Hs H S) (r : Rp K μ Hs v d) (h : listOf S d = some p) :
    ∃ a, v = .ref a ∧ (∃ xs, SqL K H a xs) ∧ ∀ μ2 Hs2 H2 S2, Gr μ Hs μ2 Hs2 → Sim K mg μ2 Hs2 H2 S2 → p.2 S2 → ∃ xs, SqL K H2 a xs ∧ RpA K μ2 Hs2 xs p.1 := by
  unfold listOf at h
  split at h
  · rename_i q hq
    obtain ⟨n, ds⟩ := q
    cases h
    obtain ⟨rfl, e3⟩ := lsAt_eq hq
    obtain ⟨a, vs, rfl, k1, k2, k3⟩ := lst_at s r e3
    refine ⟨a, rfl, ⟨vs, SqL.of k2⟩, fun μ2 Hs2 H2 S2 g2 s2 hc => ?_⟩
    obtain ⟨a', vs', ea, j1, j2, j3⟩ := lst_at s2 (r.gr g2) hc
    cases ea
    exact ⟨vs', SqL.of j2, j3⟩
  · obtain ⟨ds, e1, e2⟩ := b1_eq h
    cases e2
    cases d with
    | lst es =>
      cases e1
      cases r with
      | lst h1 h2 => exact ⟨_, rfl, ⟨_, SqL.of (s.sub _ _ h1)⟩, fun μ2 Hs2 H2 S2 g2 s2 _ => ⟨_, SqL.of (s2.sub _ _ (g2.sub _ _ h1)), h2.gr g2⟩⟩
    | _ => cases e1
/-- enumerate(xs), enumerate(xs, k) -/
def miEn (f : SF) : SFi := fun ρ S => sb (f ρ S) fun d S1 => b1 (listOf S1 d) fun p => some (.ok (D.enumD 0 p.1, p.2), S1)
def miEnK (f g : SF) : SFi := fun ρ S => sb (f ρ S) fun d S1 => sb (g ρ S1) fun e S2 => match e with
  | .int k => b1 (listOf S2 d) fun p => if 0 ≤ k ∧ k < 1000 then some (.ok (D.enumD k.toNat p.1, p.2), S2) else none
  | _ => none
section
variable {K : PySem.W.Frag} {mg : Str → Option Value} {μ : List Addr} {Hs H : Hp} {S : Store} {d : D} {v : V} {p : List D × (Store → Prop)} {a : Addr}
theorem wk_enumS (hL : ∀ μ2 Hs2 H2 S2, Gr μ Hs μ2 Hs2 → Sim K mg μ2 Hs2 H2 S2 → p.2 S2 → ∃ xs, SqL K H2 a xs ∧ RpA K μ2 Hs2 xs p.1) : WkS K mg (Ite K a) μ Hs p.2 (D.enumD 0 p.1) := by
  refine ⟨fun i μ2 Hs2 H2 S3 g2 s2 hc hi => ?_, fun i μ2 Hs2 H2 S3 g2 s2 hc hi => ?_, fun i μ2 Hs2 H2 S3 x H3 g2 s2 hc hy d hd => ?_⟩
  · obtain ⟨xs, h1, h2⟩ := hL μ2 Hs2 H2 S3 g2 s2 hc
    rw [enumD_len, ← h2.len] at hi
    exact ⟨xs, xs[i], h1, by simp [hi]⟩
  · obtain ⟨xs, h1, h2⟩ := hL μ2 Hs2 H2 S3 g2 s2 hc
    rw [enumD_len, ← h2.len] at hi
    exact ⟨xs, h1, hi⟩
  · obtain ⟨xs, h1, h2⟩ := hL μ2 Hs2 H2 S3 g2 s2 hc
    obtain ⟨T, x1, rfl, hT, rfl, g1⟩ := hy
    obtain ⟨d1, e1, rfl⟩ := enumD_get _ _ _ _ hd
    obtain ⟨v1, f1, q1⟩ := h2.getD e1
    have z1 := g1 xs h1
    rw [f1] at z1
    cases z1
    refine ⟨_, Ext.made s2.sub hT, .tup (SqT.of upd_same) (.cons ?_ (.cons (q1.mono (Ext.made s2.sub hT).part) .nil))⟩
    rw [Nat.zero_add]
    exact .int _
theorem wk_enumK (k0 : Nat) (hL : ∀ μ2 Hs2 H2 S2, Gr μ Hs μ2 Hs2 → Sim K mg μ2 Hs2 H2 S2 → p.2 S2 → ∃ xs, SqL K H2 a xs ∧ RpA K μ2 Hs2 xs p.1) : WkS K mg (Itek K k0 a) μ Hs p.2 (D.enumD k0 p.1) := by
  refine ⟨fun i μ2 Hs2 H2 S3 g2 s2 hc hi => ?_, fun i μ2 Hs2 H2 S3 g2 s2 hc hi => ?_, fun i μ2 Hs2 H2 S3 x H3 g2 s2 hc hy d hd => ?_⟩
  · obtain ⟨xs, h1, h2⟩ := hL μ2 Hs2 H2 S3 g2 s2 hc
    rw [enumD_len, ← h2.len] at hi
    exact ⟨xs, xs[i], h1, by simp [hi]⟩
  · obtain ⟨xs, h1, h2⟩ := hL μ2 Hs2 H2 S3 g2 s2 hc
    rw [enumD_len, ← h2.len] at hi
    exact ⟨xs, h1, hi⟩
  · obtain ⟨xs, h1, h2⟩ := hL μ2 Hs2 H2 S3 g2 s2 hc
    obtain ⟨T, x1, rfl, hT, rfl, g1⟩ := hy
    obtain ⟨d1, e1, rfl⟩ := enumD_get _ _ _ _ hd
    obtain ⟨v1, f1, q1⟩ := h2.getD e1
    have z1 := g1 xs h1
    rw [f1] at z1
    cases z1
    refine ⟨_, Ext.made s2.sub hT, .tup (SqT.of upd_same) (.cons ?_ (.cons (q1.mono (Ext.made s2.sub hT).part) .nil))⟩
    rw [Int.natCast_add]
    exact .int _
end
section
variable {X : Cx} {W : WX} {e a b c o tg iter elt : Expr} {es : List Expr} {f g : SF} {fs : SFs} {pos p p2 apos cpos tpos : Pos} {elts : List Expr} {kk : Nat}
theorem si_enum (hm : X.mg "enumerate" = none) (ha : PE X a (tM X.K X.mg W f)) (hg : Gl X "enumerate" := by rfl) (hs : starEach [a] X.env = [(false, eval a X.env)] := by rfl) :
    PI X (.Tuple elts kk tpos) (.Call (.Name "enumerate" p) [a] [] pos) (tMI X.K X.mg W (miEn f)) := by
  refine pi_imp (pi_enum hg hm (pa_cons ha pa_nil hs) hs) fun σ H R ⟨μ, Hs, ρ, S, r, S1, s, env, e, P⟩ => ?_
  obtain ⟨q, S2, e1, P1⟩ := post_bind e P
  refine ⟨μ, Hs, ρ, S, q, S2, s, env, e1, P1.imp fun d μ1 Hs1 H1 g1 s1 ⟨_, _, e2, P2⟩ v rv => ?_⟩
  obtain ⟨pp, e5, e6⟩ := b1_eq e2
  cases e6
  obtain ⟨a0, rfl, ⟨xs, hx⟩, hL⟩ := listOf_list s1 rv e5
  exact ⟨a0, xs, rfl, hx, P2 μ1 Hs1 H1 (Gr.refl _ _) s1 _ (wk_enumS hL)⟩
theorem si_enumK (hm : X.mg "enumerate" = none) (ha : PE X a (tM X.K X.mg W f)) (hb : PE X b (tM X.K X.mg W g)) (hg : Gl X "enumerate" := by rfl) (hs : starEach [a, b] X.env = (false, eval a X.env) :: starEach [b] X.env := by rfl) (hs2 : starEach [b] X.env = (false, eval b X.env) :: starEach [] X.env := by rfl) (hpl : (backTo pos (starEach [b] X.env)).any (·.1) = false := by rfl) :
    PI X (.Tuple elts kk tpos) (.Call (.Name "enumerate" p) [a, b] [] pos) (tMI X.K X.mg W (miEnK f g)) := by
  refine pi_imp (pi_enumK hg hm (pa_cons ha (pa_cons hb pa_nil hs2) hs) hs hpl) fun σ H R ⟨μ, Hs, ρ, S, r, S1, s, env, e, P⟩ => ?_
  obtain ⟨q, S2, e1, P1⟩ := post_bind e P
  refine ⟨μ, Hs, ρ, S, q, S2, s, env, e1, P1.imp fun d μ1 Hs1 H1 g1 s1 ⟨_, _, e2, P2⟩ v rv => ?_⟩
  obtain ⟨q2, S3, e3, P3⟩ := post_bind e2 P2
  refine ⟨μ1, Hs1, ρ, S2, q2, S3, s1, env.gr g1, e3, P3.imp fun d2 μ2 Hs2 H2 g2 s2 ⟨_, _, e4, P4⟩ u ru => ?_⟩
  cases d2 with
  | int k =>
    obtain ⟨pp, e5, e6⟩ := b1_eq e4
    obtain ⟨⟨hk1, hk2⟩, h2⟩ := ite_some e6
    cases h2
    obtain ⟨a0, rfl, ⟨xs, hx⟩, hL⟩ := listOf_list s2 (rv.gr g2) e5
    cases ru
    exact ⟨a0, xs, k.toNat, by rw [Int.toNat_of_nonneg hk1], by omega, hx, P4 μ2 Hs2 H2 (Gr.refl _ _) s2 _ (wk_enumK _ hL)⟩
  | _ => cases e4
/-- tuple(xs), xs a list's cell -/
def mTupC (f : SF) : SF := fun ρ S => sb (f ρ S) fun d S1 => b1 (lsAt S1 d) fun q => some (.ok (.tup q.2), S1)
theorem s_tupC (hm : X.mg "tuple" = none) (ha : PE X e (tM X.K X.mg W f)) (hg : Gl X "tuple" := by rfl) (he : starEach [e] X.env = (false, eval e X.env) :: starEach [] X.env := by rfl) (hpl : (backTo pos (starEach [] X.env)).any (·.1) = false := by rfl) :
    PE X (.Call (.Name "tuple" p) [e] [] pos) (tM X.K X.mg W (mTupC f)) := by
  refine pe_imp (pe_callTy call_tuple_of hg hm (by decide +kernel) (pa_cons ha pa_nil he) (by decide) (by decide) he hpl) fun σ H Q ⟨μ, Hs, ρ, S, r, S1, s, env, e, P⟩ => ?_
  obtain ⟨q, S2, e1, P1⟩ := post_bind e P
  refine ⟨μ, Hs, ρ, S, q, S2, s, env, e1, P1.imp fun d μ1 Hs1 H1 g1 s1 ⟨_, _, e2, P2⟩ v rv => ?_⟩
  obtain ⟨⟨n, ds⟩, e5, e6⟩ := b1_eq e2
  cases e6
  obtain ⟨rfl, e11⟩ := lsAt_eq e5
  obtain ⟨a, vs, rfl, j1, j2, j3⟩ := lst_at s1 rv e11
  refine ⟨a, vs, rfl, .inl ⟨SqL.of j2, fun p hp => ?_⟩⟩
  have x := Ext.made (o := .tup vs) s1.sub hp
  exact P2 μ1 _ _ (Gr.part x.part) (s1.ext x) _ (.tup (SqT.of upd_same) (j3.mono x.part))
/-! locked dicts -/
def dclAt (S : Store) : D → Option (Nat × Obj × List (Key × V) × List (Key × D))
  | .loc n => match S[n]? with
    | some (.dcL od vs kv) => some (n, od, vs, kv)
    | _ => none
  | _ => none
theorem dclAt_eq {S : Store} {d : D} {n : Nat} {od : Obj} {vs : List (Key × V)} {kv : List (Key × D)} (h : dclAt S d = some (n, od, vs, kv)) : d = .loc n ∧ S[n]? = some (.dcL od vs kv) := by
  cases d with
  | loc m =>
    simp only [dclAt] at h
    cases q : S[m]? with
    | none => rw [q] at h; cases h
    | some c =>
      rw [q] at h
      cases c with
      | dcL _ _ _ => cases h; exact ⟨rfl, q⟩
      | _ => cases h
  | _ => cases h
def itemsD (kv : List (Key × D)) : List D := kv.map fun p => .tup [dKey p.1, p.2]
/-- d.items(), d locked -/
def miIt (f : SF) : SFi := fun ρ S => sb (f ρ S) fun d S1 => match dclAt S1 d with
  | some (n, od, vs, kv) => some (.ok (itemsD kv, fun S => S[n]? = some (.dcL od vs kv)), S1)
  | none => none
theorem frp_at {K : PySem.W.Frag} {μ : List Addr} {H : Hp} : ∀ {vs : List (Key × V)} {kv : List (Key × D)} {i : Nat} {k : Key} {d : D}, FRp K μ H vs kv → kv[i]? = some (k, d) → ∃ v, vs[i]? = some (k, v) ∧ Rp K μ H v d
  | _, _, _, _, _, .nil, h => by simp at h
  | (k1, v) :: vs, (k2, d2) :: kv, 0, k, d, .cons ⟨h1, h2⟩ t, h => by
    cases (show k1 = k2 from h1)
    simp only [List.getElem?_cons_zero, Option.some.injEq, Prod.mk.injEq] at h
    obtain ⟨rfl, rfl⟩ := h
    exact ⟨v, rfl, h2⟩
  | (k1, v) :: vs, (k2, d2) :: kv, i + 1, k, d, .cons h1 t, h => by
    simp only [List.getElem?_cons_succ] at h ⊢
    exact frp_at t h
theorem si_items (he : PE X e (tM X.K X.mg W f)) (hbase : attributeBase e "items" X.env (eval e X.env) = eval e X.env := by rfl) (hline : (apos.endLine == cpos.line) = true := by rfl) :
    PI X (.Tuple elts kk tpos) (.Call (.Attribute e "items" apos) [] [] cpos) (tMI X.K X.mg W (miIt f)) := by
  refine pi_imp (pi_items he hbase hline) fun σ H R ⟨μ, Hs, ρ, S, r, S1, s, env, e, P⟩ => ?_
  obtain ⟨q, S2, e1, P1⟩ := post_bind e P
  refine ⟨μ, Hs, ρ, S, q, S2, s, env, e1, P1.imp fun d μ1 Hs1 H1 g1 s1 ⟨_, _, e2, P2⟩ v rv => ?_⟩
  split at e2
  · rename_i n od vs kv hq
    cases e2
    obtain ⟨rfl, hn⟩ := dclAt_eq hq
    cases rv with
    | @loc a _ hl =>
      have at2 : ∀ {μ2 Hs2 H2 S3}, Gr μ1 Hs1 μ2 Hs2 → Sim X.K X.mg μ2 Hs2 H2 S3 → S3[n]? = some (.dcL od vs kv) → H2 a = some (.frz od (.dK vs)) ∧ FRp X.K μ2 Hs2 vs kv := fun {μ2 Hs2 H2 S3} g2 s2 hc => (s2.cell n a _ (g2.get hl) hc).1
      obtain ⟨k1, k2⟩ := at2 (Gr.refl _ _) s1 hn
      refine ⟨a, od, vs, rfl, k1, P2 μ1 Hs1 H1 (Gr.refl _ _) s1 _ ⟨fun i μ2 Hs2 H2 S3 g2 s2 hc hi => ?_, fun i μ2 Hs2 H2 S3 g2 s2 hc hi => ?_, fun i μ2 Hs2 H2 S3 x H3 g2 s2 hc hy d hd => ?_⟩⟩
      · obtain ⟨j1, j2⟩ := at2 g2 s2 hc
        exact ⟨j1, by rw [frp_len j2]; simpa [itemsD] using hi⟩
      · obtain ⟨j1, j2⟩ := at2 g2 s2 hc
        exact ⟨j1, by rw [frp_len j2]; simpa [itemsD] using hi⟩
      · obtain ⟨j1, j2⟩ := at2 g2 s2 hc
        obtain ⟨T, k, w, hw, rfl, hT, rfl⟩ := hy
        have hd' : (kv[i]?).map (fun p => D.tup [dKey p.1, p.2]) = some d := by simpa [itemsD] using hd
        obtain ⟨⟨k', d'⟩, hk, rfl⟩ := Option.map_eq_some_iff.mp hd'
        obtain ⟨w', hw', rw⟩ := frp_at j2 hk
        rw [hw] at hw'
        cases hw'
        exact ⟨_, Ext.made s2.sub hT, .tup (SqT.of upd_same) (.cons (dKey_rp _) (.cons (rw.mono (Ext.made s2.sub hT).part) .nil))⟩
  · cases e2
/-- f, while the dict that fd tells is locked -/
def LockR (f : SF) (ρ : Rho) (S : Store) (n : Nat) (kv : List (Key × D)) (r : D × Store) : Prop := ∀ od vs, ∃ S', f ρ (S.set n (.dcL od vs kv)) = some (.ok r.1, S') ∧ S'[n]? = some (.dcL od vs kv) ∧ S'.set n (.dct kv) = r.2
open Classical in
noncomputable def mLock (fd f : SF) : SF := fun ρ S => match fd ρ S with
  | some (.ok d, _) => b1 (dctAt S d) fun q => if h : ∃ r, LockR f ρ S q.1 q.2 r then some (.ok h.choose.1, h.choose.2) else none
  | _ => none
theorem mLock_of {fd : SF} {ρ : Rho} {S : Store} {d : D} {S1 : Store} {n : Nat} {kv : List (Key × D)} {r : D × Store} (h1 : fd ρ S = some (.ok d, S1)) (h2 : dctAt S d = some (n, kv)) (h3 : LockR f ρ S n kv r) : mLock fd f ρ S = some (.ok r.1, r.2) := by
  unfold mLock
  rw [h1]
  show b1 (dctAt S d) _ = _
  rw [h2]
  have hx : ∃ r, LockR f ρ S n kv r := ⟨r, h3⟩
  refine (dif_pos hx).trans ?_
  obtain ⟨S', q1, q2, q3⟩ := hx.choose_spec ⟨.type "x", none, .seq #[] 0, #[]⟩ []
  obtain ⟨S2, p1, p2, p3⟩ := h3 ⟨.type "x", none, .seq #[] 0, #[]⟩ []
  rw [q1] at p1
  have e1 := Option.some.inj p1
  have e2 : hx.choose.1 = r.1 := by
    have := congrArg (·.1) e1
    exact Res.ok.inj this
  have e3 : S' = S2 := congrArg (·.2) e1
  subst e3
  rw [e2, ← q3, ← p3]
theorem s_lock {fd : SF} (h : PE X e (tM X.K X.mg W f)) : PE X e (tM X.K X.mg W (mLock fd f)) := by
  refine pe_imp (pe_lock h) fun σ H Q ⟨μ, Hs, ρ, S, r, S1, s, env, e, P⟩ => ?_
  unfold mLock at e
  split at e
  · rename_i d S0 hfd
    obtain ⟨⟨n, kv⟩, e1, e2⟩ := b1_eq e
    simp only at e2
    split at e2
    · rename_i hx
      have e3 := Option.some.inj e2
      obtain ⟨rfl, hn⟩ := dctAt_eq e1
      obtain ⟨a, ha, ⟨vs, k1, k2⟩, k3⟩ := s.addr hn
      refine ⟨a, .dK vs, k1, trivial, fun od => ?_⟩
      obtain ⟨S', q1, q2, q3⟩ := hx.choose_spec od vs
      have s1 := s.write (c := .dcL od vs kv) (o := .frz od (.dK vs)) ha ⟨upd_same, k2⟩
      refine ⟨μ, Hs, ρ, _, .ok hx.choose.1, S', s1, env, q1, fun μ2 Hs2 H2 g2 s2 v rv => ?_⟩
      obtain ⟨⟨j1, j2⟩, _⟩ := s2.cell n a _ (g2.get ha) q2
      refine ⟨j1, ?_⟩
      have s3 := s2.write (c := .dct kv) (o := .dK vs) (g2.get ha) ⟨vs, upd_same, j2⟩
      rw [q3] at s3
      cases e3
      exact P μ2 Hs2 _ g2 s3 v rv
    · cases e2
  · cases e
end
/-! what they are worth -/
section
variable {Q : D → Store → Prop} {E : Exn → Store → Prop} {QG : Fx → Store → Prop} {ρ : Rho} {S : Store} {f g h : SF} {Qi : List D × (Store → Prop) → Store → Prop}
theorem v_en (hh : Ev (f ρ S) (fun d S1 => ∃ n ds, d = .loc n ∧ S1[n]? = some (.lst ds) ∧ Qi (D.enumD 0 ds, fun S => S[n]? = some (.lst ds)) S1) E) : Ev (miEn f ρ S) Qi E :=
  ev_sb (hh.mono (fun d S1 ⟨n, ds, e1, h1, q⟩ => by
    subst e1
    unfold listOf
    rw [ls_at h1]
    exact q) fun _ _ e => e)
theorem v_enK (hh : Ev (f ρ S) (fun d S1 => Ev (g ρ S1) (fun e S2 => ∃ n ds k, d = .loc n ∧ S2[n]? = some (.lst ds) ∧ e = .int k ∧ (0 ≤ k ∧ k < 1000) ∧ Qi (D.enumD k.toNat ds, fun S => S[n]? = some (.lst ds)) S2) E) E) : Ev (miEnK f g ρ S) Qi E :=
  ev_sb (hh.mono (fun d S1 h2 => ev_sb (h2.mono (fun e S2 ⟨n, ds, k, e1, h1, e2, h3, q⟩ => by
    subst e1 e2
    show Ev (b1 (listOf S2 (.loc n)) _) Qi E
    unfold listOf
    rw [ls_at h1]
    exact ev_if h3 q) fun _ _ e => e)) fun _ _ e => e)
theorem v_tupC (hh : Ev (f ρ S) (fun d S1 => ∃ n ds, d = .loc n ∧ S1[n]? = some (.lst ds) ∧ Q (.tup ds) S1) E) : Ev (mTupC f ρ S) Q E :=
  ev_sb (hh.mono (fun d S1 ⟨n, ds, e1, h1, q⟩ => by subst e1; exact ev_b1 (ls_at h1) q) fun _ _ e => e)
theorem v_it {od : Obj} {vs : List (Key × V)} (hh : Ev (f ρ S) (fun d S1 => ∃ n kv, d = .loc n ∧ S1[n]? = some (.dcL od vs kv) ∧ Qi (itemsD kv, fun S => S[n]? = some (.dcL od vs kv)) S1) E) : Ev (miIt f ρ S) Qi E :=
  ev_sb (hh.mono (fun d S1 ⟨n, kv, e1, h1, q⟩ => by
    subst e1
    show Ev (match (match S1[n]? with | some (.dcL od vs kv) => some (n, od, vs, kv) | _ => none) with | some (n, od, vs, kv) => _ | none => none) Qi E
    rw [h1]
    exact q) fun _ _ e => e)
end
end Pd

/-! Lc3: a def with a default; a text's methods over the store. -/
namespace Pd
open PySem PySem.Spec L2 SkE
open PyProof.Rows hiding St
section
variable {P : Program} {w : World} {K : PySem.W.Frag} {mg : Str → Option Value} {base : Heap}
theorem okMD {x qual : Str} {st : Stmt} {f : Addr} {fd : FuncData} {N ps : List Str} {k : Nat} {g : SG} {dvs : List V} (Fn : L2.FunD K x qual (defArgs st) (defBody st) (defScope st) dvs [] f fd) (S : FnScope N ps (defScope st))
    (body : ∀ (cdv : Value) (A : Around) (outer : List Env) (s : Shared) (H : Hp) (E : XK), Takes (cxOf (L2.CX P w) P w K mg base N qual (defScope st) f cdv A outer s H E) (fun cls d _ H => E cls d H) →
      Room k (A.deeper (envOfC qual (defScope st) s.heap.objs.size f cdv)) → PSs (cxOf (L2.CX P w) P w K mg base N qual (defScope st) f cdv A outer s H E) (defBody st) (tG K mg (fun cls d _ H => E cls d H) g)) :
    FnOk P w K mg base (L2.CX P w) (k + 1) f fd ps (spM K mg (mF ps.length N g)) := by
  refine Fn.ok S (fun vs H Q E h => ?_) (fun cdv A outer s H vs Q E hr h => ?_)
  · obtain ⟨μ, Hs, S, ds, r, S1, _, rv, e, _⟩ := h
    rw [rv.len]
    exact (mF_ok e).1
  · obtain ⟨μ, Hs, S, ds, r, S1, s1, rv, e, P1⟩ := h
    exact ⟨_, body cdv A outer s H E (takes_of rfl rfl rfl rfl) hr, enterM s1 rv (mF_ok e).2 P1⟩
theorem funD_mk {x qual : Str} {st : Stmt} {f T : Addr} {oc dcl : Value} {od an dod : Option Addr} {osl dsl : Array (Option Value)} {kV doc pm cdv ct : Value} {z : Str} {t : Tok} {n : Nat}
    (l : K.lookup f = some ⟨oc, od, .func (PySem.W.fnOf x qual (defArgs st) (defBody st) (defScope st) (.ref T) kV doc pm an cdv ct), osl⟩) (c : PySem.W.codeIn K cdv qual = true) (k : PySem.W.keepIn K (.ref f) = true)
    (d : K.lookup T = some ⟨dcl, dod, .seq #[.str z t] n, dsl⟩) : L2.FunD K x qual (defArgs st) (defBody st) (defScope st) [.str z] [] f (PySem.W.fnOf x qual (defArgs st) (defBody st) (defScope st) (.ref T) kV doc pm an cdv ct) :=
  ⟨⟨oc, od, .ref T, kV, doc, pm, an, cdv, ct, osl, rfl, l, c, .inr ⟨by simp, T, _, [.str z t], n, rfl, d, rfl, .cons ⟨_, rfl⟩ .nil⟩, .inl rfl⟩, k⟩
theorem md_D {c : Str} {C f : Addr} {fd : FuncData} {ps : List Str} {z : Str} {k : Nat} {fh : SFn} (h1 : mg c = some (.ref C)) (h2 : Mk K C f) (h3 : FnOk P w K mg base (L2.CX P w) k f fd ps (spM K mg fh)) (h4 : ∃ ds, Vals (([.str z] : List V).drop 0) ds ∧ Binds K fd ps ds) : Md P w K mg base k c ps z fh := by
  obtain ⟨ds, q1, q2⟩ := h4
  cases q1 with
  | cons r t => cases t; exact ⟨C, f, fd, _, h1, h2, h3, r, q2⟩
theorem mi_D {c : Str} {C f : Addr} {fd : FuncData} {ps : List Str} {z : Str} {k : Nat} {fh : SFn} (h1 : mg c = some (.ref C)) (h2 : Mk K C f) (h3 : FnOk P w K mg base (L2.CX P w) k f fd ps (spM K mg fh)) (h4 : ∃ ds, Vals (([.str z] : List V).drop 1) ds ∧ Binds K fd ps ds) : Mi P w K mg base k c ps fh := by
  obtain ⟨ds, q1, q2⟩ := h4
  cases q1
  exact ⟨C, f, fd, h1, h2, h3, q2⟩
end
section
variable {X : Cx} {W : WX} {e a b c o tg iter elt : Expr} {es : List Expr} {f g : SF} {fs : SFs} {pos p p2 apos cpos tpos : Pos} {elts : List Expr} {kk : Nat}
theorem s_starts (ho : PE X o (tM X.K X.mg W f)) (ha : PE X e (tM X.K X.mg W g)) (hbase : attributeBase o "startswith" X.env (eval o X.env) = eval o X.env := by rfl)
    (hfew : ((backTo cpos (starEach [e] X.env)).all (fun x => !x.1) && (backToKw cpos (keywordEach [] X.env)).all (fun x => x.1.isSome) && decide ([e].length + ([] : List Keyword).length + (if ([] : List Keyword).isEmpty then 0 else 1) < 30)) = true := by rfl)
    (hline : (apos.endLine == cpos.line) = true := by rfl) (hs : starEach [e] X.env = (false, eval e X.env) :: starEach [] X.env := by rfl) :
    PE X (.Call (.Attribute o "startswith" apos) [e] [] cpos) (tM X.K X.mg W (mMS gStarts f (mCons g mNil))) :=
  s_mS PySem.F.slot_str_startswith PySem.F.type_str_startswith mt_startswith (fun μ H Hs x xs d ds o Q s rx rs gg k => by
    obtain ⟨a, b, rfl, rfl, g2⟩ := mS1_eq gg
    cases g2
    obtain ⟨v, rfl, rv⟩ := rpa1 rs
    cases rx
    cases rv
    exact ⟨a, b, rfl, rfl, k _ _ _ (Ext.refl s) (.bool _)⟩) ho (s_cons ha s_nil hs) hbase hfew hline hs rfl
end
end Pd

/-! Lc4: zip over the store, every second item of a tuple, sorted texts of any number. -/
namespace Pd
open PySem PySem.Spec L2 SkE
open PyProof.Rows hiding St
/-! t[k::2] -/
def every2 {α : Type} : List α → List α
  | [] => []
  | [x] => [x]
  | x :: _ :: r => x :: every2 r
theorem every2_map {α β : Type} (f : α → β) : ∀ l : List α, every2 (l.map f) = (every2 l).map f
  | [] => rfl
  | [x] => rfl
  | x :: y :: r => by show f x :: every2 (r.map f) = f x :: (every2 r).map f; rw [every2_map f r]
theorem every2_len {α : Type} : ∀ l : List α, (every2 l).length = (l.length + 1) / 2
  | [] => by simp [every2]
  | [x] => by simp [every2]
  | x :: y :: r => by
    show (every2 r).length + 1 = (r.length + 1 + 1 + 1) / 2
    rw [every2_len r]
    omega
theorem every2_pick {α : Type} : ∀ l : List α, ((List.range ((l.length + 1) / 2)).filterMap fun m => l[2 * m]?) = every2 l
  | [] => by simp [every2]
  | [x] => by simp [every2, List.range_succ]
  | x :: y :: r => by
    have e : ((x :: y :: r).length + 1) / 2 = (r.length + 1) / 2 + 1 := by simp only [List.length_cons]; omega
    rw [e, List.range_succ_eq_map, List.filterMap_cons]
    show x :: _ = x :: every2 r
    congr 1
    rw [List.filterMap_map, ← every2_pick r]
    congr 1
theorem places2 (k n : Nat) : Builtin.Slice.slicePlaces ((min k n : Nat) : Int) (n : Int) 2 = (n - min k n + 1) / 2 := by
  unfold Builtin.Slice.slicePlaces
  have h1 : (2 : Int) > 0 := by omega
  simp only [h1, if_true]
  split <;> omega
theorem adjust2 (k n : Nat) : Builtin.Slice.sliceAdjust (some (k : Int)) none 2 (n : Int) = (((min k n : Nat) : Int), (n : Int)) := by
  unfold Builtin.Slice.sliceAdjust
  have h1 : ¬ ((2 : Int) < 0) := by omega
  have h2 : ¬ ((k : Int) < 0) := by omega
  simp only [h1, h2, if_false]
  refine Prod.ext ?_ rfl
  show min (k : Int) (n : Int) = _
  omega
theorem pick2 (xs : Array Value) (k : Nat) : ((List.range ((xs.size - min k xs.size + 1) / 2)).filterMap fun (m : Nat) => xs[(((min k xs.size : Nat) : Int) + (m : Int) * 2).toNat]?).toArray = (every2 (xs.toList.drop k)).toArray := by
  have e : (fun (m : Nat) => xs[(((min k xs.size : Nat) : Int) + (m : Int) * 2).toNat]?) = fun m => (xs.toList.drop (min k xs.size))[2 * m]? := by
    funext m
    rw [List.getElem?_drop, Array.getElem?_toList]
    congr 1
    omega
  have e2 : xs.toList.drop k = xs.toList.drop (min k xs.size) := by
    by_cases h : k ≤ xs.size
    · rw [Nat.min_eq_left h]
    · rw [List.drop_eq_nil_of_le (by simp; omega), List.drop_eq_nil_of_le (by simp; omega)]
  rw [e, e2, ← every2_pick]
  congr 2
  rw [List.length_drop, Array.length_toList]
section
variable {prog : Program} {w : World} {A : Around} {E : Value → Shared → Prop} {s : Shared}
theorem sliceApplied2 {sl : Addr} {t u : Tok} {k n : Nat} {Q : Int × Int × Nat → Shared → Prop} (hs : s.heap.IsSliceOf sl (.int k t) .none (.int 2 u))
    (h : Q (((min k n : Nat) : Int), 2, (n - min k n + 1) / 2) s) : wpAny (model prog w) A (Builtin.Slice.sliceApplied (.ref sl) (pure (n : Int))) Q E s := by
  obtain ⟨os, hos, hcs, hds⟩ := id hs
  unfold Builtin.Slice.sliceApplied Builtin.Slice.sliceFields
  refine wpAny_bind (wpAny_bind (wpAny_field hos hds (x := .int k t) rfl (wpAny_bind (wpAny_field hos hds (x := .none) rfl (wpAny_bind (wpAny_field hos hds (x := .int 2 u) rfl (wpAny_pure ?_)))))))
  refine wpAny_bind (HT.slicePart_ (.int 2 u) ?_)
  show wpAny _ _ (if ((2 : Int) == 0) = true then _ else _) _ _ s
  rw [if_neg (by decide)]
  refine wpAny_bind (HT.slicePart_ (.int k t) (wpAny_bind (HT.slicePart_ .none (wpAny_bind (wpAny_pure ?_)))))
  show wpAny _ _ (match Builtin.Slice.sliceAdjust (some (k : Int)) none 2 (n : Int) with | (lo, hi) => pure (lo, (2 : Int), Builtin.Slice.slicePlaces lo hi 2)) _ _ s
  rw [adjust2 k n]
  show wpAny _ _ (pure (((min k n : Nat) : Int), (2 : Int), Builtin.Slice.slicePlaces ((min k n : Nat) : Int) (n : Int) 2)) _ _ s
  rw [places2]
  exact wpAny_pure h
theorem getItem_tuple2 {t sl : Addr} {items : Array Value} {k : Nat} {tk u : Tok} {Q : Value → Shared → Prop} (ht : IsTup s.heap t items) (hs : s.heap.IsSliceOf sl (.int k tk) .none (.int 2 u))
    (h : Q (.ref s.heap.objs.size) { s with heap := s.heap.push { cls := .type "tuple", data := .seq (every2 (items.toList.drop k)).toArray } })
    (hsz : items.size ≤ sizeLine) : wpAny (model prog w) A (getItem (.ref t) (.ref sl)) Q E s := by
  have htake : sizeOk (.seq (every2 (items.toList.drop k)).toArray) := by
    show (every2 (items.toList.drop k)).toArray.size ≤ sizeLine
    rw [List.size_toArray, every2_len, List.length_drop, Array.length_toList]
    omega
  obtain ⟨os, hos, hcs, hds⟩ := id hs
  have hTs : s.TypeIs (.ref sl) "slice" := ⟨os, hos, hcs⟩
  unfold getItem
  try with_reducible refine wpAny_holding ?_
  first | refine wpAny_bind (wpAny_pure ?_) | skip
  refine wpAny_bind (wpAny_sequenceKey ht.typeIs (by decide) ?_)
  refine wpAny_bind (wpAny_callSpecial?_slot (name := Str.ofString "__getitem__") ht.typeIs PyProof.Rows.slot_tuple_getitem
    (wpAny_call_entry PyProof.Rows.slot_tuple_getitem ht.typeIs entry_tuple_getitem ?_ (args_tuple_getitem _ _)))
  show wpAny _ _ (Builtin.Tuple.tupleItemsOf (.ref t) >>= _) _ _ s
  refine wpAny_bind (tupleItemsOf_ ht ?_)
  refine wpAny_bind (wpAny_typeOf hTs ?_)
  rw [if_pos (by decide)]
  refine wpAny_bind (sliceApplied2 hs ?_)
  show wpAny _ _ (if (((min k items.size : Nat) : Int) == 0 && (2 : Int) == 1 && ((items.size - min k items.size + 1) / 2) == items.size) = true then _ else _) _ _ s
  rw [if_neg (by simp), pick2]
  first
    | exact wpAny_bind (m := Builtin.Tuple.tupleExact _) (wpAny_newObj_type (wpAny_pure ⟨_, rfl, wpAny_pure h⟩) htake)
    | exact wpAny_bind (m := Builtin.Tuple.tupleExact _) (wpAny_newObj_type (wpAny_bind (wpAny_pure (wpAny_pure ⟨_, rfl, wpAny_pure h⟩))) htake)
    | exact wpAny_bind (wpAny_bind (m := Builtin.Tuple.tupleExact _) (wpAny_newObj_type (wpAny_pure (wpAny_pure ⟨_, rfl, wpAny_pure h⟩)) htake))
    | exact wpAny_bind (wpAny_bind (m := Builtin.Tuple.tupleExact _) (wpAny_newObj_type (wpAny_pure ⟨_, rfl, wpAny_pure h⟩) htake))
end
theorem vals_every2 : ∀ {xs : List V} {us : List Value}, Vals xs us → Vals (every2 xs) (every2 us)
  | [], _, h => by cases h; exact .nil
  | [x], _, h => by
    cases h with
    | cons h1 t => cases t; exact .cons h1 .nil
  | x :: y :: r, _, h => by
    cases h with
    | cons h1 t =>
      cases t with
      | cons h2 t => exact .cons h1 (vals_every2 t)
section
variable {X : Cx} {W : WX} {e a b c o tg iter elt : Expr} {es : List Expr} {te : TE} {f g : SF} {fs : SFs} {pos p p2 p3 p4 apos cpos tpos : Pos} {elts : List Expr} {kk : Nat}
theorem pe_every2 {k : Nat} {j1 j2} (he : PE X e te) (ht : ∀ o r, letTemporaryGo e o r = pure () := by intro _ _; rfl) : PE X (.Subscript e (.Slice (some (.Constant (.int (k : Int)) j1 p3)) none (some (.Constant (.int 2) j2 p4)) p2) pos)
    (fun σ H Q => te σ H fun x H1 => ∃ a xs, x = .ref a ∧ SqT X.K H1 a xs ∧ ∀ p, H1 p = none → Q (.ref p) (upd H1 p (.tup (every2 (xs.drop k))))) := by
  refine ⟨fun pins s σ H Q I h => ?_⟩
  refine wpAny_Subscript_Slice_step PyProof.Rows.slot_tuple_getitem.lookup (thn (he.run pins s σ H _ I h) fun v s1 ⟨x, H1, I1, r1, a, xs, ex, hx, q⟩ => ?_) ht
  subst ex
  cases r1
  refine wpAny_Slice ?_
  rw [evalPart_some]
  refine thn ((pe_int (i := (k : Int)) (j := j1) (pos := p3)).run pins s1 σ H1 (fun y H' => y = .int k ∧ H' = H1) I1 ⟨rfl, rfl⟩) fun vl s2 ⟨y, H2, I2, pl, ey, eH⟩ => ?_
  subst ey eH
  obtain ⟨t1, rfl⟩ := pl
  rw [evalPart_none]
  refine wpAny_pure ?_
  rw [evalPart_some]
  refine thn ((pe_int (i := 2) (j := j2) (pos := p4)).run pins s2 σ H2 (fun y H' => y = .int 2 ∧ H' = H2) I2 ⟨rfl, rfl⟩) fun vu s3 ⟨y, H3, I3, pu, ey, eH⟩ => ?_
  subst ey eH
  obtain ⟨t2, rfl⟩ := pu
  have I4 : Inv X pins σ H3 { s3 with heap := s3.heap.push { cls := .type "slice", data := .fields #[.int (k : Int) t1, .none, .int 2 t2] } } := I3.kept (t' := s3.toks) fun b ob q => Heap.get?_push_of_some _ q
  obtain ⟨its, r, htt, hz⟩ := I4.tuple hx
  have hlen : its.toArray.size = xs.length := by rw [List.size_toArray]; exact r.length.symm
  refine ⟨htt.typeIs, getItem_tuple2 htt (Heap.IsSliceOf.new ..) ?_ (by rw [hlen]; exact hz)⟩
  refine ⟨.ref _, _, I4.laid (t' := s3.toks) (o := .tup (every2 (xs.drop k))) (fun b ob q => Heap.get?_push_of_some _ q) (Nat.le_refl _) ?_, rfl, q _ (I4.hok.fresh (Nat.le_refl _))⟩
  exact ⟨by rw [every2_len, List.length_drop]; omega, _, vals_every2 (r.drop k), IsTup.new _ _⟩
theorem rpa_every2 {K : PySem.W.Frag} {μ : List Addr} {H : Hp} : ∀ {xs : List V} {ds : List D}, RpA K μ H xs ds → RpA K μ H (every2 xs) (every2 ds)
  | [], _, h => by cases h; exact .nil
  | [x], _, h => by
    cases h with
    | cons h1 t => cases t; exact .cons h1 .nil
  | x :: y :: r, _, h => by
    cases h with
    | cons h1 t =>
      cases t with
      | cons h2 t => exact .cons h1 (rpa_every2 t)
theorem rpa_dropN {K : PySem.W.Frag} {μ : List Addr} {H : Hp} : ∀ (k : Nat) {xs : List V} {ds : List D}, RpA K μ H xs ds → RpA K μ H (xs.drop k) (ds.drop k)
  | 0, _, _, h => h
  | k + 1, _, _, .nil => .nil
  | k + 1, _, _, .cons h1 t => rpa_dropN k t
def gEv2 (k : Nat) : D → Option D
  | .tup ds => some (.tup (every2 (ds.drop k)))
  | _ => none
theorem pd_every2 {k : Nat} {j1 j2} {f : F} (he : PE X e (tD X.K f)) (ht : ∀ o r, letTemporaryGo e o r = pure () := by intro _ _; rfl) : PE X (.Subscript e (.Slice (some (.Constant (.int (k : Int)) j1 p3)) none (some (.Constant (.int 2) j2 p4)) p2) pos) (tD X.K (f1 (gEv2 k) f)) := by
  refine pe_imp (pe_every2 he ht) fun σ H Q ⟨μ, Hs, ρ, d, s, env, e, kk⟩ => ?_
  obtain ⟨d1, e1, e2⟩ := b1_eq e
  refine ⟨μ, Hs, ρ, d1, s, env, e1, fun v H1 Hs1 x1 r1 => ?_⟩
  cases d1 with
  | tup ds =>
    cases e2
    cases r1 with
    | tup h1 h2 => exact ⟨_, _, rfl, sqT_mono x1.sub h1, fun p hp => kk _ _ _ (x1.trans (Ext.made x1.sub hp)) (.tup (SqT.of upd_same) ((rpa_every2 (rpa_dropN k h2)).mono (Ext.made x1.sub hp).part))⟩
  | _ => cases e2
/-! zip -/
def miZ (f g : SF) : SFi := fun ρ S => sb (f ρ S) fun d S1 => sb (g ρ S1) fun e S2 => match d, e with
  | .tup xs, .tup ys => some (.ok (D.zipD xs ys, fun _ => True), S2)
  | d, e => b1 (listOf S2 d) fun p => b1 (listOf S2 e) fun q => some (.ok (D.zipD p.1 q.1, fun S => p.2 S ∧ q.2 S), S2)
section
variable {K : PySem.W.Frag} {mg : Str → Option Value} {μ : List Addr} {Hs H : Hp} {S : Store} {a b : Addr}
theorem wk_zipS {p q : List D × (Store → Prop)} (h1 : ∀ μ2 Hs2 H2 S2, Gr μ Hs μ2 Hs2 → Sim K mg μ2 Hs2 H2 S2 → p.2 S2 → ∃ xs, SqL K H2 a xs ∧ RpA K μ2 Hs2 xs p.1) (h2 : ∀ μ2 Hs2 H2 S2, Gr μ Hs μ2 Hs2 → Sim K mg μ2 Hs2 H2 S2 → q.2 S2 → ∃ xs, SqL K H2 b xs ∧ RpA K μ2 Hs2 xs q.1) :
    WkS K mg (Itz K a b) μ Hs (fun S => p.2 S ∧ q.2 S) (D.zipD p.1 q.1) := by
  refine ⟨fun i μ2 Hs2 H2 S3 g2 s2 hc hi => ?_, fun i μ2 Hs2 H2 S3 g2 s2 hc hi => ?_, fun i μ2 Hs2 H2 S3 x H3 g2 s2 hc hy d hd => ?_⟩
  · obtain ⟨xs, k1, k2⟩ := h1 μ2 Hs2 H2 S3 g2 s2 hc.1
    obtain ⟨ys, k3, k4⟩ := h2 μ2 Hs2 H2 S3 g2 s2 hc.2
    rw [zipD_len] at hi
    have hl : i < xs.length := by rw [k2.len]; omega
    have hl2 : i < ys.length := by rw [k4.len]; omega
    exact ⟨xs, ys, xs[i], ys[i], k1, k3, by simp [hl], by simp [hl2]⟩
  · obtain ⟨xs, k1, k2⟩ := h1 μ2 Hs2 H2 S3 g2 s2 hc.1
    obtain ⟨ys, k3, k4⟩ := h2 μ2 Hs2 H2 S3 g2 s2 hc.2
    rw [zipD_len] at hi
    refine ⟨xs, ys, k1, k3, ?_⟩
    rw [k2.len, k4.len]
    omega
  · obtain ⟨xs, k1, k2⟩ := h1 μ2 Hs2 H2 S3 g2 s2 hc.1
    obtain ⟨ys, k3, k4⟩ := h2 μ2 Hs2 H2 S3 g2 s2 hc.2
    obtain ⟨T, x1, x2, rfl, hT, rfl, g1, g2'⟩ := hy
    obtain ⟨d1, d2, e1, e2, rfl⟩ := zipD_get _ _ _ _ hd
    obtain ⟨v1, f1, q1⟩ := k2.getD e1
    obtain ⟨v2, f2, q2⟩ := k4.getD e2
    have z1 := g1 xs k1
    have z2 := g2' ys k3
    rw [f1] at z1
    rw [f2] at z2
    cases z1
    cases z2
    have x := Ext.made (o := .tup [x1, x2]) s2.sub hT
    exact ⟨_, x, .tup (SqT.of upd_same) (.cons (q1.mono x.part) (.cons (q2.mono x.part) .nil))⟩
theorem wk_zipTS {xs ys : List V} {ds es : List D} (h1 : SqT K Hs a xs) (r1 : RpA K μ Hs xs ds) (h2 : SqT K Hs b ys) (r2 : RpA K μ Hs ys es) : WkS K mg (RZ.ItzT K a b) μ Hs (fun _ => True) (D.zipD ds es) := by
  refine ⟨fun i μ2 Hs2 H2 S3 g2 s2 hc hi => ?_, fun i μ2 Hs2 H2 S3 g2 s2 hc hi => ?_, fun i μ2 Hs2 H2 S3 x H3 g2 s2 hc hy d hd => ?_⟩
  · rw [zipD_len] at hi
    have hl : i < xs.length := by rw [r1.len]; omega
    have hl2 : i < ys.length := by rw [r2.len]; omega
    exact ⟨xs, ys, xs[i], ys[i], sqT_mono (g2.sub.trans s2.sub) h1, sqT_mono (g2.sub.trans s2.sub) h2, by simp [hl], by simp [hl2]⟩
  · rw [zipD_len] at hi
    refine ⟨xs, ys, sqT_mono (g2.sub.trans s2.sub) h1, sqT_mono (g2.sub.trans s2.sub) h2, ?_⟩
    rw [r1.len, r2.len]
    omega
  · obtain ⟨T, x1, x2, rfl, hT, rfl, g1, g2'⟩ := hy
    obtain ⟨d1, d2, e1, e2, rfl⟩ := zipD_get _ _ _ _ hd
    obtain ⟨v1, f1, q1⟩ := r1.getD e1
    obtain ⟨v2, f2, q2⟩ := r2.getD e2
    have z1 := g1 xs (sqT_mono (g2.sub.trans s2.sub) h1)
    have z2 := g2' ys (sqT_mono (g2.sub.trans s2.sub) h2)
    rw [f1] at z1
    rw [f2] at z2
    cases z1
    cases z2
    have x := Ext.made (o := .tup [x1, x2]) s2.sub hT
    exact ⟨_, x, .tup (SqT.of upd_same) (.cons ((q1.gr g2).mono x.part) (.cons ((q2.gr g2).mono x.part) .nil))⟩
end
theorem si_zip (hm : X.mg "zip" = none) (ha : PE X a (tM X.K X.mg W f)) (hb : PE X b (tM X.K X.mg W g)) (hg : Gl X "zip" := by rfl) (hs : starEach [a, b] X.env = (false, eval a X.env) :: starEach [b] X.env := by rfl) (hs2 : starEach [b] X.env = (false, eval b X.env) :: starEach [] X.env := by rfl) (hpl : (backTo pos (starEach [b] X.env)).any (·.1) = false := by rfl) :
    PI X (.Tuple elts kk tpos) (.Call (.Name "zip" p) [a, b] [] pos) (tMI X.K X.mg W (miZ f g)) := by
  refine pi_imp (RZ.pi_zipA hg hm (pa_cons ha (pa_cons hb pa_nil hs2) hs) hs hpl) fun σ H R ⟨μ, Hs, ρ, S, r, S1, s, env, e, P⟩ => ?_
  obtain ⟨q, S2, e1, P1⟩ := post_bind e P
  refine ⟨μ, Hs, ρ, S, q, S2, s, env, e1, P1.imp fun d μ1 Hs1 H1 g1 s1 ⟨_, _, e2, P2⟩ v rv => ?_⟩
  obtain ⟨q2, S3, e3, P3⟩ := post_bind e2 P2
  refine ⟨μ1, Hs1, ρ, S2, q2, S3, s1, env.gr g1, e3, P3.imp fun d2 μ2 Hs2 H2 g2 s2 ⟨_, _, e4, P4⟩ u ru => ?_⟩
  have rv2 := rv.gr g2
  split at e4
  · cases e4
    cases rv2 with
    | tup h1 h2 =>
      cases ru with
      | tup h3 h4 => exact ⟨_, _, _, _, rfl, .inr ⟨sqT_mono s2.sub h1, sqT_mono s2.sub h3, P4 μ2 Hs2 H2 (Gr.refl _ _) s2 _ (wk_zipTS h1 h2 h3 h4)⟩⟩
  · obtain ⟨p1, e5, e6⟩ := b1_eq e4
    obtain ⟨p2, e7, e8⟩ := b1_eq e6
    cases e8
    obtain ⟨a0, rfl, ⟨xs, hx⟩, hL⟩ := listOf_list s2 rv2 e5
    obtain ⟨b0, rfl, ⟨ys, hy⟩, hL2⟩ := listOf_list s2 ru e7
    exact ⟨a0, b0, xs, ys, rfl, .inl ⟨hx, hy, P4 μ2 Hs2 H2 (Gr.refl _ _) s2 _ (wk_zipS hL hL2)⟩⟩
/-! sorted texts -/
theorem cr_sortedSS : CallR X (.builtin "sorted") (fun vs H Q => ∃ (a : Addr) (xs : List Str), vs = [V.ref a] ∧ SqL X.K H a (xs.map V.str) ∧ ∀ (ys : List Str) (p : Addr), ys.Perm xs → sortedS ys = true → H p = none → Q (.ref p) (upd H p (.lst (ys.map V.str)))) := by
  intro pins s σ H vs us Q I r h
  obtain ⟨a, xs, rfl, hs, q⟩ := h
  obtain ⟨its, rv, hl, hz⟩ := I.list hs
  rw [Vals.ref1 r]
  have hlen0 := rv.length
  refine PyProof.Rows.sorted_strsAny hl.isList rv.strs (by rw [← hlen0]; exact hz) fun out ys h1 h2 h3 => ?_
  obtain ⟨ep, he'⟩ := PyProof.Rows.sortedAll_at s.heap its out
  have hlen : (ys.map V.str).length ≤ sizeLine := by rw [List.length_map, h2.length_eq]; rw [List.length_map] at hz; exact hz
  exact ⟨.ref _, upd H (s.heap.objs.size + 1) (.lst (ys.map V.str)), I.laid (t' := s.toks) (fun _ _ => PyProof.Rows.sortedAll_old) (Nat.le_succ _) ⟨hlen, out.toList, ep, vals_of_strs h1, he'⟩, rfl, q ys _ h2 h3 (I.hok.fresh (Nat.le_succ _))⟩
/-- a text's place in the order -/
def ltS (a b : Str) : Bool := ltCps a.cps.toList b.cps.toList
def insS (x : Str) : List Str → List Str
  | [] => [x]
  | y :: r => if ltS y x = true then y :: insS x r else x :: y :: r
def sortS : List Str → List Str
  | [] => []
  | x :: r => insS x (sortS r)
theorem insS_perm (x : Str) : ∀ l : List Str, (insS x l).Perm (x :: l)
  | [] => .refl _
  | y :: r => by
    unfold insS
    split
    · exact ((insS_perm x r).cons y).trans (.swap _ _ _)
    · exact .refl _
theorem sortS_perm : ∀ l : List Str, (sortS l).Perm l
  | [] => .refl _
  | x :: r => (insS_perm x _).trans ((sortS_perm r).cons x)
theorem ltCps_eq : ∀ (a b : List Nat), ltCps a b = decide (a < b) := by
  intro a
  induction a with
  | nil => intro b; cases b with
    | nil => simp [ltCps]
    | cons y b => simp [ltCps]
  | cons x a ih => intro b; cases b with
    | nil => simp [ltCps]
    | cons y b =>
      simp [ltCps, ih, List.cons_lt_cons_iff]
      by_cases h : x = y <;> simp [h]
theorem ltS_iff {a b : Str} : ltS a b = true ↔ a.cps.toList < b.cps.toList := by unfold ltS; rw [ltCps_eq]; simp
theorem str_ext {a b : Str} (h : a.cps.toList = b.cps.toList) : a = b := by
  cases a; cases b
  simp only at h
  congr 1
  exact Array.toList_inj.mp h
theorem ltS_no {a b : Str} : ltS a b = false ↔ b.cps.toList ≤ a.cps.toList := by
  rw [← Bool.not_eq_true, ltS_iff]
  exact Std.not_lt
theorem risingS_all : ∀ (l : List Str) (p : Str), risingS p l = true ↔ (p :: l).Pairwise fun a b => ltS b a = false
  | [], p => by simp [risingS]
  | x :: r, p => by
    unfold risingS
    rw [Bool.and_eq_true, risingS_all r x, List.pairwise_cons (a := p)]
    refine ⟨fun ⟨h1, h2⟩ => ⟨fun y hy => ?_, h2⟩, fun ⟨h1, h2⟩ => ⟨?_, h2⟩⟩
    · have h1' : ltS x p = false := by simpa [ltS] using h1
      rcases List.mem_cons.mp hy with rfl | hy
      · exact h1'
      · have h3 := (List.pairwise_cons.mp h2).1 y hy
        rw [ltS_no] at h1' h3 ⊢
        exact Std.le_trans h1' h3
    · have := h1 x (by simp)
      simpa [ltS] using this
theorem sortedS_iff (l : List Str) : sortedS l = true ↔ l.Pairwise fun a b => ltS b a = false := by
  cases l with
  | nil => simp [sortedS]
  | cons x r => exact risingS_all r x
theorem sortedS_uniq {l m : List Str} (p : l.Perm m) (h1 : sortedS l = true) (h2 : sortedS m = true) : l = m := by
  rw [sortedS_iff] at h1 h2
  refine List.Perm.eq_of_pairwise (fun a b _ _ ha hb => ?_) h1 h2 p
  rw [ltS_no] at ha hb
  exact str_ext (Std.le_antisymm ha hb)
theorem insS_srt (x : Str) : ∀ l : List Str, (l.Pairwise fun a b => ltS b a = false) → (insS x l).Pairwise fun a b => ltS b a = false
  | [], _ => by simp [insS]
  | y :: r, h => by
    unfold insS
    obtain ⟨h1, h2⟩ := List.pairwise_cons.mp h
    split
    · rename_i hy
      refine List.pairwise_cons.mpr ⟨fun z hz => ?_, insS_srt x r h2⟩
      rcases List.mem_cons.mp ((insS_perm x r).mem_iff.mp hz) with rfl | hz
      · rw [ltS_iff] at hy
        rw [ltS_no]
        exact Std.le_of_lt hy
      · exact h1 z hz
    · rename_i hy
      have hy' : ltS y x = false := by simpa using hy
      refine List.pairwise_cons.mpr ⟨fun z hz => ?_, h⟩
      rcases List.mem_cons.mp hz with rfl | hz
      · exact hy'
      · have := h1 z hz
        rw [ltS_no] at this hy' ⊢
        exact Std.le_trans hy' this
theorem sortS_srt : ∀ l : List Str, sortedS (sortS l) = true
  | l => (sortedS_iff _).mpr (go l)
where go : ∀ l : List Str, (sortS l).Pairwise fun a b => ltS b a = false
  | [] => .nil
  | x :: r => insS_srt x _ (go r)
theorem sortS_eq {l m : List Str} (p : l.Perm m) : sortS l = sortS m := sortedS_uniq (((sortS_perm l).trans p).trans (sortS_perm m).symm) (sortS_srt l) (sortS_srt m)
/-- sorted(xs), xs a list of texts, a new cell -/
def mSortS (f : SF) : SF := fun ρ S => sb (f ρ S) fun d S1 => b1 (listOf S1 d) fun p => b1 (D.strs? p.1) fun xs => some (.ok (.loc S1.length), S1 ++ [.lst ((sortS xs).map D.str)])
theorem rpa_strs {K : PySem.W.Frag} {μ : List Addr} {H : Hp} : ∀ l : List Str, RpA K μ H (l.map V.str) (l.map D.str)
  | [] => .nil
  | x :: r => .cons (.str x) (rpa_strs r)
theorem s_sortS (hm : X.mg "sorted" = none) (ha : PE X e (tM X.K X.mg W f)) (hg : Gl X "sorted" := by rfl) (he : starEach [e] X.env = (false, eval e X.env) :: starEach [] X.env := by rfl) (hpl : (backTo pos (starEach [] X.env)).any (·.1) = false := by rfl) :
    PE X (.Call (.Name "sorted" p) [e] [] pos) (tM X.K X.mg W (mSortS f)) := by
  refine pe_imp (pe_callB cr_sortedSS hg hm (by decide +kernel) (pa_cons ha pa_nil he) (by decide) (by decide) he hpl) fun σ H Q ⟨μ, Hs, ρ, S, r, S1, s, env, e, P⟩ => ?_
  obtain ⟨q, S2, e1, P1⟩ := post_bind e P
  refine ⟨μ, Hs, ρ, S, q, S2, s, env, e1, P1.imp fun d μ1 Hs1 H1 g1 s1 ⟨_, _, e2, P2⟩ v rv => ?_⟩
  obtain ⟨pp, e5, e6⟩ := b1_eq e2
  obtain ⟨xs, e7, e8⟩ := b1_eq e6
  cases e8
  obtain ⟨a0, rfl, _, hL⟩ := listOf_list s1 rv e5
  have hchk : pp.2 S2 := by
    unfold listOf at e5
    split at e5
    · rename_i qq hq
      cases e5
      exact (lsAt_eq (n := qq.1) (ds := qq.2) hq).2
    · obtain ⟨ds, _, e9⟩ := b1_eq e5
      cases e9
      trivial
  obtain ⟨vs, k1, k2⟩ := hL μ1 Hs1 H1 S2 (Gr.refl _ _) s1 hchk
  have k3 := strs_rp k2 e7
  rw [k3] at k1
  refine ⟨a0, xs, rfl, k1, fun ys p hp hs hn => ?_⟩
  have e : ys = sortS xs := sortedS_uniq (hp.trans (sortS_perm xs).symm) hs (sortS_srt xs)
  subst e
  obtain ⟨s2, g2⟩ := s1.alloc (c := .lst ((sortS xs).map D.str)) (o := .lst ((sortS xs).map V.str)) hn ⟨_, upd_same, rpa_strs _⟩
  exact P2 _ _ _ g2 s2 _ (loc_new s1.len)
end
/-! range over the store -/
section
variable {X : Cx} {W : WX} {e a b c o tg iter elt : Expr} {es : List Expr} {f g : SF} {fs : SFs} {pos p p2 p3 p4 apos cpos tpos : Pos}
theorem wkS_of {K : PySem.W.Frag} {mg : Str → Option Value} {μ : List Addr} {Hs : Hp} {J : It} {ds : List D} {chk : Store → Prop} (wk : ∀ μ', Wk K μ' J ds Hs) : WkS K mg J μ Hs chk ds :=
  ⟨fun i μ2 Hs2 H2 S2 g s2 _ hi => (wk μ2).go i H2 (g.sub.trans s2.sub) hi, fun i μ2 Hs2 H2 S2 g s2 _ hi => (wk μ2).stop i H2 (g.sub.trans s2.sub) hi, fun i μ2 Hs2 H2 S2 v H3 g s2 _ hy d hd => (wk μ2).yld i H2 Hs2 v H3 g.sub s2.sub hy d hd⟩
def miR (f : SF) : SFi := fun ρ S => sb (f ρ S) fun d S1 => match d with
  | .int j => @ite _ (-(2 ^ 62) ≤ j ∧ j < 2 ^ 62) (decR j) (some (.ok (rngD 0 j.toNat, fun _ => True), S1)) none
  | _ => none
def miR2 (f g : SF) : SFi := fun ρ S => sb (f ρ S) fun d S1 => sb (g ρ S1) fun e S2 => match d, e with
  | .int i, .int j => @ite _ (-(2 ^ 62) ≤ i ∧ i < 2 ^ 62 ∧ -(2 ^ 62) ≤ j ∧ j < 2 ^ 62) (decR2 i j) (some (.ok (rngD i (j - i).toNat, fun _ => True), S2)) none
  | _, _ => none
theorem si_range (hm : X.mg "range" = none) (ha : PE X a (tM X.K X.mg W f)) (hg : Gl X "range" := by rfl) (hs : starEach [a] X.env = [(false, eval a X.env)] := by rfl) : PI X tg (.Call (.Name "range" p) [a] [] pos) (tMI X.K X.mg W (miR f)) := by
  refine pi_imp (pi_range1 hg hm (pa_cons ha pa_nil hs) hs) fun σ H R ⟨μ, Hs, ρ, S, r, S1, s, env, e, P⟩ => ?_
  obtain ⟨q, S2, e1, P1⟩ := post_bind e P
  refine ⟨μ, Hs, ρ, S, q, S2, s, env, e1, P1.imp fun d μ1 Hs1 H1 g1 s1 ⟨_, _, e2, P2⟩ v rv => ?_⟩
  cases d with
  | int j =>
    obtain ⟨hz, h2⟩ := ite_someI e2
    cases h2
    cases rv
    exact ⟨j, rfl, hz.1, hz.2, P2 μ1 Hs1 H1 (Gr.refl _ _) s1 _ (wkS_of fun _ => wk_range)⟩
  | _ => cases e2
theorem si_range2 (hm : X.mg "range" = none) (ha : PE X a (tM X.K X.mg W f)) (hb : PE X b (tM X.K X.mg W g)) (hg : Gl X "range" := by rfl) (hs : starEach [a, b] X.env = (false, eval a X.env) :: starEach [b] X.env := by rfl) (hs2 : starEach [b] X.env = (false, eval b X.env) :: starEach [] X.env := by rfl) (hpl : (backTo pos (starEach [b] X.env)).any (·.1) = false := by rfl) : PI X tg (.Call (.Name "range" p) [a, b] [] pos) (tMI X.K X.mg W (miR2 f g)) := by
  refine pi_imp (pi_range2 hg hm (pa_cons ha (pa_cons hb pa_nil hs2) hs) (by rw [hs, hs2]; rfl) hs2) fun σ H R ⟨μ, Hs, ρ, S, r, S1, s, env, e, P⟩ => ?_
  obtain ⟨q, S2, e1, P1⟩ := post_bind e P
  refine ⟨μ, Hs, ρ, S, q, S2, s, env, e1, P1.imp fun d μ1 Hs1 H1 g1 s1 ⟨_, _, e2, P2⟩ v rv => ?_⟩
  obtain ⟨q2, S3, e3, P3⟩ := post_bind e2 P2
  refine ⟨μ1, Hs1, ρ, S2, q2, S3, s1, env.gr g1, e3, P3.imp fun d2 μ2 Hs2 H2 g2 s2 ⟨_, _, e4, P4⟩ u ru => ?_⟩
  cases d with
  | int i =>
    cases d2 with
    | int j =>
      obtain ⟨hz, h2⟩ := ite_someI e4
      cases h2
      cases rv
      cases ru
      exact ⟨i, j, rfl, hz, P4 μ2 Hs2 H2 (Gr.refl _ _) s2 _ (wkS_of fun _ => wk_range)⟩
    | _ => cases e4
  | _ => cases e4
end
section
variable {Q : D → Store → Prop} {E : Exn → Store → Prop} {QG : Fx → Store → Prop} {ρ : Rho} {S : Store} {f g h : SF} {Qi : List D × (Store → Prop) → Store → Prop}
theorem v_sortS {xs : List Str} (hh : Ev (f ρ S) (fun d S1 => ∃ n, d = .loc n ∧ S1[n]? = some (.lst (xs.map D.str)) ∧ Q (.loc S1.length) (S1 ++ [.lst ((sortS xs).map D.str)])) E) : Ev (mSortS f ρ S) Q E :=
  ev_sb (hh.mono (fun d S1 ⟨n, e1, h1, q⟩ => by
    subst e1
    unfold listOf
    rw [ls_at h1]
    show Ev (b1 (D.strs? (xs.map D.str)) _) Q E
    rw [strs_map]
    exact q) fun _ _ e => e)
theorem v_zT {xs ys : List D} (hh : Ev (f ρ S) (fun d S1 => Ev (g ρ S1) (fun e S2 => d = .tup xs ∧ e = .tup ys ∧ Qi (D.zipD xs ys, fun _ => True) S2) E) E) : Ev (miZ f g ρ S) Qi E :=
  ev_sb (hh.mono (fun d S1 h2 => ev_sb (h2.mono (fun e S2 ⟨e1, e2, q⟩ => by subst e1 e2; exact q) fun _ _ e => e)) fun _ _ e => e)
theorem v_zL {n m : Nat} {xs ys : List D} (hh : Ev (f ρ S) (fun d S1 => Ev (g ρ S1) (fun e S2 => d = .loc n ∧ e = .loc m ∧ S2[n]? = some (.lst xs) ∧ S2[m]? = some (.lst ys) ∧ Qi (D.zipD xs ys, fun S => S[n]? = some (.lst xs) ∧ S[m]? = some (.lst ys)) S2) E) E) : Ev (miZ f g ρ S) Qi E :=
  ev_sb (hh.mono (fun d S1 h2 => ev_sb (h2.mono (fun e S2 ⟨e1, e2, h1, h3, q⟩ => by
    subst e1 e2
    show Ev (b1 (listOf S2 (.loc n)) _) Qi E
    unfold listOf
    rw [ls_at h1]
    show Ev (b1 (match lsAt S2 (.loc m) with | some q => _ | none => _) _) Qi E
    rw [ls_at h3]
    exact q) fun _ _ e => e)) fun _ _ e => e)
theorem v_rng (hh : Ev (f ρ S) (fun d S1 => ∃ j : Int, d = .int j ∧ (-(2 ^ 62) ≤ j ∧ j < 2 ^ 62) ∧ Qi (rngD 0 j.toNat, fun _ => True) S1) E) : Ev (miR f ρ S) Qi E :=
  ev_sb (hh.mono (fun d S1 ⟨j, e1, h1, q⟩ => by subst e1; exact ev_if h1 q) fun _ _ e => e)
end
end Pd

namespace Lh
open PySem PySem.Spec L2 SkE Pd
open PyProof.Rows hiding St
def top (i : Nat) : Stmt := PySem.Challenge.pw_letterheld_k32_splitting_and_joining.main.body.getD i (.Pass ⟨0, 0, 0, 0⟩)
def kv_LINES : List (Str × Str) := [("register", "in"), ("give", "ino"), ("got", "ionno"), ("use", "i"), ("recall", "i"), ("notice", "io"), ("receipt", "in"), ("noted", "io"), ("pay", "ion"), ("paid", "in")]
structure Txt (K : PySem.W.Frag) (w : World) (mg : Str → Option Value) : Prop where
  d_LINES : Kt K w mg "LINES" kv_LINES
  b_range : mg "range" = none
  b_int : mg "int" = none
  b_max : mg "max" = none
  b_isinstance : mg "isinstance" = none
  b_bool : mg "bool" = none
  b_str : mg "str" = none
  b_zip : mg "zip" = none
  b_tuple : mg "tuple" = none
  b_len : mg "len" = none
  b_sum : mg "sum" = none
  b_list : mg "list" = none
  b_enumerate : mg "enumerate" = none
  b_sorted : mg "sorted" = none
  c_MOST : ∃ t, mg "MOST" = some (.int 1000000000 t)
  c_LETTERS : ∃ t, mg "LETTERS" = some (.str "abcdefghijklmnopqrstuvwxyz" t)
  c_GREATEST : ∃ t, mg "GREATEST" = some (.int 1000000000 t)
  c_DIGITS : ∃ t, mg "DIGITS" = some (.str "0123456789" t)
  k_Entry : Ck K mg "Entry"
  k_Book : Ck K mg "Book"
  k_Office : Ck K mg "Office"
  n_Entry_is_recalled : At K mg "Entry" "is_recalled"
  n_Entry_receiver : At K mg "Entry" "receiver"
  n_Entry_state : At K mg "Entry" "state"
  n_Entry_epoch : At K mg "Entry" "epoch"
  n_Entry_quantity : At K mg "Entry" "quantity"
  n_Entry_home : At K mg "Entry" "home"
  n_Entry_thing : At K mg "Entry" "thing"
  n_Book_entries : At K mg "Book" "entries"
  n_Office_book : At K mg "Office" "_book"
  n_Entry_is_paid : At K mg "Entry" "is_paid"
  n_Entry_is_noted : At K mg "Entry" "is_noted"
  n_Entry_is_received : At K mg "Entry" "is_received"
  n_Entry_children : At K mg "Entry" "children"
  n_Book_next_number : At K mg "Book" "next_number"
  n_Book_office : At K mg "Book" "office"
  n_Office_lines : At K mg "Office" "_lines"
  n_Book_credit : At K mg "Book" "credit"
  n_Book_payments : At K mg "Book" "payments"
  n_Office_name : At K mg "Office" "name"
  x_InvalidQuantity : Xk K mg "InvalidQuantity"
  x_Frozen : Xk K mg "Frozen"
  x_NotHeld : Xk K mg "NotHeld"
  x_InvalidThings : Xk K mg "InvalidThings"
  x_InvalidOffice : Xk K mg "InvalidOffice"
  yes : True
abbrev s_XInvalidLine : Stmt := inClass (top 3) 0
theorem xi_InvalidLine {P : Program} {w : World} {K : PySem.W.Frag} {mg : Str → Option Value} {base : Heap} {f cc cda D : Addr} {dV kV doc pm ct oc ccl cl : Value} {an od cdd cld : Option Addr} {osl ccs csl : Array (Option Value)} {vs2 : Array Value} {file : Str} {tf : Tok} (T : Xs.XiC K D "line")
    (lk : K.lookup f = some ⟨oc, od, .func (PySem.W.ksFn "__init__" "InvalidLine.__init__" (defArgs s_XInvalidLine) (defBody s_XInvalidLine) (defScope s_XInvalidLine) dV kV doc pm an (.ref cda) ct cc), osl⟩) (hcd : PySem.W.codeIn K (.ref cda) "InvalidLine.__init__" = true) (hcode : K.lookup cda = some ⟨ccl, cdd, .fields vs2, ccs⟩) (hvs : vs2[2]? = some (.str file tf)) (hfile : ((P.main.file : Str) == file) = true)
    (hcell : K.lookup cc = some ⟨cl, cld, .cell (some (.ref D)), csl⟩) (hsuper : mg "super" = none) (htop : (P.main.scope.names.lookup ("super" : Str)).isSome = false) : FnOk P w K mg base (L2.CX P w) 1 f (PySem.W.ksFn "__init__" "InvalidLine.__init__" (defArgs s_XInvalidLine) (defBody s_XInvalidLine) (defScope s_XInvalidLine) dV kV doc pm an (.ref cda) ct cc) ["self", "line"] (Xs.spXi D "line") :=
  Xs.init_ok (k := 0) (msg := "invalid line") (fl := "line") (a0 := "self") (a1 := "line") T hcd rfl rfl hcode hvs hfile hcell hsuper rfl rfl rfl rfl (by decide) rfl (by decide) (by decide) (by decide +kernel) rfl rfl rfl (fun _ => rfl) (fun _ => rfl) lk htop
abbrev s_XBrokenJournal : Stmt := inClass (top 4) 0
theorem xi_BrokenJournal {P : Program} {w : World} {K : PySem.W.Frag} {mg : Str → Option Value} {base : Heap} {f cc cda D : Addr} {dV kV doc pm ct oc ccl cl : Value} {an od cdd cld : Option Addr} {osl ccs csl : Array (Option Value)} {vs2 : Array Value} {file : Str} {tf : Tok} (T : Xs.XiC K D "line")
    (lk : K.lookup f = some ⟨oc, od, .func (PySem.W.ksFn "__init__" "BrokenJournal.__init__" (defArgs s_XBrokenJournal) (defBody s_XBrokenJournal) (defScope s_XBrokenJournal) dV kV doc pm an (.ref cda) ct cc), osl⟩) (hcd : PySem.W.codeIn K (.ref cda) "BrokenJournal.__init__" = true) (hcode : K.lookup cda = some ⟨ccl, cdd, .fields vs2, ccs⟩) (hvs : vs2[2]? = some (.str file tf)) (hfile : ((P.main.file : Str) == file) = true)
    (hcell : K.lookup cc = some ⟨cl, cld, .cell (some (.ref D)), csl⟩) (hsuper : mg "super" = none) (htop : (P.main.scope.names.lookup ("super" : Str)).isSome = false) : FnOk P w K mg base (L2.CX P w) 1 f (PySem.W.ksFn "__init__" "BrokenJournal.__init__" (defArgs s_XBrokenJournal) (defBody s_XBrokenJournal) (defScope s_XBrokenJournal) dV kV doc pm an (.ref cda) ct cc) ["self", "line"] (Xs.spXi D "line") :=
  Xs.init_ok (k := 0) (msg := "broken journal") (fl := "line") (a0 := "self") (a1 := "line") T hcd rfl rfl hcode hvs hfile hcell hsuper rfl rfl rfl rfl (by decide) rfl (by decide) (by decide) (by decide +kernel) rfl rfl rfl (fun _ => rfl) (fun _ => rfl) lk htop
abbrev s_L_cut : Stmt := top 36
abbrev N_L_cut : List Str := ["_law_quantity", "_law_cell", "_law_sizes", "_law_left", "_law_k", "_law_size"]
abbrev P_L_cut : List Str := ["_law_quantity", "_law_cell"]
theorem sc_L_cut : FnScope N_L_cut P_L_cut (defScope s_L_cut) := ⟨rfl, rfl, rfl, by decide +kernel, rfl, by decide +kernel, by decide +kernel⟩
def g_L_cut : Gs := (seqG (newG 2 fNil)
  (seqG (asgG (st1 3) (fVar 0))
  (seqG (forG (fIs itR1 (fCons (f2 gAdd (fC (.int 1)) (f2 gMod (fL gInt (fCons (fVar 1) fNil)) (fC (.int 3)))) fNil)) (st1 4) (seqG (asgG (st1 5) (f2 gAdd (fC (.int 1)) (f2 gMod (f2 gDiv (fL gInt (fCons (fVar 1) fNil)) (f2 gAdd (fC (.int 3)) (fVar 4))) (fL gMax2 (fCons (fC (.int 1)) (fCons (f2 gSub (fVar 3) (fC (.int 1))) fNil))))))
  (ifG (ftB (f2 gGt (fVar 3) (fC (.int 1)))) (seqG (appG 2 (fVar 5))
  (asgG (st1 3) (f2 gSub (fVar 3) (fVar 5)))) nilG)))
  (retG (f2 gAdd (fVar 2) (fL gLstD (fCons (fVar 3) fNil)))))))
def f_L_cut : List D → Option D := dF 2 N_L_cut g_L_cut
theorem ok_L_cut {P : Program} {w : World} {K : PySem.W.Frag} {mg : Str → Option Value} {base : Heap} {f : Addr} {fd : FuncData} (T : Txt K w mg)  (Fn : Fun K "_law_cut" "_law_cut" s_L_cut f fd) : FnOk P w K mg base CX0 1 f fd P_L_cut (spD K f_L_cut) := by
  refine okD (g := g_L_cut) Fn sc_L_cut (fun cdv A outer s H E μ Hs hr => ?_) (fun ds d h => dF_ok (ps := P_L_cut) (N := N_L_cut) (g := g_L_cut) ds d h)
  exact (pg_cons (pg_new 2 sc_L_cut.nd pda_nil)
      (pg_cons (pg_asg 3 sc_L_cut.nd (pd_var 0))
      (pg_cons (pg_for (tg_1 4) PassesOwn.never rfl (pdi_range1 T.b_range (pda_cons (pd_op op_addA imp_add pd_int (pd_op op_mod imp_mod (pd_callTy call_intA imp_int T.b_int (pda_cons (pd_var 1) pda_nil)) pd_int)) pda_nil)) (pg_name (i := 4) sc_L_cut.nd rfl (by first | exact .inl rfl | exact .inr rfl)) (pg_cons (pg_asg 5 sc_L_cut.nd (pd_op op_addA imp_add pd_int (pd_op op_mod imp_mod (pd_op op_fdiv imp_div (pd_callTy call_intA imp_int T.b_int (pda_cons (pd_var 1) pda_nil)) (pd_op op_addA imp_add pd_int (pd_var 4))) (pd_callB (call_max2 rfl) imp_max2 T.b_max (pda_cons pd_int (pda_cons (pd_op op_sub imp_sub (pd_var 3) pd_int) pda_nil))))))
      (pg_one (pg_if (pdt_cmp op_gtA imp_ord (pd_var 3) pd_int) (pg_cons (pg_app 2 (pd_var 5))
      (pg_one (pg_asg 3 sc_L_cut.nd (pd_op op_sub imp_sub (pd_var 3) (pd_var 5))))) pg_nil))) (hv_1 4))
      (pg_one (pg_ret (pd_op op_addA imp_add (pd_var 2) (pd_lst (pda_cons (pd_var 3) pda_nil))))))))
abbrev s_Entry_told : Stmt := inClass (top 30) 3
abbrev N_Entry_told : List Str := ["self"]
abbrev P_Entry_told : List Str := ["self"]
theorem sc_Entry_told : FnScope N_Entry_told P_Entry_told (defScope s_Entry_told) := ⟨rfl, rfl, rfl, by decide +kernel, rfl, by decide +kernel, by decide +kernel⟩
noncomputable def g_Entry_told : SG := (gRet (mTup (mCons (mFld "Entry" "thing" (mP (fVar 0))) (mCons (mFld "Entry" "home" (mP (fVar 0))) (mCons (mFld "Entry" "quantity" (mP (fVar 0))) (mCons (mFld "Entry" "epoch" (mP (fVar 0))) (mCons (mFld "Entry" "state" (mP (fVar 0))) (mCons (mFld "Entry" "receiver" (mP (fVar 0))) (mCons (mFld "Entry" "is_recalled" (mP (fVar 0))) mNil)))))))))
noncomputable def f_Entry_told : SFn := mF 1 N_Entry_told g_Entry_told
theorem ok_Entry_told {P : Program} {w : World} {K : PySem.W.Frag} {mg : Str → Option Value} {base : Heap} {f : Addr} {fd : FuncData} (T : Txt K w mg)  (Fn : Fun K "told" "Entry.told" s_Entry_told f fd) : FnOk P w K mg base (L2.CX P w) 1 f fd P_Entry_told (spM K mg f_Entry_told) := by
  refine okM (g := g_Entry_told) Fn sc_Entry_told fun cdv A outer s H E tk hr => ?_
  exact (sg_one (sg_ret (s_tup (s_cons (s_fld T.k_Entry T.n_Entry_thing (s_var 0)) (s_cons (s_fld T.k_Entry T.n_Entry_home (s_var 0)) (s_cons (s_fld T.k_Entry T.n_Entry_quantity (s_var 0)) (s_cons (s_fld T.k_Entry T.n_Entry_epoch (s_var 0)) (s_cons (s_fld T.k_Entry T.n_Entry_state (s_var 0)) (s_cons (s_fld T.k_Entry T.n_Entry_receiver (s_var 0)) (s_cons (s_fld T.k_Entry T.n_Entry_is_recalled (s_var 0)) s_nil))))))))))
abbrev s_Book_entry : Stmt := inClass (top 31) 1
abbrev N_Book_entry : List Str := ["self", "thing"]
abbrev P_Book_entry : List Str := ["self", "thing"]
theorem sc_Book_entry : FnScope N_Book_entry P_Book_entry (defScope s_Book_entry) := ⟨rfl, rfl, rfl, by decide +kernel, rfl, by decide +kernel, by decide +kernel⟩
noncomputable def g_Book_entry : SG := (gRet (mDGet1 (mFld "Book" "entries" (mP (fVar 0))) (mP (fVar 1))))
noncomputable def f_Book_entry : SFn := mF 2 N_Book_entry g_Book_entry
theorem ok_Book_entry {P : Program} {w : World} {K : PySem.W.Frag} {mg : Str → Option Value} {base : Heap} {f : Addr} {fd : FuncData} (T : Txt K w mg)  (Fn : Fun K "entry" "Book.entry" s_Book_entry f fd) : FnOk P w K mg base (L2.CX P w) 1 f fd P_Book_entry (spM K mg f_Book_entry) := by
  refine okM (g := g_Book_entry) Fn sc_Book_entry fun cdv A outer s H E tk hr => ?_
  exact (sg_one (sg_ret (s_dget1 (room1 hr) (s_fld T.k_Book T.n_Book_entries (s_var 0)) (s_pure (pd_var 1)))))
abbrev s_Office_entry : Stmt := inClass (top 34) 2
abbrev N_Office_entry : List Str := ["self", "thing", "found"]
abbrev P_Office_entry : List Str := ["self", "thing"]
theorem sc_Office_entry : FnScope N_Office_entry P_Office_entry (defScope s_Office_entry) := ⟨rfl, rfl, rfl, by decide +kernel, rfl, by decide +kernel, by decide +kernel⟩
noncomputable def g_Office_entry : SG := (gSeq (gAsg (st1 2) (mMeth "Book" "entry" f_Book_entry (mFld "Office" "_book" (mP (fVar 0))) (mCons (mP (fVar 1)) mNil)))
  (gSeq (gIf (mtB (m2 gIsN (mP (fVar 2)) (mP (fC .non)))) (gRet (mP (fC .non))) gNil)
  (gRet (mMeth "Entry" "told" f_Entry_told (mP (fVar 2)) mNil))))
noncomputable def f_Office_entry : SFn := mF 2 N_Office_entry g_Office_entry
theorem ok_Office_entry {P : Program} {w : World} {K : PySem.W.Frag} {mg : Str → Option Value} {base : Heap} {f : Addr} {fd : FuncData} (T : Txt K w mg) (M_Entry_told : Mm P w K mg base 1 "Entry" "told" P_Entry_told f_Entry_told) (M_Book_entry : Mm P w K mg base 1 "Book" "entry" P_Book_entry f_Book_entry) (Fn : Fun K "entry" "Office.entry" s_Office_entry f fd) : FnOk P w K mg base (L2.CX P w) 2 f fd P_Office_entry (spM K mg f_Office_entry) := by
  refine okM (g := g_Office_entry) Fn sc_Office_entry fun cdv A outer s H E tk hr => ?_
  have hr_Entry_told := hr.mono (show 1 ≤ 1 by decide)
  have hr_Book_entry := hr.mono (show 1 ≤ 1 by decide)
  exact (sg_cons (sg_asg 2 sc_Office_entry.nd (s_meth tk M_Book_entry hr_Book_entry (s_fld T.k_Office T.n_Office_book (s_var 0)) (s_cons (s_pure (pd_var 1)) s_nil)))
      (sg_cons (sg_if (st_cmp op_isN imp_isN (s_var 2) (s_pure pd_non)) (sg_one (sg_ret (s_pure pd_non))) sg_nil)
      (sg_one (sg_ret (s_meth0 tk M_Entry_told hr_Entry_told (s_var 2))))))
abbrev s_check_quantity : Stmt := top 33
abbrev N_check_quantity : List Str := ["quantity"]
abbrev P_check_quantity : List Str := ["quantity"]
theorem sc_check_quantity : FnScope N_check_quantity P_check_quantity (defScope s_check_quantity) := ⟨rfl, rfl, rfl, by decide +kernel, rfl, by decide +kernel, by decide +kernel⟩
noncomputable def g_check_quantity : SG := (gIf (mtP (ftOr (ftV (f1 (gIsi "bool") (fVar 0))) (ftOr (ftNot (ftV (f1 (gIsi "int") (fVar 0)))) (ftNot (ftB (fChain gLe gLe (fC (.int 1)) (fVar 0) (fC (.int 1000000000)))))))) (gRaise "InvalidQuantity" (mP (fC (.str "quantity")))) gNil)
noncomputable def f_check_quantity : SFn := mF 1 N_check_quantity g_check_quantity
theorem ok_check_quantity {P : Program} {w : World} {K : PySem.W.Frag} {mg : Str → Option Value} {base : Heap} {f : Addr} {fd : FuncData} (T : Txt K w mg)  (Fn : Fun K "check_quantity" "check_quantity" s_check_quantity f fd) : FnOk P w K mg base (L2.CX P w) 1 f fd P_check_quantity (spM K mg f_check_quantity) := by
  refine okM (g := g_check_quantity) Fn sc_check_quantity fun cdv A outer s H E tk hr => ?_
  exact (sg_one (sg_if (st_pure (pdt_w (pdw_or (pdt_val (pd_isi (pd_var 0) T.b_isinstance T.b_bool)) (pdw_or (pdt_not (pdt_val (pd_isi (pd_var 0) T.b_isinstance T.b_int))) (pdw_or1 (pdt_not (pdt_chain op_leA op_leA imp_ord imp_ord pd_int (pd_var 0) (pd_globI T.c_MOST)))))))) (sg_one (sg_raise tk rfl T.x_InvalidQuantity (s_pure pd_str))) sg_nil))
abbrev s_format_line : Stmt := top 25
abbrev N_format_line : List Str := ["row", "value"]
abbrev P_format_line : List Str := ["row"]
theorem sc_format_line : FnScope N_format_line P_format_line (defScope s_format_line) := ⟨rfl, rfl, rfl, by decide +kernel, rfl, by decide +kernel, by decide +kernel⟩
def g_format_line : Gs := (retG (fM gJoin (fC (.str " ")) (fCons (fLc (fI itT (fVar 0)) (st1 1) ftYes (fL gStr (fCons (fVar 1) fNil)) [1]) fNil)))
def f_format_line : List D → Option D := dF 1 N_format_line g_format_line
theorem ok_format_line {P : Program} {w : World} {K : PySem.W.Frag} {mg : Str → Option Value} {base : Heap} {f : Addr} {fd : FuncData} (T : Txt K w mg)  (Fn : Fun K "format_line" "format_line" s_format_line f fd) : FnOk P w K mg base CX0 1 f fd P_format_line (spD K f_format_line) := by
  refine okD (g := g_format_line) Fn sc_format_line (fun cdv A outer s H E μ Hs hr => ?_) (fun ds d h => dF_ok (ps := P_format_line) (N := N_format_line) (g := g_format_line) ds d h)
  exact (pg_one (pg_ret (pd_join pd_str (pd_lc (own := [("value", 1)]) rfl sc_format_line.nd (pdi_tup (pd_var 0)) (blkOk_by (own := [("value", 1)]) (N := N_format_line) (sc := defScope s_format_line) (by decide +kernel)) (tg_1 1) (fun _ _ _ _ _ => (pg_name (i := 1) sc_format_line.nd rfl (by first | exact .inl rfl | exact .inr rfl))) tYes_D (fun _ _ _ _ _ => pts_nil) (fun _ _ _ _ _ => (pd_callTy call_strA imp_str T.b_str (pda_cons (pd_var 1) pda_nil)))))))
abbrev s_Entry_begin : Stmt := inClass (top 30) 1
abbrev N_Entry_begin : List Str := ["self", "home", "quantity", "epoch"]
abbrev P_Entry_begin : List Str := ["self", "home", "quantity", "epoch"]
theorem sc_Entry_begin : FnScope N_Entry_begin P_Entry_begin (defScope s_Entry_begin) := ⟨rfl, rfl, rfl, by decide +kernel, rfl, by decide +kernel, by decide +kernel⟩
noncomputable def g_Entry_begin : SG := (gSeq (gFld "Entry" "home" (mP (fVar 1)) (mP (fVar 0)))
  (gSeq (gFld "Entry" "quantity" (mP (fVar 2)) (mP (fVar 0)))
  (gSeq (gFld "Entry" "epoch" (mP (fVar 3)) (mP (fVar 0)))
  (gFld "Entry" "state" (mP (fC (.str "held"))) (mP (fVar 0))))))
noncomputable def f_Entry_begin : SFn := mF 4 N_Entry_begin g_Entry_begin
theorem ok_Entry_begin {P : Program} {w : World} {K : PySem.W.Frag} {mg : Str → Option Value} {base : Heap} {f : Addr} {fd : FuncData} (T : Txt K w mg)  (Fn : Fun K "begin" "Entry.begin" s_Entry_begin f fd) : FnOk P w K mg base (L2.CX P w) 1 f fd P_Entry_begin (spM K mg f_Entry_begin) := by
  refine okM (g := g_Entry_begin) Fn sc_Entry_begin fun cdv A outer s H E tk hr => ?_
  exact (sg_cons (sg_fld T.k_Entry T.n_Entry_home (s_pure (pd_var 1)) (s_var 0))
      (sg_cons (sg_fld T.k_Entry T.n_Entry_quantity (s_pure (pd_var 2)) (s_var 0))
      (sg_cons (sg_fld T.k_Entry T.n_Entry_epoch (s_pure (pd_var 3)) (s_var 0))
      (sg_one (sg_fld T.k_Entry T.n_Entry_state (s_pure pd_str) (s_var 0))))))
abbrev s_Entry_init : Stmt := inClass (top 30) 0
abbrev N_Entry_init : List Str := ["self", "thing"]
abbrev P_Entry_init : List Str := ["self", "thing"]
theorem sc_Entry_init : FnScope N_Entry_init P_Entry_init (defScope s_Entry_init) := ⟨rfl, rfl, rfl, by decide +kernel, rfl, by decide +kernel, by decide +kernel⟩
noncomputable def g_Entry_init : SG := (gSeq (gFld "Entry" "thing" (mP (fVar 1)) (mP (fVar 0)))
  (gSeq (gFld "Entry" "home" (mP (fC .non)) (mP (fVar 0)))
  (gSeq (gFld "Entry" "quantity" (mP (fC (.int 0))) (mP (fVar 0)))
  (gSeq (gFld "Entry" "epoch" (mP (fC (.int 0))) (mP (fVar 0)))
  (gSeq (gFld "Entry" "state" (mP (fC (.str "unknown"))) (mP (fVar 0)))
  (gSeq (gFld "Entry" "receiver" (mP (fC .non)) (mP (fVar 0)))
  (gSeq (gFld "Entry" "children" (mDisp mNil) (mP (fVar 0)))
  (gSeq (gFld "Entry" "is_recalled" (mP (fC (.bool false))) (mP (fVar 0)))
  (gSeq (gFld "Entry" "is_received" (mP (fC (.bool false))) (mP (fVar 0)))
  (gSeq (gFld "Entry" "is_noted" (mP (fC (.bool false))) (mP (fVar 0)))
  (gFld "Entry" "is_paid" (mP (fC (.bool false))) (mP (fVar 0)))))))))))))
noncomputable def f_Entry_init : SFn := mF 2 N_Entry_init g_Entry_init
theorem ok_Entry_init {P : Program} {w : World} {K : PySem.W.Frag} {mg : Str → Option Value} {base : Heap} {f : Addr} {fd : FuncData} (T : Txt K w mg)  (Fn : Fun K "__init__" "Entry.__init__" s_Entry_init f fd) : FnOk P w K mg base (L2.CX P w) 1 f fd P_Entry_init (spM K mg f_Entry_init) := by
  refine okM (g := g_Entry_init) Fn sc_Entry_init fun cdv A outer s H E tk hr => ?_
  exact (sg_cons (sg_fld T.k_Entry T.n_Entry_thing (s_pure (pd_var 1)) (s_var 0))
      (sg_cons (sg_fld T.k_Entry T.n_Entry_home (s_pure pd_non) (s_var 0))
      (sg_cons (sg_fld T.k_Entry T.n_Entry_quantity (s_pure pd_int) (s_var 0))
      (sg_cons (sg_fld T.k_Entry T.n_Entry_epoch (s_pure pd_int) (s_var 0))
      (sg_cons (sg_fld T.k_Entry T.n_Entry_state (s_pure pd_str) (s_var 0))
      (sg_cons (sg_fld T.k_Entry T.n_Entry_receiver (s_pure pd_non) (s_var 0))
      (sg_cons (sg_fld T.k_Entry T.n_Entry_children (s_disp s_nil) (s_var 0))
      (sg_cons (sg_fld T.k_Entry T.n_Entry_is_recalled (s_pure pd_bool) (s_var 0))
      (sg_cons (sg_fld T.k_Entry T.n_Entry_is_received (s_pure pd_bool) (s_var 0))
      (sg_cons (sg_fld T.k_Entry T.n_Entry_is_noted (s_pure pd_bool) (s_var 0))
      (sg_one (sg_fld T.k_Entry T.n_Entry_is_paid (s_pure pd_bool) (s_var 0)))))))))))))
abbrev s_Book_pbegin : Stmt := inClass (top 31) 10
abbrev N_Book_pbegin : List Str := ["self", "thing", "home", "quantity", "made"]
abbrev P_Book_pbegin : List Str := ["self", "thing", "home", "quantity"]
theorem sc_Book_pbegin : FnScope N_Book_pbegin P_Book_pbegin (defScope s_Book_pbegin) := ⟨rfl, rfl, rfl, by decide +kernel, rfl, by decide +kernel, by decide +kernel⟩
noncomputable def g_Book_pbegin : SG := (gSeq (gAsg (st1 4) (mMake "Entry" f_Entry_init [] (mCons (mP (fVar 1)) mNil)))
  (gSeq (gDrop (mMeth "Entry" "begin" f_Entry_begin (mP (fVar 4)) (mCons (mP (fVar 2)) (mCons (mP (fVar 3)) (mCons (mP (fC (.int 1))) mNil)))))
  (gSeq (gDPut (mP (fVar 4)) (mFld "Book" "entries" (mP (fVar 0))) (mP (fVar 1)))
  (gFld "Book" "next_number" (m2 gAdd (mFld "Book" "next_number" (mP (fVar 0))) (mP (fC (.int 1)))) (mP (fVar 0))))))
noncomputable def f_Book_pbegin : SFn := mF 4 N_Book_pbegin g_Book_pbegin
theorem ok_Book_pbegin {P : Program} {w : World} {K : PySem.W.Frag} {mg : Str → Option Value} {base : Heap} {f : Addr} {fd : FuncData} (T : Txt K w mg) (M_Entry_begin : Mm P w K mg base 1 "Entry" "begin" P_Entry_begin f_Entry_begin) (I_Entry : Mi P w K mg base 1 "Entry" P_Entry_init f_Entry_init) (Fn : Fun K "_begin" "Book._begin" s_Book_pbegin f fd) : FnOk P w K mg base (L2.CX P w) 3 f fd P_Book_pbegin (spM K mg f_Book_pbegin) := by
  refine okM (g := g_Book_pbegin) Fn sc_Book_pbegin fun cdv A outer s H E tk hr => ?_
  have hr_Entry_begin := hr.mono (show 1 ≤ 2 by decide)
  have hr_I_Entry := hr.mono (show 2 ≤ 2 by decide)
  exact (sg_cons (sg_asg 4 sc_Book_pbegin.nd (s_make tk I_Entry hr_I_Entry (s_cons (s_pure (pd_var 1)) s_nil)))
      (sg_cons (sg_drop (s_meth tk M_Entry_begin hr_Entry_begin (s_var 4) (s_cons (s_pure (pd_var 2)) (s_cons (s_pure (pd_var 3)) (s_cons (s_pure pd_int) s_nil)))))
      (sg_cons (sg_dput (room1 hr) (s_var 4) (s_fld T.k_Book T.n_Book_entries (s_var 0)) (s_pure (pd_var 1)))
      (sg_one (sg_fld T.k_Book T.n_Book_next_number (s_op op_addA imp_add (s_fld T.k_Book T.n_Book_next_number (s_var 0)) (s_pure pd_int)) (s_var 0))))))
abbrev s_Book_pgive : Stmt := inClass (top 31) 11
abbrev N_Book_pgive : List Str := ["self", "found", "epoch", "receiver"]
abbrev P_Book_pgive : List Str := ["self", "found", "epoch", "receiver"]
theorem sc_Book_pgive : FnScope N_Book_pgive P_Book_pgive (defScope s_Book_pgive) := ⟨rfl, rfl, rfl, by decide +kernel, rfl, by decide +kernel, by decide +kernel⟩
noncomputable def g_Book_pgive : SG := (gSeq gNo (gSeq gNo (gSeq gNo gNo)))
noncomputable def f_Book_pgive : SFn := mF 4 N_Book_pgive g_Book_pgive
theorem ok_Book_pgive {P : Program} {w : World} {K : PySem.W.Frag} {mg : Str → Option Value} {base : Heap} {f : Addr} {fd : FuncData} (T : Txt K w mg)  (Fn : Fun K "_give" "Book._give" s_Book_pgive f fd) : FnOk P w K mg base (L2.CX P w) 1 f fd P_Book_pgive (spM K mg f_Book_pgive) := by
  refine okM (g := g_Book_pgive) Fn sc_Book_pgive fun cdv A outer s H E tk hr => ?_
  exact (sg_cons sg_never (sg_cons sg_never (sg_cons sg_never (sg_one sg_never))))
abbrev s_Book_pgot : Stmt := inClass (top 31) 12
abbrev N_Book_pgot : List Str := ["self", "line"]
abbrev P_Book_pgot : List Str := ["self", "line"]
theorem sc_Book_pgot : FnScope N_Book_pgot P_Book_pgot (defScope s_Book_pgot) := ⟨rfl, rfl, rfl, by decide +kernel, rfl, by decide +kernel, by decide +kernel⟩
noncomputable def g_Book_pgot : SG := (gSeq gNo gNo)
noncomputable def f_Book_pgot : SFn := mF 2 N_Book_pgot g_Book_pgot
theorem ok_Book_pgot {P : Program} {w : World} {K : PySem.W.Frag} {mg : Str → Option Value} {base : Heap} {f : Addr} {fd : FuncData} (T : Txt K w mg)  (Fn : Fun K "_got" "Book._got" s_Book_pgot f fd) : FnOk P w K mg base (L2.CX P w) 1 f fd P_Book_pgot (spM K mg f_Book_pgot) := by
  refine okM (g := g_Book_pgot) Fn sc_Book_pgot fun cdv A outer s H E tk hr => ?_
  exact (sg_cons sg_never (sg_one sg_never))
abbrev s_Book_psplit : Stmt := inClass (top 31) 13
abbrev N_Book_psplit : List Str := ["self", "line", "found", "thing", "quantity"]
abbrev P_Book_psplit : List Str := ["self", "line"]
theorem sc_Book_psplit : FnScope N_Book_psplit P_Book_psplit (defScope s_Book_psplit) := ⟨rfl, rfl, rfl, by decide +kernel, rfl, by decide +kernel, by decide +kernel⟩
noncomputable def g_Book_psplit : SG := (gSeq (gAsg (st1 2) (mDGet (mFld "Book" "entries" (mP (fVar 0))) (mP (f2 gIx (fVar 1) (fC (.int 1))))))
  (gSeq (gFld "Entry" "state" (mP (fC (.str "split"))) (mP (fVar 2)))
  (gFor (miZ (mP (f1 (gEv2 2) (fVar 1))) (mP (f1 (gEv2 3) (fVar 1)))) (st2 3 4) (gSeq (gDrop (mApp (mFld "Entry" "children" (mP (fVar 2))) (mP (fVar 3))))
  (gDrop (mMeth "Book" "_begin" f_Book_pbegin (mP (fVar 0)) (mCons (mP (fVar 3)) (mCons (mFld "Entry" "home" (mP (fVar 2))) (mCons (mP (fVar 4)) mNil)))))))))
noncomputable def f_Book_psplit : SFn := mF 2 N_Book_psplit g_Book_psplit
theorem ok_Book_psplit {P : Program} {w : World} {K : PySem.W.Frag} {mg : Str → Option Value} {base : Heap} {f : Addr} {fd : FuncData} (T : Txt K w mg) (M_Book_pbegin : Mm P w K mg base 3 "Book" "_begin" P_Book_pbegin f_Book_pbegin) (Fn : Fun K "_split" "Book._split" s_Book_psplit f fd) : FnOk P w K mg base (L2.CX P w) 4 f fd P_Book_psplit (spM K mg f_Book_psplit) := by
  refine okM (g := g_Book_psplit) Fn sc_Book_psplit fun cdv A outer s H E tk hr => ?_
  have hr_Book_pbegin := hr.mono (show 3 ≤ 3 by decide)
  exact (sg_cons (sg_asg 2 sc_Book_psplit.nd (s_dget (room1 hr) (s_fld T.k_Book T.n_Book_entries (s_var 0)) (s_pure (pd_ix ix_seq imp_ix (pd_var 1) pd_int))))
      (sg_cons (sg_fld T.k_Entry T.n_Entry_state (s_pure pd_str) (s_var 2))
      (sg_one (sg_for (tg_2 3 4) (passes_of rfl) rfl (si_zip T.b_zip (s_pure (pd_every2 (pd_var 1))) (s_pure (pd_every2 (pd_var 1)))) (pg_tup rfl (pgs_cons (pg_name (i := 3) sc_Book_psplit.nd rfl (by first | exact .inl rfl | exact .inr rfl)) (pgs_cons (pg_name (i := 4) sc_Book_psplit.nd rfl (by first | exact .inl rfl | exact .inr rfl)) pgs_nil))) (sg_cons (sg_drop (s_app (s_fld T.k_Entry T.n_Entry_children (s_var 2)) (s_pure (pd_var 3))))
      (sg_one (sg_drop (s_meth tk M_Book_pbegin hr_Book_pbegin (s_var 0) (s_cons (s_pure (pd_var 3)) (s_cons (s_fld T.k_Entry T.n_Entry_home (s_var 2)) (s_cons (s_pure (pd_var 4)) s_nil)))))))))))
abbrev s_Book_pjoin : Stmt := inClass (top 31) 14
abbrev N_Book_pjoin : List Str := ["self", "line", "total", "thing", "found"]
abbrev P_Book_pjoin : List Str := ["self", "line"]
theorem sc_Book_pjoin : FnScope N_Book_pjoin P_Book_pjoin (defScope s_Book_pjoin) := ⟨rfl, rfl, rfl, by decide +kernel, rfl, by decide +kernel, by decide +kernel⟩
noncomputable def g_Book_pjoin : SG := (gSeq (gAsg (st1 2) (mP (fC (.int 0))))
  (gSeq (gFor (miP (fI itT (fSl (fVar 1) (foE (fC (.int 2))) foNo))) (st1 3) (gSeq (gAsg (st1 4) (mDGet (mFld "Book" "entries" (mP (fVar 0))) (mP (fVar 3))))
  (gSeq (gFld "Entry" "state" (mP (fC (.str "joined"))) (mP (fVar 4)))
  (gSeq (gDrop (mApp (mFld "Entry" "children" (mP (fVar 4))) (mP (f2 gIx (fVar 1) (fC (.int 1))))))
  (gAsg (st1 2) (m2 gAdd (mP (fVar 2)) (mFld "Entry" "quantity" (mP (fVar 4)))))))))
  (gDrop (mMeth "Book" "_begin" f_Book_pbegin (mP (fVar 0)) (mCons (mP (f2 gIx (fVar 1) (fC (.int 1)))) (mCons (mFld "Entry" "home" (mDGet (mFld "Book" "entries" (mP (fVar 0))) (mP (f2 gIx (fVar 1) (fC (.int 2)))))) (mCons (mP (fVar 2)) mNil)))))))
noncomputable def f_Book_pjoin : SFn := mF 2 N_Book_pjoin g_Book_pjoin
theorem ok_Book_pjoin {P : Program} {w : World} {K : PySem.W.Frag} {mg : Str → Option Value} {base : Heap} {f : Addr} {fd : FuncData} (T : Txt K w mg) (M_Book_pbegin : Mm P w K mg base 3 "Book" "_begin" P_Book_pbegin f_Book_pbegin) (Fn : Fun K "_join" "Book._join" s_Book_pjoin f fd) : FnOk P w K mg base (L2.CX P w) 4 f fd P_Book_pjoin (spM K mg f_Book_pjoin) := by
  refine okM (g := g_Book_pjoin) Fn sc_Book_pjoin fun cdv A outer s H E tk hr => ?_
  have hr_Book_pbegin := hr.mono (show 3 ≤ 3 by decide)
  exact (sg_cons (sg_asg 2 sc_Book_pjoin.nd (s_pure pd_int))
      (sg_cons (sg_for (tg_1 3) (passes_of rfl) rfl (si_pure (pdi_tup (pd_slice (pd_var 1) (pdo_some pd_int) pdo_none))) (pg_name (i := 3) sc_Book_pjoin.nd rfl (by first | exact .inl rfl | exact .inr rfl)) (sg_cons (sg_asg 4 sc_Book_pjoin.nd (s_dget (room1 hr) (s_fld T.k_Book T.n_Book_entries (s_var 0)) (s_pure (pd_var 3))))
      (sg_cons (sg_fld T.k_Entry T.n_Entry_state (s_pure pd_str) (s_var 4))
      (sg_cons (sg_drop (s_app (s_fld T.k_Entry T.n_Entry_children (s_var 4)) (s_pure (pd_ix ix_seq imp_ix (pd_var 1) pd_int))))
      (sg_one (sg_asg 2 sc_Book_pjoin.nd (s_op op_addA imp_add (s_pure (pd_var 2)) (s_fld T.k_Entry T.n_Entry_quantity (s_var 4)))))))))
      (sg_one (sg_drop (s_meth tk M_Book_pbegin hr_Book_pbegin (s_var 0) (s_cons (s_pure (pd_ix ix_seq imp_ix (pd_var 1) pd_int)) (s_cons (s_fld T.k_Entry T.n_Entry_home (s_dget (room1 hr) (s_fld T.k_Book T.n_Book_entries (s_var 0)) (s_pure (pd_ix ix_seq imp_ix (pd_var 1) pd_int)))) (s_cons (s_pure (pd_var 2)) s_nil))))))))
abbrev s_Book_pmark : Stmt := inClass (top 31) 15
abbrev N_Book_pmark : List Str := ["self", "thing", "waiting", "found"]
abbrev P_Book_pmark : List Str := ["self", "thing"]
theorem sc_Book_pmark : FnScope N_Book_pmark P_Book_pmark (defScope s_Book_pmark) := ⟨rfl, rfl, rfl, by decide +kernel, rfl, by decide +kernel, by decide +kernel⟩
noncomputable def g_Book_pmark : SG := (gSeq gNo (gSeq gNo gNo))
noncomputable def f_Book_pmark : SFn := mF 2 N_Book_pmark g_Book_pmark
theorem ok_Book_pmark {P : Program} {w : World} {K : PySem.W.Frag} {mg : Str → Option Value} {base : Heap} {f : Addr} {fd : FuncData} (T : Txt K w mg)  (Fn : Fun K "_mark" "Book._mark" s_Book_pmark f fd) : FnOk P w K mg base (L2.CX P w) 1 f fd P_Book_pmark (spM K mg f_Book_pmark) := by
  refine okM (g := g_Book_pmark) Fn sc_Book_pmark fun cdv A outer s H E tk hr => ?_
  exact (sg_cons sg_never (sg_cons sg_never (sg_one sg_never)))
abbrev s_Book_panswer : Stmt := inClass (top 31) 16
abbrev N_Book_panswer : List Str := ["self", "line", "word"]
abbrev P_Book_panswer : List Str := ["self", "line"]
theorem sc_Book_panswer : FnScope N_Book_panswer P_Book_panswer (defScope s_Book_panswer) := ⟨rfl, rfl, rfl, by decide +kernel, rfl, by decide +kernel, by decide +kernel⟩
noncomputable def g_Book_panswer : SG := (gSeq gNo gNo)
noncomputable def f_Book_panswer : SFn := mF 2 N_Book_panswer g_Book_panswer
theorem ok_Book_panswer {P : Program} {w : World} {K : PySem.W.Frag} {mg : Str → Option Value} {base : Heap} {f : Addr} {fd : FuncData} (T : Txt K w mg)  (Fn : Fun K "_answer" "Book._answer" s_Book_panswer f fd) : FnOk P w K mg base (L2.CX P w) 1 f fd P_Book_panswer (spM K mg f_Book_panswer) := by
  refine okM (g := g_Book_panswer) Fn sc_Book_panswer fun cdv A outer s H E tk hr => ?_
  exact (sg_cons sg_never (sg_one sg_never))
abbrev s_Book_apply : Stmt := inClass (top 31) 9
abbrev N_Book_apply : List Str := ["self", "line", "word"]
abbrev P_Book_apply : List Str := ["self", "line"]
theorem sc_Book_apply : FnScope N_Book_apply P_Book_apply (defScope s_Book_apply) := ⟨rfl, rfl, rfl, by decide +kernel, rfl, by decide +kernel, by decide +kernel⟩
noncomputable def g_Book_apply : SG := (gSeq (gAsg (st1 2) (mP (f2 gIx (fVar 1) (fC (.int 0)))))
  (gIf (mtP (ftB (f2 gEq (fVar 2) (fC (.str "register"))))) (gDrop (mMeth "Book" "_begin" f_Book_pbegin (mP (fVar 0)) (mCons (mP (f2 gIx (fVar 1) (fC (.int 1)))) (mCons (mFld "Book" "office" (mP (fVar 0))) (mCons (mP (f2 gIx (fVar 1) (fC (.int 2)))) mNil))))) (gIf (mtP (ftB (f2 gEq (fVar 2) (fC (.str "give"))))) (gDrop (mMeth "Book" "_give" f_Book_pgive (mP (fVar 0)) (mCons (mDGet (mFld "Book" "entries" (mP (fVar 0))) (mP (f2 gIx (fVar 1) (fC (.int 1))))) (mCons (mP (f2 gIx (fVar 1) (fC (.int 2)))) (mCons (mP (f2 gIx (fVar 1) (fC (.int 3)))) mNil))))) (gIf (mtP (ftB (f2 gEq (fVar 2) (fC (.str "got"))))) (gDrop (mMeth "Book" "_got" f_Book_pgot (mP (fVar 0)) (mCons (mP (fVar 1)) mNil))) (gIf (mtP (ftB (f2 gEq (fVar 2) (fC (.str "split"))))) (gDrop (mMeth "Book" "_split" f_Book_psplit (mP (fVar 0)) (mCons (mP (fVar 1)) mNil))) (gIf (mtP (ftB (f2 gEq (fVar 2) (fC (.str "join"))))) (gDrop (mMeth "Book" "_join" f_Book_pjoin (mP (fVar 0)) (mCons (mP (fVar 1)) mNil))) (gIf (mtP (ftB (f2 gEq (fVar 2) (fC (.str "use"))))) (gFld "Entry" "state" (mP (fC (.str "used"))) (mDGet (mFld "Book" "entries" (mP (fVar 0))) (mP (f2 gIx (fVar 1) (fC (.int 1)))))) (gIf (mtP (ftOr (ftB (f2 gEq (fVar 2) (fC (.str "recall")))) (ftB (f2 gEq (fVar 2) (fC (.str "notice")))))) (gDrop (mMeth "Book" "_mark" f_Book_pmark (mP (fVar 0)) (mCons (mP (f2 gIx (fVar 1) (fC (.int 1)))) mNil))) (gDrop (mMeth "Book" "_answer" f_Book_panswer (mP (fVar 0)) (mCons (mP (fVar 1)) mNil)))))))))))
noncomputable def f_Book_apply : SFn := mF 2 N_Book_apply g_Book_apply
theorem ok_Book_apply {P : Program} {w : World} {K : PySem.W.Frag} {mg : Str → Option Value} {base : Heap} {f : Addr} {fd : FuncData} (T : Txt K w mg) (M_Book_pbegin : Mm P w K mg base 3 "Book" "_begin" P_Book_pbegin f_Book_pbegin) (M_Book_pgive : Mm P w K mg base 1 "Book" "_give" P_Book_pgive f_Book_pgive) (M_Book_pgot : Mm P w K mg base 1 "Book" "_got" P_Book_pgot f_Book_pgot) (M_Book_psplit : Mm P w K mg base 4 "Book" "_split" P_Book_psplit f_Book_psplit) (M_Book_pjoin : Mm P w K mg base 4 "Book" "_join" P_Book_pjoin f_Book_pjoin) (M_Book_pmark : Mm P w K mg base 1 "Book" "_mark" P_Book_pmark f_Book_pmark) (M_Book_panswer : Mm P w K mg base 1 "Book" "_answer" P_Book_panswer f_Book_panswer) (Fn : Fun K "apply" "Book.apply" s_Book_apply f fd) : FnOk P w K mg base (L2.CX P w) 5 f fd P_Book_apply (spM K mg f_Book_apply) := by
  refine okM (g := g_Book_apply) Fn sc_Book_apply fun cdv A outer s H E tk hr => ?_
  have hr_Book_pbegin := hr.mono (show 3 ≤ 4 by decide)
  have hr_Book_pgive := hr.mono (show 1 ≤ 4 by decide)
  have hr_Book_pgot := hr.mono (show 1 ≤ 4 by decide)
  have hr_Book_psplit := hr.mono (show 4 ≤ 4 by decide)
  have hr_Book_pjoin := hr.mono (show 4 ≤ 4 by decide)
  have hr_Book_pmark := hr.mono (show 1 ≤ 4 by decide)
  have hr_Book_panswer := hr.mono (show 1 ≤ 4 by decide)
  exact (sg_cons (sg_asg 2 sc_Book_apply.nd (s_pure (pd_ix ix_seq imp_ix (pd_var 1) pd_int)))
      (sg_one (sg_if (st_pure (pdt_cmp (op_eqA hr.units) imp_eq (pd_var 2) pd_str)) (sg_one (sg_drop (s_meth tk M_Book_pbegin hr_Book_pbegin (s_var 0) (s_cons (s_pure (pd_ix ix_seq imp_ix (pd_var 1) pd_int)) (s_cons (s_fld T.k_Book T.n_Book_office (s_var 0)) (s_cons (s_pure (pd_ix ix_seq imp_ix (pd_var 1) pd_int)) s_nil)))))) (sg_one (sg_if (st_pure (pdt_cmp (op_eqA hr.units) imp_eq (pd_var 2) pd_str)) (sg_one (sg_drop (s_meth tk M_Book_pgive hr_Book_pgive (s_var 0) (s_cons (s_dget (room1 hr) (s_fld T.k_Book T.n_Book_entries (s_var 0)) (s_pure (pd_ix ix_seq imp_ix (pd_var 1) pd_int))) (s_cons (s_pure (pd_ix ix_seq imp_ix (pd_var 1) pd_int)) (s_cons (s_pure (pd_ix ix_seq imp_ix (pd_var 1) pd_int)) s_nil)))))) (sg_one (sg_if (st_pure (pdt_cmp (op_eqA hr.units) imp_eq (pd_var 2) pd_str)) (sg_one (sg_drop (s_meth tk M_Book_pgot hr_Book_pgot (s_var 0) (s_cons (s_pure (pd_var 1)) s_nil)))) (sg_one (sg_if (st_pure (pdt_cmp (op_eqA hr.units) imp_eq (pd_var 2) pd_str)) (sg_one (sg_drop (s_meth tk M_Book_psplit hr_Book_psplit (s_var 0) (s_cons (s_pure (pd_var 1)) s_nil)))) (sg_one (sg_if (st_pure (pdt_cmp (op_eqA hr.units) imp_eq (pd_var 2) pd_str)) (sg_one (sg_drop (s_meth tk M_Book_pjoin hr_Book_pjoin (s_var 0) (s_cons (s_pure (pd_var 1)) s_nil)))) (sg_one (sg_if (st_pure (pdt_cmp (op_eqA hr.units) imp_eq (pd_var 2) pd_str)) (sg_one (sg_fld T.k_Entry T.n_Entry_state (s_pure pd_str) (s_dget (room1 hr) (s_fld T.k_Book T.n_Book_entries (s_var 0)) (s_pure (pd_ix ix_seq imp_ix (pd_var 1) pd_int))))) (sg_one (sg_if (st_pure (pdt_w (pdw_or (pdt_cmp (op_eqA hr.units) imp_eq (pd_var 2) pd_str) (pdw_or1 (pdt_cmp (op_eqA hr.units) imp_eq (pd_var 2) pd_str))))) (sg_one (sg_drop (s_meth tk M_Book_pmark hr_Book_pmark (s_var 0) (s_cons (s_pure (pd_ix ix_seq imp_ix (pd_var 1) pd_int)) s_nil)))) (sg_one (sg_drop (s_meth tk M_Book_panswer hr_Book_panswer (s_var 0) (s_cons (s_pure (pd_var 1)) s_nil)))))))))))))))))))
abbrev s_Office_pwrite : Stmt := inClass (top 34) 15
abbrev N_Office_pwrite : List Str := ["self", "line"]
abbrev P_Office_pwrite : List Str := ["self", "line"]
theorem sc_Office_pwrite : FnScope N_Office_pwrite P_Office_pwrite (defScope s_Office_pwrite) := ⟨rfl, rfl, rfl, by decide +kernel, rfl, by decide +kernel, by decide +kernel⟩
noncomputable def g_Office_pwrite : SG := (gSeq (gDrop (mApp (mFld "Office" "_lines" (mP (fVar 0))) (mP (fL f_format_line (fCons (fVar 1) fNil)))))
  (gDrop (mMeth "Book" "apply" f_Book_apply (mFld "Office" "_book" (mP (fVar 0))) (mCons (mP (fVar 1)) mNil))))
noncomputable def f_Office_pwrite : SFn := mF 2 N_Office_pwrite g_Office_pwrite
theorem ok_Office_pwrite {P : Program} {w : World} {K : PySem.W.Frag} {mg : Str → Option Value} {base : Heap} {f : Addr} {fd : FuncData} (T : Txt K w mg) (C_format_line : Df P w K mg base 1 "format_line" P_format_line f_format_line) (M_Book_apply : Mm P w K mg base 5 "Book" "apply" P_Book_apply f_Book_apply) (Fn : Fun K "_write" "Office._write" s_Office_pwrite f fd) : FnOk P w K mg base (L2.CX P w) 6 f fd P_Office_pwrite (spM K mg f_Office_pwrite) := by
  refine okM (g := g_Office_pwrite) Fn sc_Office_pwrite fun cdv A outer s H E tk hr => ?_
  have hr_format_line := hr.mono (show 1 ≤ 5 by decide)
  have hr_Book_apply := hr.mono (show 5 ≤ 5 by decide)
  exact (sg_cons (sg_drop (s_app (s_fld T.k_Office T.n_Office_lines (s_var 0)) (s_pure (pd_df C_format_line hr_format_line (pda_cons (pd_var 1) pda_nil)))))
      (sg_one (sg_drop (s_meth tk M_Book_apply hr_Book_apply (s_fld T.k_Office T.n_Office_book (s_var 0)) (s_cons (s_pure (pd_var 1)) s_nil)))))
abbrev s_id_of : Stmt := top 19
abbrev N_id_of : List Str := ["office", "number"]
abbrev P_id_of : List Str := ["office", "number"]
theorem sc_id_of : FnScope N_id_of P_id_of (defScope s_id_of) := ⟨rfl, rfl, rfl, by decide +kernel, rfl, by decide +kernel, by decide +kernel⟩
def g_id_of : Gs := (retG (f2 gAdd (f2 gAdd (fVar 0) (fC (.str "-"))) (fL gStr (fCons (fVar 1) fNil))))
def f_id_of : List D → Option D := dF 2 N_id_of g_id_of
theorem ok_id_of {P : Program} {w : World} {K : PySem.W.Frag} {mg : Str → Option Value} {base : Heap} {f : Addr} {fd : FuncData} (T : Txt K w mg)  (Fn : Fun K "id_of" "id_of" s_id_of f fd) : FnOk P w K mg base CX0 1 f fd P_id_of (spD K f_id_of) := by
  refine okD (g := g_id_of) Fn sc_id_of (fun cdv A outer s H E μ Hs hr => ?_) (fun ds d h => dF_ok (ps := P_id_of) (N := N_id_of) (g := g_id_of) ds d h)
  exact (pg_one (pg_ret (pd_op op_addA imp_add (pd_op op_addA imp_add (pd_var 0) pd_str) (pd_callTy call_strA imp_str T.b_str (pda_cons (pd_var 1) pda_nil)))))
abbrev s_Book_new_ids : Stmt := inClass (top 31) 3
abbrev N_Book_new_ids : List Str := ["self", "count", "k"]
abbrev P_Book_new_ids : List Str := ["self", "count"]
theorem sc_Book_new_ids : FnScope N_Book_new_ids P_Book_new_ids (defScope s_Book_new_ids) := ⟨rfl, rfl, rfl, by decide +kernel, rfl, by decide +kernel, by decide +kernel⟩
noncomputable def g_Book_new_ids : SG := (gRet (mLc (miP (fIs itR1 (fCons (fVar 1) fNil))) (st1 2) mtYes (mCallP f_id_of (mCons (mFld "Book" "office" (mP (fVar 0))) (mCons (m2 gAdd (mFld "Book" "next_number" (mP (fVar 0))) (mP (fVar 2))) mNil))) [2]))
noncomputable def f_Book_new_ids : SFn := mF 2 N_Book_new_ids g_Book_new_ids
theorem ok_Book_new_ids {P : Program} {w : World} {K : PySem.W.Frag} {mg : Str → Option Value} {base : Heap} {f : Addr} {fd : FuncData} (T : Txt K w mg) (C_id_of : Df P w K mg base 1 "id_of" P_id_of f_id_of) (Fn : Fun K "new_ids" "Book.new_ids" s_Book_new_ids f fd) : FnOk P w K mg base (L2.CX P w) 2 f fd P_Book_new_ids (spM K mg f_Book_new_ids) := by
  refine okM (g := g_Book_new_ids) Fn sc_Book_new_ids fun cdv A outer s H E tk hr => ?_
  have hr_id_of := hr.mono (show 1 ≤ 1 by decide)
  exact (sg_one (sg_ret (s_lc (own := [("k", 2)]) rfl sc_Book_new_ids.nd (si_pure (pdi_range1 T.b_range (pda_cons (pd_var 1) pda_nil))) (blkOk_by (own := [("k", 2)]) (N := N_Book_new_ids) (sc := defScope s_Book_new_ids) (by decide +kernel)) (tg_1 2) (fun _ _ _ _ _ => (pg_name (i := 2) sc_Book_new_ids.nd rfl (by first | exact .inl rfl | exact .inr rfl))) tYes_M (fun _ _ _ _ _ => pts_nil) (fun _ _ _ _ _ => (s_callP C_id_of hr_id_of (s_cons (s_fld T.k_Book T.n_Book_office (s_var 0)) (s_cons (s_op op_addA imp_add (s_fld T.k_Book T.n_Book_next_number (s_var 0)) (s_pure (pd_var 2))) s_nil)))))))
abbrev s_Office_pfree : Stmt := inClass (top 34) 17
abbrev N_Office_pfree : List Str := ["self", "thing", "found"]
abbrev P_Office_pfree : List Str := ["self", "thing"]
theorem sc_Office_pfree : FnScope N_Office_pfree P_Office_pfree (defScope s_Office_pfree) := ⟨rfl, rfl, rfl, by decide +kernel, rfl, by decide +kernel, by decide +kernel⟩
noncomputable def g_Office_pfree : SG := (gSeq (gAsg (st1 2) (mMeth "Book" "entry" f_Book_entry (mFld "Office" "_book" (mP (fVar 0))) (mCons (mP (fVar 1)) mNil)))
  (gSeq (gIf (mtOr (mtB (m2 gIsN (mP (fVar 2)) (mP (fC .non)))) (mtB (m2 gNe (mFld "Entry" "state" (mP (fVar 2))) (mP (fC (.str "held")))))) (gRaise "NotHeld" (mP (fVar 1))) gNil)
  (gSeq (gIf (mtV (mFld "Entry" "is_recalled" (mP (fVar 2)))) (gRaise "Frozen" (mP (fVar 1))) gNil)
  (gRet (mP (fVar 2))))))
noncomputable def f_Office_pfree : SFn := mF 2 N_Office_pfree g_Office_pfree
theorem ok_Office_pfree {P : Program} {w : World} {K : PySem.W.Frag} {mg : Str → Option Value} {base : Heap} {f : Addr} {fd : FuncData} (T : Txt K w mg) (M_Book_entry : Mm P w K mg base 1 "Book" "entry" P_Book_entry f_Book_entry) (Fn : Fun K "_free" "Office._free" s_Office_pfree f fd) : FnOk P w K mg base (L2.CX P w) 2 f fd P_Office_pfree (spM K mg f_Office_pfree) := by
  refine okM (g := g_Office_pfree) Fn sc_Office_pfree fun cdv A outer s H E tk hr => ?_
  have hr_Book_entry := hr.mono (show 1 ≤ 1 by decide)
  exact (sg_cons (sg_asg 2 sc_Office_pfree.nd (s_meth tk M_Book_entry hr_Book_entry (s_fld T.k_Office T.n_Office_book (s_var 0)) (s_cons (s_pure (pd_var 1)) s_nil)))
      (sg_cons (sg_if (st_w (sw_or (st_cmp op_isN imp_isN (s_var 2) (s_pure pd_non)) (sw_or1 (st_cmp (op_neA hr.units) imp_ne (s_fld T.k_Entry T.n_Entry_state (s_var 2)) (s_pure pd_str))))) (sg_one (sg_raise tk rfl T.x_NotHeld (s_pure (pd_var 1)))) sg_nil)
      (sg_cons (sg_if (st_val (s_fld T.k_Entry T.n_Entry_is_recalled (s_var 2))) (sg_one (sg_raise tk rfl T.x_Frozen (s_pure (pd_var 1)))) sg_nil)
      (sg_one (sg_ret (s_var 2))))))
abbrev s_Office_split : Stmt := inClass (top 34) 9
abbrev N_Office_split : List Str := ["self", "thing", "sizes", "found", "size", "ids", "line", "part"]
abbrev P_Office_split : List Str := ["self", "thing", "sizes"]
theorem sc_Office_split : FnScope N_Office_split P_Office_split (defScope s_Office_split) := ⟨rfl, rfl, rfl, by decide +kernel, rfl, by decide +kernel, by decide +kernel⟩
noncomputable def g_Office_split : SG := (gSeq (gAsg (st1 3) (mMeth "Office" "_free" f_Office_pfree (mP (fVar 0)) (mCons (mP (fVar 1)) mNil)))
  (gSeq (gFor (miL (mP (fVar 2))) (st1 4) (gDrop (mCall f_check_quantity (mCons (mP (fVar 4)) mNil))))
  (gSeq (gIf (mtOr (mtB (m2 gLt (mL gLen (mCons (mP (fVar 2)) mNil)) (mP (fC (.int 2))))) (mtB (m2 gNe (mL gSum (mCons (mP (fVar 2)) mNil)) (mFld "Entry" "quantity" (mP (fVar 3)))))) (gRaise "InvalidQuantity" (mP (fC (.str "sizes")))) gNil)
  (gSeq (gAsg (st1 5) (mMeth "Book" "new_ids" f_Book_new_ids (mFld "Office" "_book" (mP (fVar 0))) (mCons (mL gLen (mCons (mP (fVar 2)) mNil)) mNil)))
  (gSeq (gAsg (st1 6) (mDisp (mCons (mP (fC (.str "split"))) (mCons (mP (fVar 1)) mNil))))
  (gSeq (gFor (miZ (mP (fVar 5)) (mP (fVar 2))) (st2 7 4) (gSeq (gDrop (mApp (mP (fVar 6)) (mP (fVar 7))))
  (gDrop (mApp (mP (fVar 6)) (mP (fVar 4))))))
  (gSeq (gDrop (mMeth "Office" "_write" f_Office_pwrite (mP (fVar 0)) (mCons (mTupC (mP (fVar 6))) mNil)))
  (gRet (mP (fVar 5))))))))))
noncomputable def f_Office_split : SFn := mF 3 N_Office_split g_Office_split
theorem ok_Office_split {P : Program} {w : World} {K : PySem.W.Frag} {mg : Str → Option Value} {base : Heap} {f : Addr} {fd : FuncData} (T : Txt K w mg) (C_check_quantity : Dm P w K mg base 1 "check_quantity" P_check_quantity f_check_quantity) (M_Office_pwrite : Mm P w K mg base 6 "Office" "_write" P_Office_pwrite f_Office_pwrite) (M_Book_new_ids : Mm P w K mg base 2 "Book" "new_ids" P_Book_new_ids f_Book_new_ids) (M_Office_pfree : Mm P w K mg base 2 "Office" "_free" P_Office_pfree f_Office_pfree) (Fn : Fun K "split" "Office.split" s_Office_split f fd) : FnOk P w K mg base (L2.CX P w) 7 f fd P_Office_split (spM K mg f_Office_split) := by
  refine okM (g := g_Office_split) Fn sc_Office_split fun cdv A outer s H E tk hr => ?_
  have hr_check_quantity := hr.mono (show 1 ≤ 6 by decide)
  have hr_Office_pwrite := hr.mono (show 6 ≤ 6 by decide)
  have hr_Book_new_ids := hr.mono (show 2 ≤ 6 by decide)
  have hr_Office_pfree := hr.mono (show 2 ≤ 6 by decide)
  exact (sg_cons (sg_asg 3 sc_Office_split.nd (s_meth tk M_Office_pfree hr_Office_pfree (s_var 0) (s_cons (s_pure (pd_var 1)) s_nil)))
      (sg_cons (sg_for (tg_1 4) (passes_of rfl) rfl (si_list (s_var 2)) (pg_name (i := 4) sc_Office_split.nd rfl (by first | exact .inl rfl | exact .inr rfl)) (sg_one (sg_drop (s_call tk C_check_quantity hr_check_quantity (s_cons (s_pure (pd_var 4)) s_nil)))))
      (sg_cons (sg_if (st_w (sw_or (st_cmp op_ltA imp_ord (s_callB call_len imp_len T.b_len (s_cons (s_var 2) s_nil)) (s_pure pd_int)) (sw_or1 (st_cmp (op_neA hr.units) imp_ne (s_callB (cr_sum rfl) imp_sum T.b_sum (s_cons (s_var 2) s_nil)) (s_fld T.k_Entry T.n_Entry_quantity (s_var 3)))))) (sg_one (sg_raise tk rfl T.x_InvalidQuantity (s_pure pd_str))) sg_nil)
      (sg_cons (sg_asg 5 sc_Office_split.nd (s_meth tk M_Book_new_ids hr_Book_new_ids (s_fld T.k_Office T.n_Office_book (s_var 0)) (s_cons (s_callB call_len imp_len T.b_len (s_cons (s_var 2) s_nil)) s_nil)))
      (sg_cons (sg_asg 6 sc_Office_split.nd (s_disp (s_cons (s_pure pd_str) (s_cons (s_pure (pd_var 1)) s_nil))))
      (sg_cons (sg_for (tg_2 7 4) (passes_of rfl) rfl (si_zip T.b_zip (s_var 5) (s_var 2)) (pg_tup rfl (pgs_cons (pg_name (i := 7) sc_Office_split.nd rfl (by first | exact .inl rfl | exact .inr rfl)) (pgs_cons (pg_name (i := 4) sc_Office_split.nd rfl (by first | exact .inl rfl | exact .inr rfl)) pgs_nil))) (sg_cons (sg_drop (s_app (s_var 6) (s_pure (pd_var 7))))
      (sg_one (sg_drop (s_app (s_var 6) (s_pure (pd_var 4)))))))
      (sg_cons (sg_drop (s_meth tk M_Office_pwrite hr_Office_pwrite (s_var 0) (s_cons (s_tupC T.b_tuple (s_var 6)) s_nil)))
      (sg_one (sg_ret (s_var 5))))))))))
abbrev s_L_split : Stmt := top 37
abbrev N_L_split : List Str := ["_law_office", "_law_held", "_law_number", "_law_cell", "_law_thing", "_law_quantity", "_law_sizes", "_law_ids", "_law_rows", "_law_row", "_law_k"]
abbrev P_L_split : List Str := ["_law_office", "_law_held", "_law_number", "_law_cell"]
theorem sc_L_split : FnScope N_L_split P_L_split (defScope s_L_split) := ⟨rfl, rfl, rfl, by decide +kernel, rfl, by decide +kernel, by decide +kernel⟩
noncomputable def g_L_split : SG := (gSeq (gAsg (st1 4) (mIx (mIx (mP (fVar 1)) (m2 gMod (mP (fL gInt (fCons (fVar 3) fNil))) (mL gLen (mCons (mP (fVar 1)) mNil)))) (mP (fC (.int 0)))))
  (gSeq (gAsg (st1 5) (mIx (mIx (mP (fVar 1)) (m2 gMod (mP (fL gInt (fCons (fVar 3) fNil))) (mL gLen (mCons (mP (fVar 1)) mNil)))) (mP (fC (.int 1)))))
  (gSeq (gAsg (st1 6) (mP (fL f_L_cut (fCons (fVar 5) (fCons (f2 gDiv (fVar 3) (fC (.int 8))) fNil)))))
  (gSeq (gIf (mtP (ftB (f2 gLt (fL gLen (fCons (fVar 6) fNil)) (fC (.int 2))))) (gRet (mP (fVar 1))) gNil)
  (gSeq (gAsg (st1 7) (mMeth "Office" "split" f_Office_split (mP (fVar 0)) (mCons (mP (fVar 4)) (mCons (mP (fVar 6)) mNil))))
  (gSeq (gIf (mtB (m2 gNe (mP (fVar 7)) (mP (fLc (fIs itR1 (fCons (fL gLen (fCons (fVar 6) fNil)) fNil)) (st1 10) ftYes (f2 gAdd (fC (.str "ash-")) (fL gStr (fCons (f2 gAdd (fVar 2) (fVar 10)) fNil))) [10])))) (gRet (mP (fC .non))) gNil)
  (gSeq (gIf (mtB (m2 gNe (mMeth "Office" "entry" f_Office_entry (mP (fVar 0)) (mCons (mP (fVar 4)) mNil)) (mP (fL gTupD (fCons (fVar 4) (fCons (fC (.str "ash")) (fCons (fVar 5) (fCons (fC (.int 1)) (fCons (fC (.str "split")) (fCons (fC .non) (fCons (fC (.bool false)) fNil))))))))))) (gRet (mP (fC .non))) gNil)
  (gSeq (gAsg (st1 8) (mLc (miL (mP (fVar 1))) (st1 9) (mtP (ftB (f2 gNe (f2 gIx (fVar 9) (fC (.int 0))) (fVar 4)))) (mP (fVar 9)) [9]))
  (gRet (mCat (mP (fVar 8)) (mLc (miR (mL gLen (mCons (mP (fVar 7)) mNil))) (st1 10) mtYes (mTup (mCons (mIx (mP (fVar 7)) (mP (fVar 10))) (mCons (mP (f2 gIx (fVar 6) (fVar 10))) mNil))) [10])))))))))))
noncomputable def f_L_split : SFn := mF 4 N_L_split g_L_split
theorem ok_L_split {P : Program} {w : World} {K : PySem.W.Frag} {mg : Str → Option Value} {base : Heap} {f : Addr} {fd : FuncData} (T : Txt K w mg) (C_L_cut : Df P w K mg base 1 "_law_cut" P_L_cut f_L_cut) (M_Office_entry : Mm P w K mg base 2 "Office" "entry" P_Office_entry f_Office_entry) (M_Office_split : Mm P w K mg base 7 "Office" "split" P_Office_split f_Office_split) (Fn : Fun K "_law_split" "_law_split" s_L_split f fd) : FnOk P w K mg base (L2.CX P w) 8 f fd P_L_split (spM K mg f_L_split) := by
  refine okM (g := g_L_split) Fn sc_L_split fun cdv A outer s H E tk hr => ?_
  have hr_L_cut := hr.mono (show 1 ≤ 7 by decide)
  have hr_Office_entry := hr.mono (show 2 ≤ 7 by decide)
  have hr_Office_split := hr.mono (show 7 ≤ 7 by decide)
  exact (sg_cons (sg_asg 4 sc_L_split.nd (s_ix (s_ix (s_var 1) (s_op op_mod imp_mod (s_pure (pd_callTy call_intA imp_int T.b_int (pda_cons (pd_var 3) pda_nil))) (s_callB call_len imp_len T.b_len (s_cons (s_var 1) s_nil)))) (s_pure pd_int)))
      (sg_cons (sg_asg 5 sc_L_split.nd (s_ix (s_ix (s_var 1) (s_op op_mod imp_mod (s_pure (pd_callTy call_intA imp_int T.b_int (pda_cons (pd_var 3) pda_nil))) (s_callB call_len imp_len T.b_len (s_cons (s_var 1) s_nil)))) (s_pure pd_int)))
      (sg_cons (sg_asg 6 sc_L_split.nd (s_pure (pd_df C_L_cut hr_L_cut (pda_cons (pd_var 5) (pda_cons (pd_op op_fdiv imp_div (pd_var 3) pd_int) pda_nil)))))
      (sg_cons (sg_if (st_pure (pdt_cmp op_ltA imp_ord (pd_callB call_len imp_len T.b_len (pda_cons (pd_var 6) pda_nil)) pd_int)) (sg_one (sg_ret (s_var 1))) sg_nil)
      (sg_cons (sg_asg 7 sc_L_split.nd (s_meth tk M_Office_split hr_Office_split (s_var 0) (s_cons (s_pure (pd_var 4)) (s_cons (s_pure (pd_var 6)) s_nil))))
      (sg_cons (sg_if (st_cmp (op_neA hr.units) imp_ne (s_var 7) (s_pure (pd_lc (own := [("_law_k", 10)]) rfl sc_L_split.nd (pdi_range1 T.b_range (pda_cons (pd_callB call_len imp_len T.b_len (pda_cons (pd_var 6) pda_nil)) pda_nil)) (blkOk_by (own := [("_law_k", 10)]) (N := N_L_split) (sc := defScope s_L_split) (by decide +kernel)) (tg_1 10) (fun _ _ _ _ _ => (pg_name (i := 10) sc_L_split.nd rfl (by first | exact .inl rfl | exact .inr rfl))) tYes_D (fun _ _ _ _ _ => pts_nil) (fun _ _ _ _ _ => (pd_op op_addA imp_add pd_str (pd_callTy call_strA imp_str T.b_str (pda_cons (pd_op op_addA imp_add (pd_var 2) (pd_var 10)) pda_nil))))))) (sg_one (sg_ret (s_pure pd_non))) sg_nil)
      (sg_cons (sg_if (st_cmp (op_neA hr.units) imp_ne (s_meth tk M_Office_entry hr_Office_entry (s_var 0) (s_cons (s_pure (pd_var 4)) s_nil)) (s_pure (pd_tup (pda_cons (pd_var 4) (pda_cons pd_str (pda_cons (pd_var 5) (pda_cons pd_int (pda_cons pd_str (pda_cons pd_non (pda_cons pd_bool pda_nil)))))))))) (sg_one (sg_ret (s_pure pd_non))) sg_nil)
      (sg_cons (sg_asgLcM 8  (own := [("_law_row", 9)]) rfl sc_L_split.nd (si_list (s_var 1)) (blkOk_by (own := [("_law_row", 9)]) (N := N_L_split) (sc := defScope s_L_split) (by decide +kernel)) (tg_1 9) (fun _ _ _ _ _ => (pg_name (i := 9) sc_L_split.nd rfl (by first | exact .inl rfl | exact .inr rfl))) (fun _ _ _ h => h) (fun _ _ _ _ _ => (pts_one (st_pure (pdt_cmp (op_neA hr.units) imp_ne (pd_ix ix_seq imp_ix (pd_var 9) pd_int) (pd_var 4))))) (fun _ _ _ _ _ => (s_pure (pd_var 9))))
      (sg_one (sg_ret (s_cat (s_var 8) (s_lc (own := [("_law_k", 10)]) rfl sc_L_split.nd (si_range T.b_range (s_callB call_len imp_len T.b_len (s_cons (s_var 7) s_nil))) (blkOk_by (own := [("_law_k", 10)]) (N := N_L_split) (sc := defScope s_L_split) (by decide +kernel)) (tg_1 10) (fun _ _ _ _ _ => (pg_name (i := 10) sc_L_split.nd rfl (by first | exact .inl rfl | exact .inr rfl))) tYes_M (fun _ _ _ _ _ => pts_nil) (fun _ _ _ _ _ => (s_tup (s_cons (s_ix (s_var 7) (s_pure (pd_var 10))) (s_cons (s_pure (pd_ix ix_seq imp_ix (pd_var 6) (pd_var 10))) s_nil))))))))))))))))
abbrev s_Office_join : Stmt := inClass (top 34) 10
abbrev N_Office_join : List Str := ["self", "things", "entries", "new", "place", "found", "thing"]
abbrev P_Office_join : List Str := ["self", "things"]
theorem sc_Office_join : FnScope N_Office_join P_Office_join (defScope s_Office_join) := ⟨rfl, rfl, rfl, by decide +kernel, rfl, by decide +kernel, by decide +kernel⟩
noncomputable def g_Office_join : SG := (gSeq (gAsg (st1 2) (mLc (miL (mP (fVar 1))) (st1 6) mtYes (mMeth "Office" "_free" f_Office_pfree (mP (fVar 0)) (mCons (mP (fVar 6)) mNil)) [6]))
  (gSeq (gFor (miEn (mP (fVar 2))) (st2 4 5) (gIf (mtOr (mtB (m2 gIn (mFld "Entry" "thing" (mP (fVar 5))) (mSl (mP (fVar 1)) moNo (moE (mP (fVar 4)))))) (mtB (m2 gNe (mFld "Entry" "home" (mP (fVar 5))) (mFld "Entry" "home" (mIx (mP (fVar 2)) (mP (fC (.int 0)))))))) (gRaise "InvalidThings" (mP (fC (.str "join")))) gNil))
  (gSeq (gIf (mtB (m2 gLt (mL gLen (mCons (mP (fVar 1)) mNil)) (mP (fC (.int 2))))) (gRaise "InvalidThings" (mP (fC (.str "join")))) gNil)
  (gSeq (gIf (mtB (m2 gGt (mL gSum (mCons (mLc (miL (mP (fVar 2))) (st1 5) mtYes (mFld "Entry" "quantity" (mP (fVar 5))) [5]) mNil)) (mP (fC (.int 1000000000))))) (gRaise "InvalidQuantity" (mP (fC (.str "join")))) gNil)
  (gSeq (gAsg (st1 3) (mIx (mMeth "Book" "new_ids" f_Book_new_ids (mFld "Office" "_book" (mP (fVar 0))) (mCons (mP (fC (.int 1))) mNil)) (mP (fC (.int 0)))))
  (gSeq (gDrop (mMeth "Office" "_write" f_Office_pwrite (mP (fVar 0)) (mCons (mTupC (mCat (mP (fL gLstD (fCons (fC (.str "join")) (fCons (fVar 3) fNil)))) (mList (mCons (mP (fVar 1)) mNil)))) mNil)))
  (gRet (mP (fVar 3)))))))))
noncomputable def f_Office_join : SFn := mF 2 N_Office_join g_Office_join
theorem ok_Office_join {P : Program} {w : World} {K : PySem.W.Frag} {mg : Str → Option Value} {base : Heap} {f : Addr} {fd : FuncData} (T : Txt K w mg) (M_Office_pwrite : Mm P w K mg base 6 "Office" "_write" P_Office_pwrite f_Office_pwrite) (M_Book_new_ids : Mm P w K mg base 2 "Book" "new_ids" P_Book_new_ids f_Book_new_ids) (M_Office_pfree : Mm P w K mg base 2 "Office" "_free" P_Office_pfree f_Office_pfree) (Fn : Fun K "join" "Office.join" s_Office_join f fd) : FnOk P w K mg base (L2.CX P w) 7 f fd P_Office_join (spM K mg f_Office_join) := by
  refine okM (g := g_Office_join) Fn sc_Office_join fun cdv A outer s H E tk hr => ?_
  have hr_Office_pwrite := hr.mono (show 6 ≤ 6 by decide)
  have hr_Book_new_ids := hr.mono (show 2 ≤ 6 by decide)
  have hr_Office_pfree := hr.mono (show 2 ≤ 6 by decide)
  exact (sg_cons (sg_asgLcM 2  (own := [("thing", 6)]) rfl sc_Office_join.nd (si_list (s_var 1)) (blkOk_by (own := [("thing", 6)]) (N := N_Office_join) (sc := defScope s_Office_join) (by decide +kernel)) (tg_1 6) (fun _ _ _ _ _ => (pg_name (i := 6) sc_Office_join.nd rfl (by first | exact .inl rfl | exact .inr rfl))) tYes_M (fun _ _ _ _ _ => pts_nil) (fun _ _ _ _ _ => (s_meth takes_no M_Office_pfree hr_Office_pfree (s_var 0) (s_cons (s_pure (pd_var 6)) s_nil))))
      (sg_cons (sg_for (tg_2 4 5) (passes_of rfl) rfl (si_enum T.b_enumerate (s_var 2)) (pg_tup rfl (pgs_cons (pg_name (i := 4) sc_Office_join.nd rfl (by first | exact .inl rfl | exact .inr rfl)) (pgs_cons (pg_name (i := 5) sc_Office_join.nd rfl (by first | exact .inl rfl | exact .inr rfl)) pgs_nil))) (sg_one (sg_if (st_w (sw_or (st_cmp (op_inA (hu65 hr)) imp_in (s_fld T.k_Entry T.n_Entry_thing (s_var 5)) (s_slice (s_var 1) so_none (so_some (s_pure (pd_var 4))))) (sw_or1 (st_cmp (op_neA hr.units) imp_ne (s_fld T.k_Entry T.n_Entry_home (s_var 5)) (s_fld T.k_Entry T.n_Entry_home (s_ix (s_var 2) (s_pure pd_int))))))) (sg_one (sg_raise tk rfl T.x_InvalidThings (s_pure pd_str))) sg_nil)))
      (sg_cons (sg_if (st_cmp op_ltA imp_ord (s_callB call_len imp_len T.b_len (s_cons (s_var 1) s_nil)) (s_pure pd_int)) (sg_one (sg_raise tk rfl T.x_InvalidThings (s_pure pd_str))) sg_nil)
      (sg_cons (sg_if (st_cmp op_gtA imp_ord (s_callB (cr_sum rfl) imp_sum T.b_sum (s_cons (s_lc (own := [("found", 5)]) rfl sc_Office_join.nd (si_list (s_var 2)) (blkOk_by (own := [("found", 5)]) (N := N_Office_join) (sc := defScope s_Office_join) (by decide +kernel)) (tg_1 5) (fun _ _ _ _ _ => (pg_name (i := 5) sc_Office_join.nd rfl (by first | exact .inl rfl | exact .inr rfl))) tYes_M (fun _ _ _ _ _ => pts_nil) (fun _ _ _ _ _ => (s_fld T.k_Entry T.n_Entry_quantity (s_var 5)))) s_nil)) (s_pure (pd_globI T.c_MOST))) (sg_one (sg_raise tk rfl T.x_InvalidQuantity (s_pure pd_str))) sg_nil)
      (sg_cons (sg_asg 3 sc_Office_join.nd (s_ix (s_meth tk M_Book_new_ids hr_Book_new_ids (s_fld T.k_Office T.n_Office_book (s_var 0)) (s_cons (s_pure pd_int) s_nil)) (s_pure pd_int)))
      (sg_cons (sg_drop (s_meth tk M_Office_pwrite hr_Office_pwrite (s_var 0) (s_cons (s_tupC T.b_tuple (s_cat (s_pure (pd_lst (pda_cons pd_str (pda_cons (pd_var 3) pda_nil)))) (s_list T.b_list (s_var 1)))) s_nil)))
      (sg_one (sg_ret (s_pure (pd_var 3))))))))))
abbrev s_L_join : Stmt := top 38
abbrev N_L_join : List Str := ["_law_office", "_law_held", "_law_number", "_law_cell", "_law_count", "_law_place", "_law_rows", "_law_new", "_law_row"]
abbrev P_L_join : List Str := ["_law_office", "_law_held", "_law_number", "_law_cell"]
theorem sc_L_join : FnScope N_L_join P_L_join (defScope s_L_join) := ⟨rfl, rfl, rfl, by decide +kernel, rfl, by decide +kernel, by decide +kernel⟩
noncomputable def g_L_join : SG := (gSeq (gAsg (st1 4) (mP (f2 gAdd (fC (.int 2)) (f2 gMod (fL gInt (fCons (fVar 3) fNil)) (fC (.int 3))))))
  (gSeq (gIf (mtB (m2 gLt (mL gLen (mCons (mP (fVar 1)) mNil)) (mP (fVar 4)))) (gRet (mP (fVar 1))) gNil)
  (gSeq (gAsg (st1 5) (m2 gMod (mP (f2 gDiv (fL gInt (fCons (fVar 3) fNil)) (fC (.int 3)))) (m2 gAdd (m2 gSub (mL gLen (mCons (mP (fVar 1)) mNil)) (mP (fVar 4))) (mP (fC (.int 1))))))
  (gSeq (gAsg (st1 6) (mSl (mP (fVar 1)) (moE (mP (fVar 5))) (moE (mP (f2 gAdd (fVar 5) (fVar 4))))))
  (gSeq (gAsg (st1 7) (mMeth "Office" "join" f_Office_join (mP (fVar 0)) (mCons (mLc (miL (mP (fVar 6))) (st1 8) mtYes (mP (f2 gIx (fVar 8) (fC (.int 0)))) [8]) mNil)))
  (gSeq (gIf (mtP (ftB (f2 gNe (fVar 7) (f2 gAdd (fC (.str "ash-")) (fL gStr (fCons (fVar 2) fNil)))))) (gRet (mP (fC .non))) gNil)
  (gSeq (gFor (miL (mP (fVar 6))) (st1 8) (gIf (mtB (m2 gNe (mMeth "Office" "entry" f_Office_entry (mP (fVar 0)) (mCons (mP (f2 gIx (fVar 8) (fC (.int 0)))) mNil)) (mP (fL gTupD (fCons (f2 gIx (fVar 8) (fC (.int 0))) (fCons (fC (.str "ash")) (fCons (f2 gIx (fVar 8) (fC (.int 1))) (fCons (fC (.int 1)) (fCons (fC (.str "joined")) (fCons (fC .non) (fCons (fC (.bool false)) fNil))))))))))) (gRet (mP (fC .non))) gNil))
  (gRet (mCat (mCat (mSl (mP (fVar 1)) moNo (moE (mP (fVar 5)))) (mSl (mP (fVar 1)) (moE (mP (f2 gAdd (fVar 5) (fVar 4)))) moNo)) (mDisp (mCons (mTup (mCons (mP (fVar 7)) (mCons (mL gSum (mCons (mLc (miL (mP (fVar 6))) (st1 8) mtYes (mP (f2 gIx (fVar 8) (fC (.int 1)))) [8]) mNil)) mNil))) mNil)))))))))))
noncomputable def f_L_join : SFn := mF 4 N_L_join g_L_join
theorem ok_L_join {P : Program} {w : World} {K : PySem.W.Frag} {mg : Str → Option Value} {base : Heap} {f : Addr} {fd : FuncData} (T : Txt K w mg) (M_Office_entry : Mm P w K mg base 2 "Office" "entry" P_Office_entry f_Office_entry) (M_Office_join : Mm P w K mg base 7 "Office" "join" P_Office_join f_Office_join) (Fn : Fun K "_law_join" "_law_join" s_L_join f fd) : FnOk P w K mg base (L2.CX P w) 8 f fd P_L_join (spM K mg f_L_join) := by
  refine okM (g := g_L_join) Fn sc_L_join fun cdv A outer s H E tk hr => ?_
  have hr_Office_entry := hr.mono (show 2 ≤ 7 by decide)
  have hr_Office_join := hr.mono (show 7 ≤ 7 by decide)
  exact (sg_cons (sg_asg 4 sc_L_join.nd (s_pure (pd_op op_addA imp_add pd_int (pd_op op_mod imp_mod (pd_callTy call_intA imp_int T.b_int (pda_cons (pd_var 3) pda_nil)) pd_int))))
      (sg_cons (sg_if (st_cmp op_ltA imp_ord (s_callB call_len imp_len T.b_len (s_cons (s_var 1) s_nil)) (s_pure (pd_var 4))) (sg_one (sg_ret (s_var 1))) sg_nil)
      (sg_cons (sg_asg 5 sc_L_join.nd (s_op op_mod imp_mod (s_pure (pd_op op_fdiv imp_div (pd_callTy call_intA imp_int T.b_int (pda_cons (pd_var 3) pda_nil)) pd_int)) (s_op op_addA imp_add (s_op op_sub imp_sub (s_callB call_len imp_len T.b_len (s_cons (s_var 1) s_nil)) (s_pure (pd_var 4))) (s_pure pd_int))))
      (sg_cons (sg_asg 6 sc_L_join.nd (s_slice (s_var 1) (so_some (s_pure (pd_var 5))) (so_some (s_pure (pd_op op_addA imp_add (pd_var 5) (pd_var 4))))))
      (sg_cons (sg_asg 7 sc_L_join.nd (s_meth tk M_Office_join hr_Office_join (s_var 0) (s_cons (s_lc (own := [("_law_row", 8)]) rfl sc_L_join.nd (si_list (s_var 6)) (blkOk_by (own := [("_law_row", 8)]) (N := N_L_join) (sc := defScope s_L_join) (by decide +kernel)) (tg_1 8) (fun _ _ _ _ _ => (pg_name (i := 8) sc_L_join.nd rfl (by first | exact .inl rfl | exact .inr rfl))) tYes_M (fun _ _ _ _ _ => pts_nil) (fun _ _ _ _ _ => (s_pure (pd_ix ix_seq imp_ix (pd_var 8) pd_int)))) s_nil)))
      (sg_cons (sg_if (st_pure (pdt_cmp (op_neA hr.units) imp_ne (pd_var 7) (pd_op op_addA imp_add pd_str (pd_callTy call_strA imp_str T.b_str (pda_cons (pd_var 2) pda_nil))))) (sg_one (sg_ret (s_pure pd_non))) sg_nil)
      (sg_cons (sg_for (tg_1 8) (passes_of rfl) rfl (si_list (s_var 6)) (pg_name (i := 8) sc_L_join.nd rfl (by first | exact .inl rfl | exact .inr rfl)) (sg_one (sg_if (st_cmp (op_neA hr.units) imp_ne (s_meth tk M_Office_entry hr_Office_entry (s_var 0) (s_cons (s_pure (pd_ix ix_seq imp_ix (pd_var 8) pd_int)) s_nil)) (s_pure (pd_tup (pda_cons (pd_ix ix_seq imp_ix (pd_var 8) pd_int) (pda_cons pd_str (pda_cons (pd_ix ix_seq imp_ix (pd_var 8) pd_int) (pda_cons pd_int (pda_cons pd_str (pda_cons pd_non (pda_cons pd_bool pda_nil)))))))))) (sg_one (sg_ret (s_pure pd_non))) sg_nil)))
      (sg_one (sg_ret (s_cat (s_cat (s_slice (s_var 1) so_none (so_some (s_pure (pd_var 5)))) (s_slice (s_var 1) (so_some (s_pure (pd_op op_addA imp_add (pd_var 5) (pd_var 4)))) so_none)) (s_disp (s_cons (s_tup (s_cons (s_pure (pd_var 7)) (s_cons (s_callB (cr_sum rfl) imp_sum T.b_sum (s_cons (s_lc (own := [("_law_row", 8)]) rfl sc_L_join.nd (si_list (s_var 6)) (blkOk_by (own := [("_law_row", 8)]) (N := N_L_join) (sc := defScope s_L_join) (by decide +kernel)) (tg_1 8) (fun _ _ _ _ _ => (pg_name (i := 8) sc_L_join.nd rfl (by first | exact .inl rfl | exact .inr rfl))) tYes_M (fun _ _ _ _ _ => pts_nil) (fun _ _ _ _ _ => (s_pure (pd_ix ix_seq imp_ix (pd_var 8) pd_int)))) s_nil)) s_nil))) s_nil))))))))))))
abbrev s_Office_known : Stmt := inClass (top 34) 3
abbrev N_Office_known : List Str := ["self"]
abbrev P_Office_known : List Str := ["self"]
theorem sc_Office_known : FnScope N_Office_known P_Office_known (defScope s_Office_known) := ⟨rfl, rfl, rfl, by decide +kernel, rfl, by decide +kernel, by decide +kernel⟩
noncomputable def g_Office_known : SG := (gRet (mDKeys (mFld "Book" "entries" (mFld "Office" "_book" (mP (fVar 0))))))
noncomputable def f_Office_known : SFn := mF 1 N_Office_known g_Office_known
theorem ok_Office_known {P : Program} {w : World} {K : PySem.W.Frag} {mg : Str → Option Value} {base : Heap} {f : Addr} {fd : FuncData} (T : Txt K w mg)  (Fn : Fun K "known" "Office.known" s_Office_known f fd) : FnOk P w K mg base (L2.CX P w) 1 f fd P_Office_known (spM K mg f_Office_known) := by
  refine okM (g := g_Office_known) Fn sc_Office_known fun cdv A outer s H E tk hr => ?_
  exact (sg_one (sg_ret (s_dkeys rfl T.b_list (s_fld T.k_Book T.n_Book_entries (s_fld T.k_Office T.n_Office_book (s_var 0))))))
abbrev s_Office_held : Stmt := inClass (top 34) 4
abbrev N_Office_held : List Str := ["self", "thing"]
abbrev P_Office_held : List Str := ["self"]
theorem sc_Office_held : FnScope N_Office_held P_Office_held (defScope s_Office_held) := ⟨rfl, rfl, rfl, by decide +kernel, rfl, by decide +kernel, by decide +kernel⟩
noncomputable def g_Office_held : SG := (gRet (mLc (miL (mMeth "Office" "known" f_Office_known (mP (fVar 0)) mNil)) (st1 1) (mtB (m2 gEq (mFld "Entry" "state" (mDGet (mFld "Book" "entries" (mFld "Office" "_book" (mP (fVar 0)))) (mP (fVar 1)))) (mP (fC (.str "held"))))) (mP (fVar 1)) [1]))
noncomputable def f_Office_held : SFn := mF 1 N_Office_held g_Office_held
theorem ok_Office_held {P : Program} {w : World} {K : PySem.W.Frag} {mg : Str → Option Value} {base : Heap} {f : Addr} {fd : FuncData} (T : Txt K w mg) (M_Office_known : Mm P w K mg base 1 "Office" "known" P_Office_known f_Office_known) (Fn : Fun K "held" "Office.held" s_Office_held f fd) : FnOk P w K mg base (L2.CX P w) 2 f fd P_Office_held (spM K mg f_Office_held) := by
  refine okM (g := g_Office_held) Fn sc_Office_held fun cdv A outer s H E tk hr => ?_
  have hr_Office_known := hr.mono (show 1 ≤ 1 by decide)
  exact (sg_one (sg_ret (s_lc (own := [("thing", 1)]) rfl sc_Office_held.nd (si_list (s_meth0 tk M_Office_known hr_Office_known (s_var 0))) (blkOk_by (own := [("thing", 1)]) (N := N_Office_held) (sc := defScope s_Office_held) (by decide +kernel)) (tg_1 1) (fun _ _ _ _ _ => (pg_name (i := 1) sc_Office_held.nd rfl (by first | exact .inl rfl | exact .inr rfl))) (fun _ _ _ h => h) (fun _ _ _ _ _ => (pts_one (st_cmp (op_eqA hr.units) imp_eq (s_fld T.k_Entry T.n_Entry_state (s_dget (room1 hr) (s_fld T.k_Book T.n_Book_entries (s_fld T.k_Office T.n_Office_book (s_var 0))) (s_pure (pd_var 1)))) (s_pure pd_str)))) (fun _ _ _ _ _ => (s_pure (pd_var 1))))))
abbrev s_Office_create : Stmt := inClass (top 34) 7
abbrev N_Office_create : List Str := ["self", "quantity", "thing"]
abbrev P_Office_create : List Str := ["self", "quantity"]
theorem sc_Office_create : FnScope N_Office_create P_Office_create (defScope s_Office_create) := ⟨rfl, rfl, rfl, by decide +kernel, rfl, by decide +kernel, by decide +kernel⟩
noncomputable def g_Office_create : SG := (gSeq (gDrop (mCall f_check_quantity (mCons (mP (fVar 1)) mNil)))
  (gSeq (gAsg (st1 2) (mIx (mMeth "Book" "new_ids" f_Book_new_ids (mFld "Office" "_book" (mP (fVar 0))) (mCons (mP (fC (.int 1))) mNil)) (mP (fC (.int 0)))))
  (gSeq (gDrop (mMeth "Office" "_write" f_Office_pwrite (mP (fVar 0)) (mCons (mP (fL gTupD (fCons (fC (.str "register")) (fCons (fVar 2) (fCons (fVar 1) fNil))))) mNil)))
  (gRet (mP (fVar 2))))))
noncomputable def f_Office_create : SFn := mF 2 N_Office_create g_Office_create
theorem ok_Office_create {P : Program} {w : World} {K : PySem.W.Frag} {mg : Str → Option Value} {base : Heap} {f : Addr} {fd : FuncData} (T : Txt K w mg) (C_check_quantity : Dm P w K mg base 1 "check_quantity" P_check_quantity f_check_quantity) (M_Office_pwrite : Mm P w K mg base 6 "Office" "_write" P_Office_pwrite f_Office_pwrite) (M_Book_new_ids : Mm P w K mg base 2 "Book" "new_ids" P_Book_new_ids f_Book_new_ids) (Fn : Fun K "create" "Office.create" s_Office_create f fd) : FnOk P w K mg base (L2.CX P w) 7 f fd P_Office_create (spM K mg f_Office_create) := by
  refine okM (g := g_Office_create) Fn sc_Office_create fun cdv A outer s H E tk hr => ?_
  have hr_check_quantity := hr.mono (show 1 ≤ 6 by decide)
  have hr_Office_pwrite := hr.mono (show 6 ≤ 6 by decide)
  have hr_Book_new_ids := hr.mono (show 2 ≤ 6 by decide)
  exact (sg_cons (sg_drop (s_call tk C_check_quantity hr_check_quantity (s_cons (s_pure (pd_var 1)) s_nil)))
      (sg_cons (sg_asg 2 sc_Office_create.nd (s_ix (s_meth tk M_Book_new_ids hr_Book_new_ids (s_fld T.k_Office T.n_Office_book (s_var 0)) (s_cons (s_pure pd_int) s_nil)) (s_pure pd_int)))
      (sg_cons (sg_drop (s_meth tk M_Office_pwrite hr_Office_pwrite (s_var 0) (s_cons (s_pure (pd_tup (pda_cons pd_str (pda_cons (pd_var 2) (pda_cons (pd_var 1) pda_nil))))) s_nil)))
      (sg_one (sg_ret (s_pure (pd_var 2)))))))
abbrev s_is_office : Stmt := top 16
abbrev N_is_office : List Str := ["text", "sign"]
abbrev P_is_office : List Str := ["text"]
theorem sc_is_office : FnScope N_is_office P_is_office (defScope s_is_office) := ⟨rfl, rfl, rfl, by decide +kernel, rfl, by decide +kernel, by decide +kernel⟩
def g_is_office : Gs := (seqG (forG (fI itS (fVar 0)) (st1 1) (ifG (ftB (f2 gNotIn (fVar 1) (fC (.str "abcdefghijklmnopqrstuvwxyz")))) (retG (fC (.bool false))) nilG))
  (retG (fChain gLe gLe (fC (.int 1)) (fL gLen (fCons (fVar 0) fNil)) (fC (.int 12)))))
def f_is_office : List D → Option D := dF 1 N_is_office g_is_office
theorem ok_is_office {P : Program} {w : World} {K : PySem.W.Frag} {mg : Str → Option Value} {base : Heap} {f : Addr} {fd : FuncData} (T : Txt K w mg)  (Fn : Fun K "is_office" "is_office" s_is_office f fd) : FnOk P w K mg base CX0 1 f fd P_is_office (spD K f_is_office) := by
  refine okD (g := g_is_office) Fn sc_is_office (fun cdv A outer s H E μ Hs hr => ?_) (fun ds d h => dF_ok (ps := P_is_office) (N := N_is_office) (g := g_is_office) ds d h)
  exact (pg_cons (pg_for (tg_1 1) PassesOwn.never rfl (pdi_str (pd_var 0)) (pg_name (i := 1) sc_is_office.nd rfl (by first | exact .inl rfl | exact .inr rfl)) (pg_one (pg_if (pdt_cmp (op_notInA (hu65 hr)) imp_notIn (pd_var 1) (pd_globS T.c_LETTERS)) (pg_one (pg_ret pd_bool)) pg_nil)) (hv_1 1))
      (pg_one (pg_ret (pd_chain op_leA op_leA imp_ord imp_ord pd_int (pd_callB call_len imp_len T.b_len (pda_cons (pd_var 0) pda_nil)) pd_int))))
abbrev s_whole_lines : Stmt := top 26
abbrev N_whole_lines : List Str := ["text"]
abbrev P_whole_lines : List Str := ["text"]
theorem sc_whole_lines : FnScope N_whole_lines P_whole_lines (defScope s_whole_lines) := ⟨rfl, rfl, rfl, by decide +kernel, rfl, by decide +kernel, by decide +kernel⟩
def g_whole_lines : Gs := (retG (fSl (fM gSplit (fVar 0) (fCons (fC (.str "\n")) fNil)) foNo (foE (f1 gNeg (fC (.int 1))))))
def f_whole_lines : List D → Option D := dF 1 N_whole_lines g_whole_lines
theorem ok_whole_lines {P : Program} {w : World} {K : PySem.W.Frag} {mg : Str → Option Value} {base : Heap} {f : Addr} {fd : FuncData} (T : Txt K w mg)  (Fn : Fun K "whole_lines" "whole_lines" s_whole_lines f fd) : FnOk P w K mg base CX0 1 f fd P_whole_lines (spD K f_whole_lines) := by
  refine okD (g := g_whole_lines) Fn sc_whole_lines (fun cdv A outer s H E μ Hs hr => ?_) (fun ds d h => dF_ok (ps := P_whole_lines) (N := N_whole_lines) (g := g_whole_lines) ds d h)
  exact (pg_one (pg_ret (pd_slice (pd_split (pd_var 0) pd_str) pdo_none (pdo_some (pd_un un_neg imp_neg pd_int)))))
abbrev s_number_of : Stmt := top 17
abbrev N_number_of : List Str := ["text", "sign"]
abbrev P_number_of : List Str := ["text"]
theorem sc_number_of : FnScope N_number_of P_number_of (defScope s_number_of) := ⟨rfl, rfl, rfl, by decide +kernel, rfl, by decide +kernel, by decide +kernel⟩
def g_number_of : Gs := (seqG (forG (fI itS (fVar 0)) (st1 1) (ifG (ftB (f2 gNotIn (fVar 1) (fC (.str "0123456789")))) (retG (fC .non)) nilG))
  (seqG (ifG (ftOr (ftB (f2 gEq (fVar 0) (fC (.str "")))) (ftOr (ftV (fM gStarts (fVar 0) (fCons (fC (.str "0")) fNil))) (ftOr (ftB (f2 gGt (fL gLen (fCons (fVar 0) fNil)) (fC (.int 10)))) (ftB (f2 gGt (fL gInt (fCons (fVar 0) fNil)) (fC (.int 1000000000))))))) (retG (fC .non)) nilG)
  (retG (fL gInt (fCons (fVar 0) fNil)))))
def f_number_of : List D → Option D := dF 1 N_number_of g_number_of
theorem ok_number_of {P : Program} {w : World} {K : PySem.W.Frag} {mg : Str → Option Value} {base : Heap} {f : Addr} {fd : FuncData} (T : Txt K w mg)  (Fn : Fun K "number_of" "number_of" s_number_of f fd) : FnOk P w K mg base CX0 1 f fd P_number_of (spD K f_number_of) := by
  refine okD (g := g_number_of) Fn sc_number_of (fun cdv A outer s H E μ Hs hr => ?_) (fun ds d h => dF_ok (ps := P_number_of) (N := N_number_of) (g := g_number_of) ds d h)
  exact (pg_cons (pg_for (tg_1 1) PassesOwn.never rfl (pdi_str (pd_var 0)) (pg_name (i := 1) sc_number_of.nd rfl (by first | exact .inl rfl | exact .inr rfl)) (pg_one (pg_if (pdt_cmp (op_notInA (hu65 hr)) imp_notIn (pd_var 1) (pd_globS T.c_DIGITS)) (pg_one (pg_ret pd_non)) pg_nil)) (hv_1 1))
      (pg_cons (pg_if (pdt_w (pdw_or (pdt_cmp (op_eqA hr.units) imp_eq (pd_var 0) pd_str) (pdw_or (pdt_val (pd_starts (pd_var 0) pd_str)) (pdw_or (pdt_cmp op_gtA imp_ord (pd_callB call_len imp_len T.b_len (pda_cons (pd_var 0) pda_nil)) pd_int) (pdw_or1 (pdt_cmp op_gtA imp_ord (pd_callTy call_intA imp_int T.b_int (pda_cons (pd_var 0) pda_nil)) (pd_globI T.c_GREATEST))))))) (pg_one (pg_ret pd_non)) pg_nil)
      (pg_one (pg_ret (pd_callTy call_intA imp_int T.b_int (pda_cons (pd_var 0) pda_nil))))))
abbrev s_is_thing : Stmt := top 18
abbrev N_is_thing : List Str := ["text", "office", "dash", "number"]
abbrev P_is_thing : List Str := ["text"]
theorem sc_is_thing : FnScope N_is_thing P_is_thing (defScope s_is_thing) := ⟨rfl, rfl, rfl, by decide +kernel, rfl, by decide +kernel, by decide +kernel⟩
def g_is_thing : Gs := (seqG (asgG (st3 1 2 3) (fM gPartition (fVar 0) (fCons (fC (.str "-")) fNil)))
  (retG (fAnd (f2 gNe (fVar 2) (fC (.str ""))) (fAnd (fL f_is_office (fCons (fVar 1) fNil)) (f2 gNotN (fL f_number_of (fCons (fVar 3) fNil)) (fC .non))))))
def f_is_thing : List D → Option D := dF 1 N_is_thing g_is_thing
theorem ok_is_thing {P : Program} {w : World} {K : PySem.W.Frag} {mg : Str → Option Value} {base : Heap} {f : Addr} {fd : FuncData} (T : Txt K w mg) (C_number_of : Df P w K mg base 1 "number_of" P_number_of f_number_of) (C_is_office : Df P w K mg base 1 "is_office" P_is_office f_is_office) (Fn : Fun K "is_thing" "is_thing" s_is_thing f fd) : FnOk P w K mg base CX0 2 f fd P_is_thing (spD K f_is_thing) := by
  refine okD (g := g_is_thing) Fn sc_is_thing (fun cdv A outer s H E μ Hs hr => ?_) (fun ds d h => dF_ok (ps := P_is_thing) (N := N_is_thing) (g := g_is_thing) ds d h)
  have hr_number_of := hr.mono (show 1 ≤ 1 by decide)
  have hr_is_office := hr.mono (show 1 ≤ 1 by decide)
  exact (pg_cons (pg_set (tg_3 1 2 3) (pd_partition (pd_var 0) pd_str) (pg_tup rfl (pgs_cons (pg_name (i := 1) sc_is_thing.nd rfl (by first | exact .inl rfl | exact .inr rfl)) (pgs_cons (pg_name (i := 2) sc_is_thing.nd rfl (by first | exact .inl rfl | exact .inr rfl)) (pgs_cons (pg_name (i := 3) sc_is_thing.nd rfl (by first | exact .inl rfl | exact .inr rfl)) pgs_nil)))) rfl rfl (hv_3 1 2 3))
      (pg_one (pg_ret (pd_and (pd_cmp (op_neA hr.units) imp_ne (pd_var 2) pd_str) (pd_and (pd_df C_is_office hr_is_office (pda_cons (pd_var 1) pda_nil)) (pd_one (pd_cmp op_notN imp_notN (pd_df C_number_of hr_number_of (pda_cons (pd_var 3) pda_nil)) pd_non)))))))
abbrev s_value_of : Stmt := top 20
abbrev N_value_of : List Str := ["word", "shape"]
abbrev P_value_of : List Str := ["word", "shape"]
theorem sc_value_of : FnScope N_value_of P_value_of (defScope s_value_of) := ⟨rfl, rfl, rfl, by decide +kernel, rfl, by decide +kernel, by decide +kernel⟩
def g_value_of : Gs := (seqG (ifG (ftB (f2 gEq (fVar 1) (fC (.str "n")))) (retG (fL f_number_of (fCons (fVar 0) fNil))) nilG)
  (seqG (ifG (ftB (f2 gEq (fVar 1) (fC (.str "o")))) (retG (fIf (ftV (fL f_is_office (fCons (fVar 0) fNil))) (fVar 0) (fC .non))) nilG)
  (retG (fIf (ftV (fL f_is_thing (fCons (fVar 0) fNil))) (fVar 0) (fC .non)))))
def f_value_of : List D → Option D := dF 2 N_value_of g_value_of
theorem ok_value_of {P : Program} {w : World} {K : PySem.W.Frag} {mg : Str → Option Value} {base : Heap} {f : Addr} {fd : FuncData} (T : Txt K w mg) (C_is_thing : Df P w K mg base 2 "is_thing" P_is_thing f_is_thing) (C_is_office : Df P w K mg base 1 "is_office" P_is_office f_is_office) (C_number_of : Df P w K mg base 1 "number_of" P_number_of f_number_of) (Fn : Fun K "value_of" "value_of" s_value_of f fd) : FnOk P w K mg base CX0 3 f fd P_value_of (spD K f_value_of) := by
  refine okD (g := g_value_of) Fn sc_value_of (fun cdv A outer s H E μ Hs hr => ?_) (fun ds d h => dF_ok (ps := P_value_of) (N := N_value_of) (g := g_value_of) ds d h)
  have hr_is_thing := hr.mono (show 2 ≤ 2 by decide)
  have hr_is_office := hr.mono (show 1 ≤ 2 by decide)
  have hr_number_of := hr.mono (show 1 ≤ 2 by decide)
  exact (pg_cons (pg_if (pdt_cmp (op_eqA hr.units) imp_eq (pd_var 1) pd_str) (pg_one (pg_ret (pd_df C_number_of hr_number_of (pda_cons (pd_var 0) pda_nil)))) pg_nil)
      (pg_cons (pg_if (pdt_cmp (op_eqA hr.units) imp_eq (pd_var 1) pd_str) (pg_one (pg_ret (pd_ifExp (pdt_val (pd_df C_is_office hr_is_office (pda_cons (pd_var 0) pda_nil))) (pd_var 0) pd_non))) pg_nil)
      (pg_one (pg_ret (pd_ifExp (pdt_val (pd_df C_is_thing hr_is_thing (pda_cons (pd_var 0) pda_nil))) (pd_var 0) pd_non)))))
abbrev s_values_of : Stmt := top 21
abbrev N_values_of : List Str := ["words", "shapes", "values", "word", "shape"]
abbrev P_values_of : List Str := ["words", "shapes"]
theorem sc_values_of : FnScope N_values_of P_values_of (defScope s_values_of) := ⟨rfl, rfl, rfl, by decide +kernel, rfl, by decide +kernel, by decide +kernel⟩
def g_values_of : Gs := (seqG (ifG (ftB (f2 gNe (fL gLen (fCons (fVar 0) fNil)) (fL gLen (fCons (fVar 1) fNil)))) (retG (fC .non)) nilG)
  (seqG (asgG (st1 2) (fLc (fIs itZs (fCons (fVar 0) (fCons (fVar 1) fNil))) (st2 3 4) ftYes (fL f_value_of (fCons (fVar 3) (fCons (fVar 4) fNil))) [3, 4]))
  (seqG (ifG (ftB (f2 gIn (fC .non) (fVar 2))) (retG (fC .non)) nilG)
  (retG (fVar 2)))))
def f_values_of : List D → Option D := dF 2 N_values_of g_values_of
theorem ok_values_of {P : Program} {w : World} {K : PySem.W.Frag} {mg : Str → Option Value} {base : Heap} {f : Addr} {fd : FuncData} (T : Txt K w mg) (C_value_of : Df P w K mg base 3 "value_of" P_value_of f_value_of) (Fn : Fun K "values_of" "values_of" s_values_of f fd) : FnOk P w K mg base CX0 4 f fd P_values_of (spD K f_values_of) := by
  refine okD (g := g_values_of) Fn sc_values_of (fun cdv A outer s H E μ Hs hr => ?_) (fun ds d h => dF_ok (ps := P_values_of) (N := N_values_of) (g := g_values_of) ds d h)
  have hr_value_of := hr.mono (show 3 ≤ 3 by decide)
  exact (pg_cons (pg_if (pdt_cmp (op_neA hr.units) imp_ne (pd_callB call_len imp_len T.b_len (pda_cons (pd_var 0) pda_nil)) (pd_callB call_len imp_len T.b_len (pda_cons (pd_var 1) pda_nil))) (pg_one (pg_ret pd_non)) pg_nil)
      (pg_cons (pg_asgLc 2  (own := [("word", 3), ("shape", 4)]) rfl sc_values_of.nd (pdi_zs T.b_zip (pda_cons (pd_var 0) (pda_cons (pd_var 1) pda_nil))) (blkOk_by (own := [("word", 3), ("shape", 4)]) (N := N_values_of) (sc := defScope s_values_of) (by decide +kernel)) (tg_2 3 4) (fun _ _ _ _ _ => (pg_tup rfl (pgs_cons (pg_name (i := 3) sc_values_of.nd rfl (by first | exact .inl rfl | exact .inr rfl)) (pgs_cons (pg_name (i := 4) sc_values_of.nd rfl (by first | exact .inl rfl | exact .inr rfl)) pgs_nil)))) tYes_D (fun _ _ _ _ _ => pts_nil) (fun _ _ _ _ _ => (pd_df C_value_of hr_value_of (pda_cons (pd_var 3) (pda_cons (pd_var 4) pda_nil)))))
      (pg_cons (pg_if (pdt_cmp (op_inA (hu65 hr)) imp_in pd_non (pd_var 2)) (pg_one (pg_ret pd_non)) pg_nil)
      (pg_one (pg_ret (pd_var 2))))))
abbrev s_parse_join : Stmt := top 23
abbrev N_parse_join : List Str := ["words", "values"]
abbrev P_parse_join : List Str := ["words"]
theorem sc_parse_join : FnScope N_parse_join P_parse_join (defScope s_parse_join) := ⟨rfl, rfl, rfl, by decide +kernel, rfl, by decide +kernel, by decide +kernel⟩
def g_parse_join : Gs := (seqG (asgG (st1 1) (fL f_values_of (fCons (fSl (fVar 0) (foE (fC (.int 1))) foNo) (fCons (f2 gMulS (fC (.str "i")) (f2 gSub (fL gLen (fCons (fVar 0) fNil)) (fC (.int 1)))) fNil))))
  (seqG (ifG (ftOr (ftB (f2 gIsN (fVar 1) (fC .non))) (ftB (f2 gLt (fL gLen (fCons (fVar 1) fNil)) (fC (.int 3))))) (retG (fC .non)) nilG)
  (retG (fL gTupD (fCons (fC (.str "join")) (fStar (fVar 1) fNil))))))
def f_parse_join : List D → Option D := dF 1 N_parse_join g_parse_join
theorem ok_parse_join {P : Program} {w : World} {K : PySem.W.Frag} {mg : Str → Option Value} {base : Heap} {f : Addr} {fd : FuncData} (T : Txt K w mg) (C_values_of : Df P w K mg base 4 "values_of" P_values_of f_values_of) (Fn : Fun K "parse_join" "parse_join" s_parse_join f fd) : FnOk P w K mg base CX0 5 f fd P_parse_join (spD K f_parse_join) := by
  refine okD (g := g_parse_join) Fn sc_parse_join (fun cdv A outer s H E μ Hs hr => ?_) (fun ds d h => dF_ok (ps := P_parse_join) (N := N_parse_join) (g := g_parse_join) ds d h)
  have hr_values_of := hr.mono (show 4 ≤ 4 by decide)
  exact (pg_cons (pg_asg 1 sc_parse_join.nd (pd_df C_values_of hr_values_of (pda_cons (pd_slice (pd_var 0) (pdo_some pd_int) pdo_none) (pda_cons (pd_op op_strmul imp_mulS pd_str (pd_op op_sub imp_sub (pd_callB call_len imp_len T.b_len (pda_cons (pd_var 0) pda_nil)) pd_int)) pda_nil))))
      (pg_cons (pg_if (pdt_w (pdw_or (pdt_cmp op_isN imp_isN (pd_var 1) pd_non) (pdw_or1 (pdt_cmp op_ltA imp_ord (pd_callB call_len imp_len T.b_len (pda_cons (pd_var 1) pda_nil)) pd_int)))) (pg_one (pg_ret pd_non)) pg_nil)
      (pg_one (pg_ret (pd_tup (pda_cons pd_str (pda_star (pd_var 1) pda_nil)))))))
abbrev s_parse_split : Stmt := top 22
abbrev N_parse_split : List Str := ["words", "values"]
abbrev P_parse_split : List Str := ["words"]
theorem sc_parse_split : FnScope N_parse_split P_parse_split (defScope s_parse_split) := ⟨rfl, rfl, rfl, by decide +kernel, rfl, by decide +kernel, by decide +kernel⟩
def g_parse_split : Gs := (seqG (ifG (ftOr (ftB (f2 gLt (fL gLen (fCons (fVar 0) fNil)) (fC (.int 6)))) (ftB (f2 gNe (f2 gMod (fL gLen (fCons (fVar 0) fNil)) (fC (.int 2))) (fC (.int 0))))) (retG (fC .non)) nilG)
  (seqG (asgG (st1 1) (fL f_values_of (fCons (fSl (fVar 0) (foE (fC (.int 1))) foNo) (fCons (f2 gAdd (fC (.str "i")) (f2 gMulS (fC (.str "in")) (f2 gDiv (f2 gSub (fL gLen (fCons (fVar 0) fNil)) (fC (.int 2))) (fC (.int 2))))) fNil))))
  (seqG (ifG (ftB (f2 gIsN (fVar 1) (fC .non))) (retG (fC .non)) nilG)
  (retG (fL gTupD (fCons (fC (.str "split")) (fStar (fVar 1) fNil)))))))
def f_parse_split : List D → Option D := dF 1 N_parse_split g_parse_split
theorem ok_parse_split {P : Program} {w : World} {K : PySem.W.Frag} {mg : Str → Option Value} {base : Heap} {f : Addr} {fd : FuncData} (T : Txt K w mg) (C_values_of : Df P w K mg base 4 "values_of" P_values_of f_values_of) (Fn : Fun K "parse_split" "parse_split" s_parse_split f fd) : FnOk P w K mg base CX0 5 f fd P_parse_split (spD K f_parse_split) := by
  refine okD (g := g_parse_split) Fn sc_parse_split (fun cdv A outer s H E μ Hs hr => ?_) (fun ds d h => dF_ok (ps := P_parse_split) (N := N_parse_split) (g := g_parse_split) ds d h)
  have hr_values_of := hr.mono (show 4 ≤ 4 by decide)
  exact (pg_cons (pg_if (pdt_w (pdw_or (pdt_cmp op_ltA imp_ord (pd_callB call_len imp_len T.b_len (pda_cons (pd_var 0) pda_nil)) pd_int) (pdw_or1 (pdt_cmp (op_neA hr.units) imp_ne (pd_op op_mod imp_mod (pd_callB call_len imp_len T.b_len (pda_cons (pd_var 0) pda_nil)) pd_int) pd_int)))) (pg_one (pg_ret pd_non)) pg_nil)
      (pg_cons (pg_asg 1 sc_parse_split.nd (pd_df C_values_of hr_values_of (pda_cons (pd_slice (pd_var 0) (pdo_some pd_int) pdo_none) (pda_cons (pd_op op_addA imp_add pd_str (pd_op op_strmul imp_mulS pd_str (pd_op op_fdiv imp_div (pd_op op_sub imp_sub (pd_callB call_len imp_len T.b_len (pda_cons (pd_var 0) pda_nil)) pd_int) pd_int))) pda_nil))))
      (pg_cons (pg_if (pdt_cmp op_isN imp_isN (pd_var 1) pd_non) (pg_one (pg_ret pd_non)) pg_nil)
      (pg_one (pg_ret (pd_tup (pda_cons pd_str (pda_star (pd_var 1) pda_nil))))))))
abbrev s_row_of : Stmt := top 24
abbrev N_row_of : List Str := ["line", "words", "values"]
abbrev P_row_of : List Str := ["line"]
theorem sc_row_of : FnScope N_row_of P_row_of (defScope s_row_of) := ⟨rfl, rfl, rfl, by decide +kernel, rfl, by decide +kernel, by decide +kernel⟩
def g_row_of : Gs := (seqG (asgG (st1 1) (fM gSplit (fVar 0) (fCons (fC (.str " ")) fNil)))
  (seqG (ifG (ftB (f2 gEq (f2 gIx (fVar 1) (fC (.int 0))) (fC (.str "split")))) (retG (fL f_parse_split (fCons (fVar 1) fNil))) nilG)
  (seqG (ifG (ftB (f2 gEq (f2 gIx (fVar 1) (fC (.int 0))) (fC (.str "join")))) (retG (fL f_parse_join (fCons (fVar 1) fNil))) nilG)
  (seqG (ifG (ftB (f1 (gKno kv_LINES) (f2 gIx (fVar 1) (fC (.int 0))))) (retG (fC .non)) nilG)
  (seqG (asgG (st1 2) (fL f_values_of (fCons (fSl (fVar 1) (foE (fC (.int 1))) foNo) (fCons (f1 (gKix kv_LINES) (f2 gIx (fVar 1) (fC (.int 0)))) fNil))))
  (seqG (ifG (ftB (f2 gIsN (fVar 2) (fC .non))) (retG (fC .non)) nilG)
  (retG (fL gTupD (fCons (f2 gIx (fVar 1) (fC (.int 0))) (fStar (fVar 2) fNil))))))))))
def f_row_of : List D → Option D := dF 1 N_row_of g_row_of
theorem ok_row_of {P : Program} {w : World} {K : PySem.W.Frag} {mg : Str → Option Value} {base : Heap} {f : Addr} {fd : FuncData} (T : Txt K w mg) (C_values_of : Df P w K mg base 4 "values_of" P_values_of f_values_of) (C_parse_join : Df P w K mg base 5 "parse_join" P_parse_join f_parse_join) (C_parse_split : Df P w K mg base 5 "parse_split" P_parse_split f_parse_split) (Fn : Fun K "row_of" "row_of" s_row_of f fd) : FnOk P w K mg base CX0 6 f fd P_row_of (spD K f_row_of) := by
  refine okD (g := g_row_of) Fn sc_row_of (fun cdv A outer s H E μ Hs hr => ?_) (fun ds d h => dF_ok (ps := P_row_of) (N := N_row_of) (g := g_row_of) ds d h)
  have hr_values_of := hr.mono (show 4 ≤ 5 by decide)
  have hr_parse_join := hr.mono (show 5 ≤ 5 by decide)
  have hr_parse_split := hr.mono (show 5 ≤ 5 by decide)
  exact (pg_cons (pg_asg 1 sc_row_of.nd (pd_split (pd_var 0) pd_str))
      (pg_cons (pg_if (pdt_cmp (op_eqA hr.units) imp_eq (pd_ix ix_seq imp_ix (pd_var 1) pd_int) pd_str) (pg_one (pg_ret (pd_df C_parse_split hr_parse_split (pda_cons (pd_var 1) pda_nil)))) pg_nil)
      (pg_cons (pg_if (pdt_cmp (op_eqA hr.units) imp_eq (pd_ix ix_seq imp_ix (pd_var 1) pd_int) pd_str) (pg_one (pg_ret (pd_df C_parse_join hr_parse_join (pda_cons (pd_var 1) pda_nil)))) pg_nil)
      (pg_cons (pg_if (ktt_no T.d_LINES (pd_ix ix_seq imp_ix (pd_var 1) pd_int)) (pg_one (pg_ret pd_non)) pg_nil)
      (pg_cons (pg_asg 2 sc_row_of.nd (pd_df C_values_of hr_values_of (pda_cons (pd_slice (pd_var 1) (pdo_some pd_int) pdo_none) (pda_cons (kt_ix T.d_LINES (pd_ix ix_seq imp_ix (pd_var 1) pd_int)) pda_nil))))
      (pg_cons (pg_if (pdt_cmp op_isN imp_isN (pd_var 2) pd_non) (pg_one (pg_ret pd_non)) pg_nil)
      (pg_one (pg_ret (pd_tup (pda_cons (pd_ix ix_seq imp_ix (pd_var 1) pd_int) (pda_star (pd_var 2) pda_nil)))))))))))
abbrev s_parse_journal : Stmt := top 27
abbrev N_parse_journal : List Str := ["text", "rows", "line", "row"]
abbrev P_parse_journal : List Str := ["text"]
theorem sc_parse_journal : FnScope N_parse_journal P_parse_journal (defScope s_parse_journal) := ⟨rfl, rfl, rfl, by decide +kernel, rfl, by decide +kernel, by decide +kernel⟩
noncomputable def g_parse_journal : SG := (gSeq (gAsg (st1 1) (mDisp mNil))
  (gSeq (gFor (miP (fI itL (fL f_whole_lines (fCons (fVar 0) fNil)))) (st1 2) (gSeq (gAsg (st1 3) (mP (fL f_row_of (fCons (fVar 2) fNil))))
  (gSeq (gIf (mtP (ftB (f2 gIsN (fVar 3) (fC .non)))) (gRaiseF "InvalidLine" "line" (m2 gAdd (mL gLen (mCons (mP (fVar 1)) mNil)) (mP (fC (.int 1))))) gNil)
  (gDrop (mApp (mP (fVar 1)) (mP (fVar 3)))))))
  (gRet (mP (fVar 1)))))
noncomputable def f_parse_journal : SFn := mF 1 N_parse_journal g_parse_journal
theorem ok_parse_journal {P : Program} {w : World} {K : PySem.W.Frag} {mg : Str → Option Value} {base : Heap} {f : Addr} {fd : FuncData} (T : Txt K w mg) (C_whole_lines : Df P w K mg base 1 "whole_lines" P_whole_lines f_whole_lines) (C_row_of : Df P w K mg base 6 "row_of" P_row_of f_row_of) (J_InvalidLine : Xki P w K mg base 1 "InvalidLine" "line") (Fn : Fun K "parse_journal" "parse_journal" s_parse_journal f fd) : FnOk P w K mg base (L2.CX P w) 7 f fd P_parse_journal (spM K mg f_parse_journal) := by
  refine okM (g := g_parse_journal) Fn sc_parse_journal fun cdv A outer s H E tk hr => ?_
  have hr_whole_lines := hr.mono (show 1 ≤ 6 by decide)
  have hr_row_of := hr.mono (show 6 ≤ 6 by decide)
  have hr_J_InvalidLine := hr.mono (show 2 ≤ 6 by decide)
  exact (sg_cons (sg_asg 1 sc_parse_journal.nd (s_disp s_nil))
      (sg_cons (sg_for (tg_1 2) (passes_of rfl) rfl (si_pure (pdi_list (pd_df C_whole_lines hr_whole_lines (pda_cons (pd_var 0) pda_nil)))) (pg_name (i := 2) sc_parse_journal.nd rfl (by first | exact .inl rfl | exact .inr rfl)) (sg_cons (sg_asg 3 sc_parse_journal.nd (s_pure (pd_df C_row_of hr_row_of (pda_cons (pd_var 2) pda_nil))))
      (sg_cons (sg_if (st_pure (pdt_cmp op_isN imp_isN (pd_var 3) pd_non)) (sg_one (sg_raiseF tk rfl J_InvalidLine hr_J_InvalidLine (s_op op_addA imp_add (s_callB call_len imp_len T.b_len (s_cons (s_var 1) s_nil)) (s_pure pd_int)))) sg_nil)
      (sg_one (sg_drop (s_app (s_var 1) (s_pure (pd_var 3))))))))
      (sg_one (sg_ret (s_var 1)))))
abbrev s_Book_fits : Stmt := inClass (top 31) 4
abbrev N_Book_fits : List Str := ["self", "line", "word"]
abbrev P_Book_fits : List Str := ["self", "line"]
theorem sc_Book_fits : FnScope N_Book_fits P_Book_fits (defScope s_Book_fits) := ⟨rfl, rfl, rfl, by decide +kernel, rfl, by decide +kernel, by decide +kernel⟩
noncomputable def g_Book_fits : SG := (gSeq gNo (gSeq gNo (gSeq gNo (gSeq gNo (gSeq gNo (gSeq gNo (gSeq gNo gNo)))))))
noncomputable def f_Book_fits : SFn := mF 2 N_Book_fits g_Book_fits
theorem ok_Book_fits {P : Program} {w : World} {K : PySem.W.Frag} {mg : Str → Option Value} {base : Heap} {f : Addr} {fd : FuncData} (T : Txt K w mg)  (Fn : Fun K "fits" "Book.fits" s_Book_fits f fd) : FnOk P w K mg base (L2.CX P w) 1 f fd P_Book_fits (spM K mg f_Book_fits) := by
  refine okM (g := g_Book_fits) Fn sc_Book_fits fun cdv A outer s H E tk hr => ?_
  exact (sg_cons sg_never (sg_cons sg_never (sg_cons sg_never (sg_cons sg_never (sg_cons sg_never (sg_cons sg_never (sg_cons sg_never (sg_one sg_never))))))))
abbrev s_Book_init : Stmt := inClass (top 31) 0
abbrev N_Book_init : List Str := ["self", "office"]
abbrev P_Book_init : List Str := ["self", "office"]
theorem sc_Book_init : FnScope N_Book_init P_Book_init (defScope s_Book_init) := ⟨rfl, rfl, rfl, by decide +kernel, rfl, by decide +kernel, by decide +kernel⟩
noncomputable def g_Book_init : SG := (gSeq (gFld "Book" "office" (mP (fVar 1)) (mP (fVar 0)))
  (gSeq (gFld "Book" "entries" mDict0 (mP (fVar 0)))
  (gSeq (gFld "Book" "payments" mDict0 (mP (fVar 0)))
  (gSeq (gFld "Book" "credit" (mP (fC (.int 0))) (mP (fVar 0)))
  (gFld "Book" "next_number" (mP (fC (.int 1))) (mP (fVar 0)))))))
noncomputable def f_Book_init : SFn := mF 2 N_Book_init g_Book_init
theorem ok_Book_init {P : Program} {w : World} {K : PySem.W.Frag} {mg : Str → Option Value} {base : Heap} {f : Addr} {fd : FuncData} (T : Txt K w mg)  (Fn : Fun K "__init__" "Book.__init__" s_Book_init f fd) : FnOk P w K mg base (L2.CX P w) 1 f fd P_Book_init (spM K mg f_Book_init) := by
  refine okM (g := g_Book_init) Fn sc_Book_init fun cdv A outer s H E tk hr => ?_
  exact (sg_cons (sg_fld T.k_Book T.n_Book_office (s_pure (pd_var 1)) (s_var 0))
      (sg_cons (sg_fld T.k_Book T.n_Book_entries s_dict0 (s_var 0))
      (sg_cons (sg_fld T.k_Book T.n_Book_payments s_dict0 (s_var 0))
      (sg_cons (sg_fld T.k_Book T.n_Book_credit (s_pure pd_int) (s_var 0))
      (sg_one (sg_fld T.k_Book T.n_Book_next_number (s_pure pd_int) (s_var 0)))))))
abbrev s_Office_init : Stmt := inClass (top 34) 0
abbrev N_Office_init : List Str := ["self", "name", "journal", "number", "line"]
abbrev P_Office_init : List Str := ["self", "name", "journal"]
theorem sc_Office_init : FnScope N_Office_init P_Office_init (defScope s_Office_init) := ⟨rfl, rfl, rfl, by decide +kernel, rfl, by decide +kernel, by decide +kernel⟩
noncomputable def g_Office_init : SG := (gSeq (gIf (mtP (ftNot (ftV (fL f_is_office (fCons (fVar 1) fNil))))) (gRaise "InvalidOffice" (mP (fVar 1))) gNil)
  (gSeq (gFld "Office" "name" (mP (fVar 1)) (mP (fVar 0)))
  (gSeq (gFld "Office" "_book" (mMake "Book" f_Book_init [] (mCons (mP (fVar 1)) mNil)) (mP (fVar 0)))
  (gSeq (gFld "Office" "_lines" (mDisp mNil) (mP (fVar 0)))
  (gFor (miEnK (mCall f_parse_journal (mCons (mP (fVar 2)) mNil)) (mP (fC (.int 1)))) (st2 3 4) (gSeq (gIf (mtNot (mtV (mMeth "Book" "fits" f_Book_fits (mFld "Office" "_book" (mP (fVar 0))) (mCons (mP (fVar 4)) mNil)))) (gRaiseF "BrokenJournal" "line" (mP (fVar 3))) gNil)
  (gDrop (mMeth "Office" "_write" f_Office_pwrite (mP (fVar 0)) (mCons (mP (fVar 4)) mNil)))))))))
noncomputable def f_Office_init : SFn := mF 3 N_Office_init g_Office_init
theorem ok_Office_init {P : Program} {w : World} {K : PySem.W.Frag} {mg : Str → Option Value} {base : Heap} {f : Addr} {fd : FuncData} (T : Txt K w mg) (C_is_office : Df P w K mg base 1 "is_office" P_is_office f_is_office) (C_parse_journal : Dm P w K mg base 7 "parse_journal" P_parse_journal f_parse_journal) (M_Office_pwrite : Mm P w K mg base 6 "Office" "_write" P_Office_pwrite f_Office_pwrite) (M_Book_fits : Mm P w K mg base 1 "Book" "fits" P_Book_fits f_Book_fits) (J_BrokenJournal : Xki P w K mg base 1 "BrokenJournal" "line") (I_Book : Mi P w K mg base 1 "Book" P_Book_init f_Book_init) (Fn : L2.FunD K "__init__" "Office.__init__" (defArgs s_Office_init) (defBody s_Office_init) (defScope s_Office_init) [.str ""] [] f fd) : FnOk P w K mg base (L2.CX P w) 8 f fd P_Office_init (spM K mg f_Office_init) := by
  refine okMD (g := g_Office_init) Fn sc_Office_init fun cdv A outer s H E tk hr => ?_
  have hr_is_office := hr.mono (show 1 ≤ 7 by decide)
  have hr_parse_journal := hr.mono (show 7 ≤ 7 by decide)
  have hr_Office_pwrite := hr.mono (show 6 ≤ 7 by decide)
  have hr_Book_fits := hr.mono (show 1 ≤ 7 by decide)
  have hr_J_BrokenJournal := hr.mono (show 2 ≤ 7 by decide)
  have hr_I_Book := hr.mono (show 2 ≤ 7 by decide)
  exact (sg_cons (sg_if (st_pure (pdt_not (pdt_val (pd_df C_is_office hr_is_office (pda_cons (pd_var 1) pda_nil))))) (sg_one (sg_raise tk rfl T.x_InvalidOffice (s_pure (pd_var 1)))) sg_nil)
      (sg_cons (sg_fld T.k_Office T.n_Office_name (s_pure (pd_var 1)) (s_var 0))
      (sg_cons (sg_fld T.k_Office T.n_Office_book (s_make tk I_Book hr_I_Book (s_cons (s_pure (pd_var 1)) s_nil)) (s_var 0))
      (sg_cons (sg_fld T.k_Office T.n_Office_lines (s_disp s_nil) (s_var 0))
      (sg_one (sg_for (tg_2 3 4) (passes_of rfl) rfl (si_enumK T.b_enumerate (s_call tk C_parse_journal hr_parse_journal (s_cons (s_pure (pd_var 2)) s_nil)) (s_pure pd_int)) (pg_tup rfl (pgs_cons (pg_name (i := 3) sc_Office_init.nd rfl (by first | exact .inl rfl | exact .inr rfl)) (pgs_cons (pg_name (i := 4) sc_Office_init.nd rfl (by first | exact .inl rfl | exact .inr rfl)) pgs_nil))) (sg_cons (sg_if (st_not (st_val (s_meth tk M_Book_fits hr_Book_fits (s_fld T.k_Office T.n_Office_book (s_var 0)) (s_cons (s_pure (pd_var 4)) s_nil)))) (sg_one (sg_raiseF tk rfl J_BrokenJournal hr_J_BrokenJournal (s_pure (pd_var 3)))) sg_nil)
      (sg_one (sg_drop (s_meth tk M_Office_pwrite hr_Office_pwrite (s_var 0) (s_cons (s_pure (pd_var 4)) s_nil)))))))))))
abbrev s_law : Stmt := top 39
abbrev N_law : List Str := ["_law_script", "_law_office", "_law_held", "_law_cell", "_law_total", "_law_number", "_law_row", "_law_thing", "_law_quantity"]
abbrev P_law : List Str := ["_law_script"]
theorem sc_law : FnScope N_law P_law (defScope s_law) := ⟨rfl, rfl, rfl, by decide +kernel, rfl, by decide +kernel, by decide +kernel⟩
noncomputable def g_law : SG := (gSeq (gAsg (st1 1) (mMake "Office" f_Office_init [.str ""] (mCons (mP (fC (.str "ash"))) mNil)))
  (gSeq (gAsg (st1 2) (mDisp mNil))
  (gSeq (gFor (miP (fI itL (fSl (fVar 0) foNo (foE (fC (.int 8)))))) (st1 3) (gDrop (mApp (mP (fVar 2)) (mTup (mCons (mMeth "Office" "create" f_Office_create (mP (fVar 1)) (mCons (mP (f2 gAdd (fC (.int 1)) (f2 gMod (fL gInt (fCons (fVar 3) fNil)) (fC (.int 40))))) mNil)) (mCons (mP (f2 gAdd (fC (.int 1)) (f2 gMod (fL gInt (fCons (fVar 3) fNil)) (fC (.int 40))))) mNil))))))
  (gSeq (gAsg (st1 4) (mL gSum (mCons (mLc (miL (mP (fVar 2))) (st1 6) mtYes (mP (f2 gIx (fVar 6) (fC (.int 1)))) [6]) mNil)))
  (gSeq (gAsg (st1 5) (m2 gAdd (mL gLen (mCons (mP (fVar 2)) mNil)) (mP (fC (.int 1)))))
  (gSeq (gFor (miP (fI itL (fSl (fVar 0) (foE (fC (.int 8))) (foE (fC (.int 48)))))) (st1 3) (gIf (mtV (mP (fVar 2))) (gSeq (gIf (mtP (ftB (f2 gEq (f2 gMod (fL gInt (fCons (fVar 3) fNil)) (fC (.int 2))) (fC (.int 0))))) (gAsg (st1 2) (mCall f_L_split (mCons (mP (fVar 1)) (mCons (mP (fVar 2)) (mCons (mP (fVar 5)) (mCons (mP (f2 gDiv (fVar 3) (fC (.int 2)))) mNil)))))) (gAsg (st1 2) (mCall f_L_join (mCons (mP (fVar 1)) (mCons (mP (fVar 2)) (mCons (mP (fVar 5)) (mCons (mP (f2 gDiv (fVar 3) (fC (.int 2)))) mNil)))))))
  (gSeq (gIf (mtOr (mtB (m2 gIsN (mP (fVar 2)) (mP (fC .non)))) (mtB (m2 gNe (mL gSum (mCons (mLc (miL (mP (fVar 2))) (st1 6) mtYes (mP (f2 gIx (fVar 6) (fC (.int 1)))) [6]) mNil)) (mP (fVar 4))))) (gRet (mP (fC (.bool false)))) gNil)
  (gSeq (gAsg (st1 5) (m2 gAdd (mL gLen (mCons (mMeth "Office" "known" f_Office_known (mP (fVar 1)) mNil) mNil)) (mP (fC (.int 1)))))
  (gSeq (gIf (mtB (m2 gNe (mSortS (mMeth "Office" "held" f_Office_held (mP (fVar 1)) mNil)) (mSortS (mLc (miL (mP (fVar 2))) (st1 6) mtYes (mP (f2 gIx (fVar 6) (fC (.int 0)))) [6])))) (gRet (mP (fC (.bool false)))) gNil)
  (gFor (miL (mP (fVar 2))) (st2 7 8) (gIf (mtB (m2 gNe (mMeth "Office" "entry" f_Office_entry (mP (fVar 1)) (mCons (mP (fVar 7)) mNil)) (mP (fL gTupD (fCons (fVar 7) (fCons (fC (.str "ash")) (fCons (fVar 8) (fCons (fC (.int 1)) (fCons (fC (.str "held")) (fCons (fC .non) (fCons (fC (.bool false)) fNil))))))))))) (gRet (mP (fC (.bool false)))) gNil)))))) gNil))
  (gRet (mP (fC (.bool true))))))))))
noncomputable def f_law : SFn := mF 1 N_law g_law
theorem ok_law {P : Program} {w : World} {K : PySem.W.Frag} {mg : Str → Option Value} {base : Heap} {f : Addr} {fd : FuncData} (T : Txt K w mg) (C_L_split : Dm P w K mg base 8 "_law_split" P_L_split f_L_split) (C_L_join : Dm P w K mg base 8 "_law_join" P_L_join f_L_join) (M_Office_entry : Mm P w K mg base 2 "Office" "entry" P_Office_entry f_Office_entry) (M_Office_held : Mm P w K mg base 2 "Office" "held" P_Office_held f_Office_held) (M_Office_known : Mm P w K mg base 1 "Office" "known" P_Office_known f_Office_known) (M_Office_create : Mm P w K mg base 7 "Office" "create" P_Office_create f_Office_create) (ID_Office : Md P w K mg base 8 "Office" P_Office_init "" f_Office_init) (Fn : Fun K "law" "law" s_law f fd) : FnOk P w K mg base (L2.CX P w) 10 f fd P_law (spM K mg f_law) := by
  refine okM (g := g_law) Fn sc_law fun cdv A outer s H E tk hr => ?_
  have hr_L_split := hr.mono (show 8 ≤ 9 by decide)
  have hr_L_join := hr.mono (show 8 ≤ 9 by decide)
  have hr_Office_entry := hr.mono (show 2 ≤ 9 by decide)
  have hr_Office_held := hr.mono (show 2 ≤ 9 by decide)
  have hr_Office_known := hr.mono (show 1 ≤ 9 by decide)
  have hr_Office_create := hr.mono (show 7 ≤ 9 by decide)
  have hr_I_Office := hr.mono (show 9 ≤ 9 by decide)
  exact (sg_cons (sg_asg 1 sc_law.nd (s_makeD tk ID_Office hr_I_Office (s_cons (s_pure pd_str) s_nil)))
      (sg_cons (sg_asg 2 sc_law.nd (s_disp s_nil))
      (sg_cons (sg_for (tg_1 3) (passes_of rfl) rfl (si_pure (pdi_list (pd_slice (pd_var 0) pdo_none (pdo_some pd_int)))) (pg_name (i := 3) sc_law.nd rfl (by first | exact .inl rfl | exact .inr rfl)) (sg_one (sg_drop (s_app (s_var 2) (s_tup (s_cons (s_meth tk M_Office_create hr_Office_create (s_var 1) (s_cons (s_pure (pd_op op_addA imp_add pd_int (pd_op op_mod imp_mod (pd_callTy call_intA imp_int T.b_int (pda_cons (pd_var 3) pda_nil)) pd_int))) s_nil)) (s_cons (s_pure (pd_op op_addA imp_add pd_int (pd_op op_mod imp_mod (pd_callTy call_intA imp_int T.b_int (pda_cons (pd_var 3) pda_nil)) pd_int))) s_nil)))))))
      (sg_cons (sg_asg 4 sc_law.nd (s_callB (cr_sum rfl) imp_sum T.b_sum (s_cons (s_lc (own := [("_law_row", 6)]) rfl sc_law.nd (si_list (s_var 2)) (blkOk_by (own := [("_law_row", 6)]) (N := N_law) (sc := defScope s_law) (by decide +kernel)) (tg_1 6) (fun _ _ _ _ _ => (pg_name (i := 6) sc_law.nd rfl (by first | exact .inl rfl | exact .inr rfl))) tYes_M (fun _ _ _ _ _ => pts_nil) (fun _ _ _ _ _ => (s_pure (pd_ix ix_seq imp_ix (pd_var 6) pd_int)))) s_nil)))
      (sg_cons (sg_asg 5 sc_law.nd (s_op op_addA imp_add (s_callB call_len imp_len T.b_len (s_cons (s_var 2) s_nil)) (s_pure pd_int)))
      (sg_cons (sg_for (tg_1 3) (passes_of rfl) rfl (si_pure (pdi_list (pd_slice (pd_var 0) (pdo_some pd_int) (pdo_some pd_int)))) (pg_name (i := 3) sc_law.nd rfl (by first | exact .inl rfl | exact .inr rfl)) (sg_one (sg_if (st_val (s_var 2)) (sg_cons (sg_if (st_pure (pdt_cmp (op_eqA hr.units) imp_eq (pd_op op_mod imp_mod (pd_callTy call_intA imp_int T.b_int (pda_cons (pd_var 3) pda_nil)) pd_int) pd_int)) (sg_one (sg_asg 2 sc_law.nd (s_call tk C_L_split hr_L_split (s_cons (s_var 1) (s_cons (s_var 2) (s_cons (s_pure (pd_var 5)) (s_cons (s_pure (pd_op op_fdiv imp_div (pd_var 3) pd_int)) s_nil))))))) (sg_one (sg_asg 2 sc_law.nd (s_call tk C_L_join hr_L_join (s_cons (s_var 1) (s_cons (s_var 2) (s_cons (s_pure (pd_var 5)) (s_cons (s_pure (pd_op op_fdiv imp_div (pd_var 3) pd_int)) s_nil))))))))
      (sg_cons (sg_if (st_w (sw_or (st_cmp op_isN imp_isN (s_var 2) (s_pure pd_non)) (sw_or1 (st_cmp (op_neA hr.units) imp_ne (s_callB (cr_sum rfl) imp_sum T.b_sum (s_cons (s_lc (own := [("_law_row", 6)]) rfl sc_law.nd (si_list (s_var 2)) (blkOk_by (own := [("_law_row", 6)]) (N := N_law) (sc := defScope s_law) (by decide +kernel)) (tg_1 6) (fun _ _ _ _ _ => (pg_name (i := 6) sc_law.nd rfl (by first | exact .inl rfl | exact .inr rfl))) tYes_M (fun _ _ _ _ _ => pts_nil) (fun _ _ _ _ _ => (s_pure (pd_ix ix_seq imp_ix (pd_var 6) pd_int)))) s_nil)) (s_pure (pd_var 4)))))) (sg_one (sg_ret (s_pure pd_bool))) sg_nil)
      (sg_cons (sg_asg 5 sc_law.nd (s_op op_addA imp_add (s_callB call_len imp_len T.b_len (s_cons (s_meth0 tk M_Office_known hr_Office_known (s_var 1)) s_nil)) (s_pure pd_int)))
      (sg_cons (sg_if (st_cmp (op_neA hr.units) imp_ne (s_sortS T.b_sorted (s_meth0 tk M_Office_held hr_Office_held (s_var 1))) (s_sortS T.b_sorted (s_lc (own := [("_law_row", 6)]) rfl sc_law.nd (si_list (s_var 2)) (blkOk_by (own := [("_law_row", 6)]) (N := N_law) (sc := defScope s_law) (by decide +kernel)) (tg_1 6) (fun _ _ _ _ _ => (pg_name (i := 6) sc_law.nd rfl (by first | exact .inl rfl | exact .inr rfl))) tYes_M (fun _ _ _ _ _ => pts_nil) (fun _ _ _ _ _ => (s_pure (pd_ix ix_seq imp_ix (pd_var 6) pd_int)))))) (sg_one (sg_ret (s_pure pd_bool))) sg_nil)
      (sg_one (sg_for (tg_2 7 8) (passes_of rfl) rfl (si_list (s_var 2)) (pg_tup rfl (pgs_cons (pg_name (i := 7) sc_law.nd rfl (by first | exact .inl rfl | exact .inr rfl)) (pgs_cons (pg_name (i := 8) sc_law.nd rfl (by first | exact .inl rfl | exact .inr rfl)) pgs_nil))) (sg_one (sg_if (st_cmp (op_neA hr.units) imp_ne (s_meth tk M_Office_entry hr_Office_entry (s_var 1) (s_cons (s_pure (pd_var 7)) s_nil)) (s_pure (pd_tup (pda_cons (pd_var 7) (pda_cons pd_str (pda_cons (pd_var 8) (pda_cons pd_int (pda_cons pd_str (pda_cons pd_non (pda_cons pd_bool pda_nil)))))))))) (sg_one (sg_ret (s_pure pd_bool))) sg_nil)))))))) sg_nil)))
      (sg_one (sg_ret (s_pure pd_bool)))))))))
end Lh

namespace Lh
open PySem PySem.Spec L2 SkE Pd
open PyProof.Rows hiding St
open TL NumText
local macro_rules | `(tactic| walk_at "xcall") => `(tactic| fail)
local macro_rules | `(tactic| walk_at "xd") => `(tactic| first | assumption | omega | decide | (rw [sizeLine_eq]; omega) | (rw [sizeLine_eq]; simp; done) | (simp; done) | (simp [sizeLine_eq]; omega))
local macro_rules | `(tactic| walk_at "xo") => `(tactic| with_reducible first
  | exact x_add | exact x_sub | exact x_eqI | exact x_eqS | exact x_eqB | exact x_neI | exact x_neS | exact x_neB | exact x_lt | exact x_le | exact x_gt | exact x_ge | exact x_ltS | exact x_gtS
  | exact x_inC | exact x_notInC | exact x_lenL | exact x_lenT | exact x_lenN | exact x_int | exact x_intB | exact x_strS | exact x_abs | exact x_neg | exact x_startsM | exact x_truB | exact x_truL | exact x_truT | exact x_truI | exact x_truN | apply x_truS | exact x_endsM
  | apply x_addS | apply x_addL | apply x_addT | apply x_mulL | apply x_div | apply x_mod | apply x_lenS | apply x_intS | apply x_str | apply x_tupD | apply x_lstD
  | apply x_splitM | apply x_partM | apply x_upperM | apply x_ixL | apply x_ixT | apply x_ixN | apply x_ixS | apply x_isi | exact x_isN0 | exact x_notN0)
local macro_rules | `(tactic| walk_at "x1") => `(tactic| first
  | with_reducible exact x_C | with_reducible exact x_nil | with_reducible exact x_no | with_reducible exact x_yes | ((with_reducible apply x_var); rfl)
  | with_reducible apply x_f2 | with_reducible apply x_f1 | with_reducible apply x_cons | with_reducible apply x_L | with_reducible apply x_M | with_reducible apply x_I | with_reducible apply x_Is | with_reducible apply x_oE | with_reducible apply x_sl
  | with_reducible apply x_tB | with_reducible apply x_tV | with_reducible apply x_tand | with_reducible apply x_tor | with_reducible apply x_tnot | with_reducible apply x_and | with_reducible apply x_or | with_reducible apply x_not | with_reducible apply x_chain
  | walk_at "xo" | (intro _) | walk_at "xcall" | walk_at "xd")
local macro_rules | `(tactic| walk_at "x") => `(tactic| repeat' (walk_at "x1"))

/-! the notation's functions -/

def isOff (l : List Nat) : Bool := decide (1 ≤ l.length ∧ l.length ≤ 12) && l.all fun c => decide (97 ≤ c ∧ c ≤ 122)
theorem az_mem (c : Nat) : c ∈ (Str.ofString "abcdefghijklmnopqrstuvwxyz").cps.toList ↔ 97 ≤ c ∧ c ≤ 122 := by
  have e : (Str.ofString "abcdefghijklmnopqrstuvwxyz").cps.toList = (List.range 26).map (· + 97) := by decide +kernel
  rw [e, List.mem_map]
  constructor
  · rintro ⟨k, h1, rfl⟩
    have := List.mem_range.mp h1
    omega
  · rintro ⟨h1, h2⟩
    exact ⟨c - 97, List.mem_range.mpr (by omega), by omega⟩
theorem dig_mem (c : Nat) : c ∈ (Str.ofString "0123456789").cps.toList ↔ 48 ≤ c ∧ c ≤ 57 := by
  have e : (Str.ofString "0123456789").cps.toList = (List.range 10).map (· + 48) := by decide +kernel
  rw [e, List.mem_map]
  constructor
  · rintro ⟨k, h1, rfl⟩
    have := List.mem_range.mp h1
    omega
  · rintro ⟨h1, h2⟩
    exact ⟨c - 48, List.mem_range.mpr (by omega), by omega⟩
abbrev chD (c : Nat) : D := .str ⟨#[c]⟩
theorem itS_str (s : Str) : itS (.str s) = some ((tl s).map chD) := rfl
theorem e_is_office (s : Str) (hs : s.length ≤ 100000) : f_is_office [.str s] = some (.bool (isOff (tl s))) := by
  refine f_of rfl (w_seq ?_)
  refine w_for (fun rest ρ => ∃ (l m : List Nat) (o : Sl), tl s = l ++ m ∧ rest = m.map chD ∧ (l.all fun c => decide (97 ≤ c ∧ c ≤ 122)) = true ∧ ρ = [.val (.str s), o]) (x_I (x_var rfl) (itS_str s)) ⟨[], tl s, .junk, rfl, rfl, rfl, rfl⟩ ?_ ?_
  · rintro d rest ρ ⟨l, m, o, e1, e2, e3, rfl⟩
    cases m with
    | nil => cases e2
    | cons c m =>
      cases e2
      refine ⟨_, rfl, ?_⟩
      refine w_if (x := !decide (c ∈ (Str.ofString "abcdefghijklmnopqrstuvwxyz").cps.toList)) (by walk_at "x") (fun h => ?_) (fun h => ?_)
      · refine w_ret (d := .bool false) (by walk_at "x") ?_
        have hc : ¬ (97 ≤ c ∧ c ≤ 122) := by
          rw [← az_mem]
          simpa using h
        have : isOff (tl s) = false := by
          unfold isOff
          rw [e1, List.all_append, List.all_cons, decide_eq_false hc]
          simp
        rw [this]
        exact rfl
      · refine w_nil ⟨l ++ [c], m, _, by rw [e1]; simp, rfl, ?_, rfl⟩
        have hc : 97 ≤ c ∧ c ≤ 122 := by
          rw [← az_mem]
          simpa using h
        rw [List.all_append, e3]
        simp [hc]
  · rintro ρ ⟨l, m, o, e1, e2, e3, rfl⟩
    cases m with
    | cons c m => cases e2
    | nil =>
      rw [List.append_nil] at e1
      have hl : s.length = (tl s).length := len_tl s
      refine w_ret (d := .bool (isOff (tl s))) ?_ rfl
      have e : isOff (tl s) = (decide ((1 : Int) ≤ (s.length : Int)) && decide ((s.length : Int) ≤ 12)) := by
        unfold isOff
        rw [e1, e3, Bool.and_true, ← e1, ← hl, Bool.eq_iff_iff]
        simp only [decide_eq_true_eq, Bool.and_eq_true]
        omega
      rw [e]
      walk_at "x"
def digs (l : List Nat) : Bool := l.all fun c => decide (48 ≤ c ∧ c ≤ 57)
theorem digs_all {l : List Nat} (h : digs l = true) : AllDigits l := fun c hc => by
  have := List.all_eq_true.mp h c hc
  exact of_decide_eq_true this
def numOf (l : List Nat) : Option Nat := if digs l = true ∧ l ≠ [] ∧ l.take 1 ≠ [48] ∧ l.length ≤ 10 ∧ digitsVal l ≤ 1000000000 then some (digitsVal l) else none
def numD (l : List Nat) : D := match numOf l with
  | some n => .int n
  | none => .non
theorem str_empty_iff (s : Str) : s = ("" : Str) ↔ tl s = [] := by
  have e : tl ("" : Str) = [] := by decide +kernel
  constructor
  · rintro rfl; exact e
  · intro h; exact ext_tl (h.trans e.symm)
theorem tl_0 : tl ("0" : Str) = [48] := by decide +kernel
theorem numD_bad {l : List Nat} (h : ¬ (digs l = true ∧ l ≠ [] ∧ l.take 1 ≠ [48] ∧ l.length ≤ 10 ∧ digitsVal l ≤ 1000000000)) : numD l = .non := by
  unfold numD numOf
  rw [if_neg h]
theorem e_number_of (s : Str) (hs : s.length ≤ 100000) : f_number_of [.str s] = some (numD (tl s)) := by
  have hl : s.length = (tl s).length := len_tl s
  refine f_of rfl (w_seq ?_)
  refine w_for (fun rest ρ => ∃ (l m : List Nat) (o : Sl), tl s = l ++ m ∧ rest = m.map chD ∧ digs l = true ∧ ρ = [.val (.str s), o]) (x_I (x_var rfl) (itS_str s)) ⟨[], tl s, .junk, rfl, rfl, rfl, rfl⟩ ?_ ?_
  · rintro d rest ρ ⟨l, m, o, e1, e2, e3, rfl⟩
    cases m with
    | nil => cases e2
    | cons c m =>
      cases e2
      refine ⟨_, rfl, ?_⟩
      refine w_if (x := !decide (c ∈ (Str.ofString "0123456789").cps.toList)) (by walk_at "x") (fun h => ?_) (fun h => ?_)
      · refine w_ret (d := .non) (by walk_at "x") ?_
        have hc : ¬ (48 ≤ c ∧ c ≤ 57) := by
          rw [← dig_mem]
          simpa using h
        refine (numD_bad fun hb => hc ?_).symm
        have := List.all_eq_true.mp hb.1 c (by rw [e1]; simp)
        exact of_decide_eq_true this
      · refine w_nil ⟨l ++ [c], m, _, by rw [e1]; simp, rfl, ?_, rfl⟩
        have hc : 48 ≤ c ∧ c ≤ 57 := by
          rw [← dig_mem]
          simpa using h
        unfold digs at e3 ⊢
        rw [List.all_append, e3]
        simp [hc]
  · rintro ρ ⟨l, m, o, e1, e2, e3, rfl⟩
    cases m with
    | cons c m => cases e2
    | nil =>
      rw [List.append_nil] at e1
      rw [← e1] at e3
      have hiv : tl s ≠ [] → PySem.intText? s = some ((digitsVal (tl s) : Nat) : Int) ∨ ¬ s.length ≤ 10 := fun h0 => by
        by_cases h10 : s.length ≤ 10
        · exact .inl (intText_digits (digs_all e3) h0 (by omega))
        · exact .inr h10
      refine w_seq (w_if (x := decide (s = ("" : Str)) || (Txt.startswith s "0" || (decide ((10 : Int) < (s.length : Int)) || decide ((1000000000 : Int) < ((digitsVal (tl s) : Nat) : Int))))) ?_ (fun h => ?_) (fun h => ?_))
      · refine x_tor (by walk_at "x") fun h1 => x_tor (by walk_at "x") fun h2 => x_tor (by walk_at "x") fun h3 => ?_
        have h0 : tl s ≠ [] := fun z => by
          have := of_decide_eq_false h1
          exact this ((str_empty_iff s).mpr z)
        have h10 : s.length ≤ 10 := by
          have := of_decide_eq_false h3
          omega
        rcases hiv h0 with hv | hv
        · refine x_tB (x_f2 (x_L (x_cons (x_var rfl) x_nil) (x_intS (by omega) hv)) x_C x_gt)
        · exact absurd h10 hv
      · refine w_ret (d := .non) (by walk_at "x") ?_
        refine (numD_bad fun hb => ?_).symm
        obtain ⟨b1, b2, b3, b4, b5⟩ := hb
        rw [starts_eq, tl_0] at h
        simp only [Bool.or_eq_true, decide_eq_true_eq, beq_iff_eq] at h
        rcases h with h | h | h | h
        · exact b2 ((str_empty_iff s).mp h)
        · exact b3 h
        · omega
        · omega
      · rw [starts_eq, tl_0] at h
        simp only [Bool.or_eq_false_iff, decide_eq_false_iff_not, beq_eq_false_iff_ne] at h
        obtain ⟨h1, h2, h3, h4⟩ := h
        have h0 : tl s ≠ [] := fun z => h1 ((str_empty_iff s).mpr z)
        have h10 : s.length ≤ 10 := by omega
        have e : numD (tl s) = .int ((digitsVal (tl s) : Nat) : Int) := by
          unfold numD numOf
          rw [if_pos ⟨e3, h0, h2, by omega, by omega⟩]
        refine w_nil ?_
        refine w_ret (d := .int ((digitsVal (tl s) : Nat) : Int)) ?_ e.symm
        rcases hiv h0 with hv | hv
        · exact x_L (x_cons (x_var rfl) x_nil) (x_intS (by omega) hv)
        · exact absurd h10 hv
def isThg (l : List Nat) : Bool := match dash l with
  | some (a, b) => isOff a && (numOf b).isSome
  | none => false
theorem dash_len {l a b : List Nat} (h : dash l = some (a, b)) : a.length + b.length + 1 = l.length := by
  rw [(dash_some h).1, List.length_append, List.length_cons]
  omega
theorem x_notN_num {l : List Nat} : gNotN (numD l) .non = some (.bool (numOf l).isSome) := by
  unfold numD
  cases numOf l <;> rfl
theorem e_is_thing (s : Str) (hs : s.length ≤ 100000) : f_is_thing [.str s] = some (.bool (isThg (tl s))) := by
  have hl : s.length = (tl s).length := len_tl s
  refine f_of rfl (w_seq ?_)
  have hp := partition_dash s
  have hx : fM gPartition (fVar 0) (fCons (fC (.str "-")) fNil) (rho0 N_is_thing [D.str s]) = some (.tup [.str (Txt.partition s "-").1, .str (Txt.partition s "-").2.1, .str (Txt.partition s "-").2.2]) :=
    x_M (x_var rfl) (x_cons x_C x_nil) (x_partM (by decide +kernel) (by rw [sizeLine_eq]; omega))
  refine w_asg3 hx ?_
  unfold isThg
  cases q : dash (tl s) with
  | none =>
    rw [q] at hp
    rw [hp]
    refine w_ret (d := .bool false) ?_ rfl
    have e : decide (Str.empty = ("" : Str)) = true := by decide +kernel
    refine x_and (x := false) (x_f2 (x_var rfl) x_C (x_neS.trans (by rw [e]; rfl))) (y := false) fun h => nomatch h
  | some p =>
    obtain ⟨a, b⟩ := p
    rw [q] at hp
    have hab := dash_len q
    rw [hp]
    have e : decide (("-" : Str) = ("" : Str)) = false := by decide +kernel
    have ha := e_is_office ⟨a.toArray⟩ (by rw [len_tl, tl_mk]; omega)
    have hb := e_number_of ⟨b.toArray⟩ (by rw [len_tl, tl_mk]; omega)
    rw [tl_mk] at ha hb
    refine w_ret (d := .bool (isOff a && (numOf b).isSome)) ?_ rfl
    refine (x_and (x := true) (x_f2 (x_var rfl) x_C (x_neS.trans (by rw [e]; rfl))) fun _ => ?_)
    refine x_and (x_L (x_cons (x_var rfl) x_nil) ha) fun _ => ?_
    exact x_f2 (x_L (x_cons (x_var rfl) x_nil) hb) x_C x_notN_num
theorem rngD_eq (n : Nat) : rngD 0 n = (List.range n).map fun (k : Nat) => D.int (0 + (k : Nat)) := rfl
theorem isOff_app {l : List Nat} {c : Nat} (h : (l.all fun c => decide (97 ≤ c ∧ c ≤ 122)) = true) (hc : 97 ≤ c ∧ c ≤ 122) : ((l ++ [c]).all fun c => decide (97 ≤ c ∧ c ≤ 122)) = true := by
  rw [List.all_append, h]
  simp [hc]
theorem len26 : (Str.ofString "abcdefghijklmnopqrstuvwxyz").cps.toList.length = 26 := by decide +kernel
theorem len26' : (Str.ofString "abcdefghijklmnopqrstuvwxyz").length = 26 := by decide +kernel
def okc (l : List Nat) : Prop := ∀ c ∈ l, c < 0x110000
theorem strOk_of {s : Str} (h : okc (tl s)) : PyData.strOk s = true := by
  unfold PyData.strOk
  rw [Array.all_eq_true']
  intro c hc
  exact decide_eq_true (h c (by simpa using hc))
theorem tl_a : tl ("a" : Str) = [97] := by decide +kernel
theorem tl_z : tl ("z" : Str) = [122] := by decide +kernel
theorem tl_9 : tl ("9" : Str) = [57] := by decide +kernel
def gd (k : Nat) (s : Str) : Prop := s.length ≤ k ∧ okc (tl s)
theorem gd_app {a b : Str} {k m : Nat} (h : gd k a) (h2 : gd m b) : gd (k + m) (a ++ b) := by
  refine ⟨?_, fun c hc => ?_⟩
  · have := h.1
    have := h2.1
    rw [len_tl] at *
    rw [tl_append, List.length_append]
    omega
  · rw [tl_append, List.mem_append] at hc
    rcases hc with hc | hc
    · exact h.2 c hc
    · exact h2.2 c hc
theorem gd_lit {s : Str} (k : Nat) (h : (decide (s.length ≤ k) && (tl s).all fun c => decide (c < 1114112)) = true) : gd k s := by
  rw [Bool.and_eq_true, decide_eq_true_eq, List.all_eq_true] at h
  exact ⟨h.1, fun c hc => of_decide_eq_true (h.2 c hc)⟩
theorem gd_num {n : Nat} (h : n ≤ 1000000000) : gd 10 (Str.ofString (toString ((n : Nat) : Int))) := by
  refine ⟨?_, fun c hc => ?_⟩
  · rw [len_tl, tl_num]
    exact numL_len (by decide) (by omega)
  · rw [tl_num] at hc
    have := numL_digits n c hc
    omega
theorem isOff_gd {s : Str} (h : isOff (tl s) = true) : gd 12 s ∧ ∀ c ∈ tl s, 97 ≤ c ∧ c ≤ 122 := by
  unfold isOff at h
  rw [Bool.and_eq_true, decide_eq_true_eq, ← len_tl, List.all_eq_true] at h
  have h2 : ∀ c ∈ tl s, 97 ≤ c ∧ c ≤ 122 := fun c hc => of_decide_eq_true (h.2 c hc)
  exact ⟨⟨h.1.2, fun c hc => by have := h2 c hc; omega⟩, h2⟩
def gdD (d : D) : Prop := ∃ s : Str, d = .str s ∧ gd 100000 s
theorem gd_mono {s : Str} {k m : Nat} (h : gd k s) (hk : k ≤ m) : gd m s := ⟨Nat.le_trans h.1 hk, h.2⟩
theorem shaped_pair {s : Str} {i : Int} (h : okc (tl s)) : SeqAt.shaped (D.tup [.str s, .int i]).py = true ∧ PyData.eqv (D.tup [.str s, .int i]).py (D.tup [.str s, .int i]).py = true := by
  have h1 : (D.tup [.str s, .int i]).py.canLay0 = true := by
    show (PyData.strOk s && (true && true)) = true
    rw [strOk_of h] <;> rfl
  refine ⟨?_, SeqAt.eqv_refl _ h1⟩
  unfold SeqAt.shaped
  simp only [h1, Bool.true_and]
  exact decide_eq_true (by show 1 ≤ 64; decide)
theorem numL_head : ∀ n, 1 ≤ n → (numL n).take 1 ≠ [48] := by
  intro n
  induction n using Nat.strongRecOn with
  | _ n ih =>
    intro hn h
    by_cases h10 : n < 10
    · rw [numL_lt h10] at h
      simp at h
      omega
    · rw [numL_step (by omega), List.take_append_of_le_length] at h
      · exact ih (n / 10) (by omega) (by omega) h
      · exact List.length_pos_iff.mpr (numL_ne _)
theorem digs_num (n : Nat) : digs (numL n) = true := by
  unfold digs
  rw [List.all_eq_true]
  intro c hc
  exact decide_eq_true (numL_digits n c hc)
theorem numOf_num {n : Nat} (h1 : 1 ≤ n) (h2 : n ≤ 1000000000) : numOf (numL n) = some n := by
  have hc : digs (numL n) = true ∧ numL n ≠ [] ∧ (numL n).take 1 ≠ [48] ∧ (numL n).length ≤ 10 ∧ digitsVal (numL n) ≤ 1000000000 :=
    ⟨digs_num n, numL_ne n, numL_head n h1, numL_len (by decide) (by omega), by rw [numL_val]; exact h2⟩
  unfold numOf
  rw [if_pos hc, numL_val]

theorem x_ifE {ρ : Rho} {ft : Ft} {f g : F} {x : Bool} {a b : D} (h1 : ft ρ = some x) (h2 : f ρ = some a) (h3 : g ρ = some b) : fIf ft f g ρ = some (if x = true then a else b) := x_if h1 (fun q => by rw [if_pos q]; exact h2) (fun q => by rw [if_neg (by rw [q]; exact Bool.false_ne_true)]; exact h3)
/-- the value of a word by its kind's sign -/
def valD (c : Nat) (w : Str) : D := if c = 110 then numD (tl w) else if c = 111 then (if isOff (tl w) = true then .str w else .non) else (if isThg (tl w) = true then .str w else .non)
theorem eq_sg (c : Nat) (z : Str) (k : Nat) (hz : tl z = [k]) : decide ((⟨#[c]⟩ : Str) = z) = decide (c = k) := by
  rw [Bool.eq_iff_iff, decide_eq_true_eq, decide_eq_true_eq]
  constructor
  · intro h
    rw [← h] at hz
    simpa [tl] using hz
  · intro h
    subst h
    rw [← mk_tl z, hz]
theorem tl_n : tl ("n" : Str) = [110] := by decide +kernel
theorem tl_o : tl ("o" : Str) = [111] := by decide +kernel
theorem e_value_of (w : Str) (c : Nat) (hw : w.length ≤ 100000) : f_value_of [.str w, .str ⟨#[c]⟩] = some (valD c w) := by
  refine f_of rfl (w_seq (w_if (x := decide (c = 110)) (x_tB ((x_f2 (x_var rfl) x_C x_eqS).trans (by rw [eq_sg c "n" 110 tl_n]))) (fun h => ?_) fun h => ?_))
  · have h := of_decide_eq_true h
    refine w_ret (x_L (x_cons (x_var rfl) x_nil) (e_number_of w hw)) ?_
    show numD (tl w) = valD c w
    unfold valD
    rw [if_pos h]
  · have h := of_decide_eq_false h
    refine w_nil (w_seq (w_if (x := decide (c = 111)) (x_tB ((x_f2 (x_var rfl) x_C x_eqS).trans (by rw [eq_sg c "o" 111 tl_o]))) (fun h2 => ?_) fun h2 => ?_))
    · have h2 := of_decide_eq_true h2
      refine w_ret (x_ifE (x := isOff (tl w)) (x_tV (x_L (x_cons (x_var rfl) x_nil) (e_is_office w hw)) x_truB) (x_var rfl) x_C) ?_
      show (if isOff (tl w) = true then D.str w else D.non) = valD c w
      unfold valD
      rw [if_neg h, if_pos h2]
    · have h2 := of_decide_eq_false h2
      refine w_nil (w_ret (x_ifE (x := isThg (tl w)) (x_tV (x_L (x_cons (x_var rfl) x_nil) (e_is_thing w hw)) x_truB) (x_var rfl) x_C) ?_)
      show (if isThg (tl w) = true then D.str w else D.non) = valD c w
      unfold valD
      rw [if_neg h, if_neg h2]

/-- the values of words by a shape's signs -/
def zipV : List Str → List Nat → List D
  | w :: ws, c :: cs => valD c w :: zipV ws cs
  | _, _ => []
def isNo : D → Bool
  | .non => true
  | _ => false
def valsD (ws : List Str) (cs : List Nat) : D := if ws.length = cs.length then (if (zipV ws cs).any isNo = true then .non else .lst (zipV ws cs)) else .non
theorem valD_flat (c : Nat) (w : Str) : (valD c w).flat = true := by
  unfold valD numD
  split
  · split <;> rfl
  · split
    · split <;> rfl
    · split <;> rfl
theorem zipV_flat : ∀ (ws : List Str) (cs : List Nat), (zipV ws cs).all D.flat = true
  | [], _ => rfl
  | _ :: _, [] => rfl
  | w :: ws, c :: cs => by
    show ((valD c w).flat && (zipV ws cs).all D.flat) = true
    rw [valD_flat, zipV_flat ws cs]; rfl
theorem eqF_non : ∀ d : D, d.eqF .non = isNo d := fun d => by cases d <;> rfl
theorem zipV_go {ρ : Rho} : ∀ (ws : List Str) (cs : List Nat), (∀ w ∈ ws, w.length ≤ 100000) → ρ.length = 5 → lcGo (st2 3 4) ftYes (fL f_value_of (fCons (fVar 3) (fCons (fVar 4) fNil))) ρ (zsD (ws.map D.str) cs) = some (zipV ws cs)
  | [], _, _, _ => rfl
  | _ :: _, [], _, _ => rfl
  | w :: ws, c :: cs, h, hl => by
    have ih := zipV_go (ρ := ρ) ws cs (fun x hx => h x (List.mem_cons_of_mem _ hx)) hl
    match ρ, hl, ih with
    | [a, b, d, e, f], _, ih =>
      rw [List.map_cons]
      unfold zsD lcGo
      have e1 : st2 3 4 (D.tup [D.str w, D.str ⟨#[c]⟩]) [a, b, d, e, f] = some [a, b, d, .val (.str w), .val (.str ⟨#[c]⟩)] := rfl
      have e2 : fL f_value_of (fCons (fVar 3) (fCons (fVar 4) fNil)) [a, b, d, .val (.str w), .val (.str ⟨#[c]⟩)] = some (valD c w) := x_L (x_cons (x_var rfl) (x_cons (x_var rfl) x_nil)) (e_value_of w c (h w List.mem_cons_self))
      rw [e1, b1_some, show ftYes _ = some true from rfl, b1_some, if_pos rfl, e2, b1_some, ih, b1_some]
      rfl
theorem e_values_of (ws : List Str) (sh : Str) (hw : ∀ w ∈ ws, w.length ≤ 100000) (hn : ws.length ≤ 100000) (hs : sh.length ≤ 100000) (ha : sh.cps.all (· < 128) = true) : f_values_of [.lst (ws.map D.str), .str sh] = some (valsD ws (tl sh)) := by
  have hl : sh.length = (tl sh).length := len_tl sh
  refine f_of rfl (w_seq (w_if (x := !decide (ws.length = (tl sh).length)) (x_tB ((x_f2 (x_L (x_cons (x_var rfl) x_nil) x_lenL) (x_L (x_cons (x_var rfl) x_nil) (x_lenS (by rw [sizeLine_eq]; omega))) x_neI).trans ?_)) (fun h => w_ret x_C ?_) fun h => w_nil ?_))
  · have e : decide ((ws.length : Int) = ((tl sh).length : Int)) = decide (ws.length = (tl sh).length) := by
      rw [Bool.eq_iff_iff, decide_eq_true_eq, decide_eq_true_eq]
      omega
    rw [List.length_map, hl, e]
  · have : ¬ ws.length = (tl sh).length := by simpa using h
    show D.non = valsD ws (tl sh)
    unfold valsD
    rw [if_neg this]
  · have he : ws.length = (tl sh).length := by simpa using h
    have hz : (zsD (ws.map D.str) sh.cps.toList).length ≤ 1000000 := by rw [zsD_len, List.length_map]; omega
    refine w_seq (w_asg (d := .lst (zipV ws (tl sh))) (x_lc (x_Is (x_cons (x_var rfl) (x_cons (x_var rfl) x_nil)) (if_pos ha)) hz (zipV_go ws (tl sh) hw rfl)) ?_)
    refine w_seq (w_if (x := (zipV ws (tl sh)).any isNo) (x_tB (x_f2 x_C (x_var rfl) ?_)) (fun h2 => w_ret x_C ?_) fun h2 => w_nil (w_ret (x_var rfl) ?_))
    · have : gIn0 .non (.lst (zipV ws (tl sh))) = some ((zipV ws (tl sh)).any fun z => z.eqF .non) := by
        show (if D.non.flat && (zipV ws (tl sh)).all D.flat then _ else _) = _
        rw [zipV_flat]
        rfl
      unfold gIn
      rw [this, b1_some]
      congr 3
      exact funext eqF_non
    · show D.non = valsD ws (tl sh)
      unfold valsD
      rw [if_pos he, if_pos h2]
    · show D.lst _ = valsD ws (tl sh)
      unfold valsD
      rw [if_pos he, if_neg (by rw [h2]; exact Bool.false_ne_true)]

/-- the shape of a line by its first word -/
def shOf (w : Str) : Option (List Nat) := (kv_LINES.lookup w).map tl
/-- what the words behind the first one are worth -/
def rowD (w : Str) (ws : List Str) (cs : List Nat) : D := match valsD ws cs with
  | .lst vs => .tup (.str w :: vs)
  | _ => .non
theorem valsD_cases (ws : List Str) (cs : List Nat) : valsD ws cs = .non ∨ (valsD ws cs = .lst (zipV ws cs) ∧ ws.length = cs.length) := by
  unfold valsD
  split
  · split
    · exact .inl rfl
    · exact .inr ⟨rfl, by assumption⟩
  · exact .inl rfl
theorem zipV_len : ∀ (ws : List Str) (cs : List Nat), ws.length = cs.length → (zipV ws cs).length = ws.length
  | [], [], _ => rfl
  | [], _ :: _, h => by simp at h
  | _ :: _, [], h => by simp at h
  | w :: ws, c :: cs, h => by
    show (zipV ws cs).length + 1 = ws.length + 1
    rw [zipV_len ws cs (by simpa using h)]

theorem tl_repS (z : Str) (k : Nat) : tl (repS z (k : Int)) = (List.replicate k (tl z)).flatten := by
  have h : ∀ (n : Nat) (acc : Array Nat), ((List.replicate n z.cps).foldl (· ++ ·) acc).toList = acc.toList ++ (List.replicate n (tl z)).flatten := fun n => by
    induction n with
    | zero => intro acc; simp
    | succ n ih =>
      intro acc
      rw [List.replicate_succ, List.foldl_cons, ih, Array.toList_append, List.replicate_succ, List.flatten_cons, List.append_assoc]
  have := h k #[]
  show ((List.replicate ((k : Int).toNat) z.cps).foldl (· ++ ·) #[]).toList = _
  rw [Int.toNat_natCast, this]
  rfl
theorem x_mulS {z : Str} {k : Int} (h1 : z.length ≤ 100) (h2 : 0 ≤ k) (h3 : k ≤ 100000) : gMulS (.str z) (.int k) = some (.str (repS z k)) := if_pos ⟨h1, h2, h3⟩
theorem ascii_of {s : Str} (h : ∀ c ∈ tl s, c < 128) : s.cps.all (· < 128) = true := by
  rw [Array.all_eq_true']
  intro c hc
  exact decide_eq_true (h c (by simpa [tl] using hc))
theorem cutL_from (xs : List D) (k : Nat) (hk : k ≤ xs.length) : gSl (.lst xs) (some (k : Int)) none = some (.lst (xs.drop k)) := by
  show some (D.lst (Pd.cutD xs (some (k : Int)) none)) = _
  congr 2
  unfold Pd.cutD
  rw [HT.sIx_none, HT.sIx_nat, Nat.min_eq_left hk, List.take_of_length_le]
  rw [List.length_drop]
  omega
/-- the signs of a split's shape, a join's -/
def spSh (n : Nat) : List Nat := 105 :: (List.replicate ((n - 1) / 2) [105, 110]).flatten
def joSh (n : Nat) : List Nat := (List.replicate n [105]).flatten
theorem tl_i : tl ("i" : Str) = [105] := by decide +kernel
theorem tl_in : tl ("in" : Str) = [105, 110] := by decide +kernel
theorem flat_mem {l : List Nat} {n c : Nat} (h : c ∈ (List.replicate n l).flatten) : c ∈ l := by
  obtain ⟨x, hx, hc⟩ := List.mem_flatten.mp h
  rw [(List.mem_replicate.mp hx).2] at hc
  exact hc
theorem flat_len (l : List Nat) (n : Nat) : (List.replicate n l).flatten.length = n * l.length := by
  induction n with
  | zero => simp
  | succ n ih => rw [List.replicate_succ, List.flatten_cons, List.length_append, ih, Nat.succ_mul]; omega
theorem splitD_row (w : Str) (ws : List Str) (cs : List Nat) {ρ : Rho} {i : Nat} {fw : F} (h1 : ρ[i]? = some (.val (valsD ws cs))) (hw : fw ρ = some (.str w)) (hn : ws.length ≤ 100000) (h2 : valsD ws cs ≠ .non) : fL gTupD (fCons fw (fStar (fVar i) fNil)) ρ = some (rowD w ws cs) := by
  rcases valsD_cases ws cs with h | ⟨h, hl⟩
  · exact absurd h h2
  · have e : fStar (fVar i) fNil ρ = some (zipV ws cs ++ []) := by
      unfold fStar
      rw [x_var h1, b1_some, x_nil, b1_some, h]
    rw [List.append_nil] at e
    have z := zipV_len ws cs hl
    refine (x_L (x_cons hw e) (x_tupD (by rw [List.length_cons, z, sizeLine_eq]; omega))).trans ?_
    unfold rowD
    rw [h]
/-- is None -/
theorem isN_vals (ws : List Str) (cs : List Nat) : gIsN (valsD ws cs) .non = some (.bool (isNo (valsD ws cs))) := by
  rcases valsD_cases ws cs with h | ⟨h, _⟩
  · rw [h]; rfl
  · rw [h]; rfl
theorem isNo_eq {d : D} (h : isNo d = true) : d = .non := by cases d <;> first | rfl | cases h
theorem isNo_ne {d : D} (h : isNo d = false) : d ≠ .non := fun e => by rw [e] at h; cases h
theorem rowD_non {w : Str} {ws : List Str} {cs : List Nat} (h : valsD ws cs = .non) : rowD w ws cs = .non := by unfold rowD; rw [h]
def rowSp (ws : List Str) : D := if ws.length + 1 < 6 ∨ (ws.length + 1) % 2 ≠ 0 then .non else rowD "split" ws (spSh ws.length)
theorem e_parse_split (w0 : Str) (ws : List Str) (hw : ∀ w ∈ ws, w.length ≤ 100000) (hn : ws.length ≤ 10000) : f_parse_split [.lst ((w0 :: ws).map D.str)] = some (rowSp ws) := by
  have hl : gLen [D.lst ((w0 :: ws).map D.str)] = some (.int ((ws.length + 1 : Nat) : Int)) := by
    rw [x_lenL, List.length_map]; rfl
  have hx : ∀ {ρ : Rho}, ρ[0]? = some (.val (.lst ((w0 :: ws).map D.str))) → fL gLen (fCons (fVar 0) fNil) ρ = some (.int ((ws.length + 1 : Nat) : Int)) := fun h => x_L (x_cons (x_var h) x_nil) hl
  have tl2 : tl (("i" : Str) ++ repS "in" ((((ws.length - 1) / 2 : Nat)) : Int)) = spSh ws.length := by
    rw [tl_append, tl_i, tl_repS, tl_in]
    rfl
  have sl : ("i" : Str).length + (repS "in" ((((ws.length - 1) / 2 : Nat)) : Int)).length ≤ 100000 := by
    have h1 : (repS "in" ((((ws.length - 1) / 2 : Nat)) : Int)).length = (ws.length - 1) / 2 * 2 := by
      rw [len_tl, tl_repS, flat_len, tl_in]
      rfl
    rw [h1, show ("i" : Str).length = 1 from by decide]
    omega
  refine f_of rfl (w_seq (w_if (x := decide (ws.length + 1 < 6) || !decide ((ws.length + 1) % 2 = 0)) ?_ (fun h => w_ret x_C ?_) fun h => w_nil ?_))
  · refine (x_tor (x := decide (ws.length + 1 < 6)) (y := !decide ((ws.length + 1) % 2 = 0)) (x_tB ((x_f2 (hx rfl) x_C x_lt).trans ?_)) fun _ => x_tB ((x_f2 (x_f2 (hx rfl) x_C (x_mod (by decide))) x_C x_neI).trans ?_))
    · congr 2
      rw [Bool.eq_iff_iff, decide_eq_true_eq, decide_eq_true_eq]
      omega
    · have : decide ((((ws.length + 1 : Nat) : Int)) % 2 = 0) = decide ((ws.length + 1) % 2 = 0) := by
        rw [Bool.eq_iff_iff, decide_eq_true_eq, decide_eq_true_eq]
        omega
      rw [this]
  · have h' : ws.length + 1 < 6 ∨ (ws.length + 1) % 2 ≠ 0 := by simpa using h
    show D.non = rowSp ws
    unfold rowSp
    rw [if_pos h']
  · have h' : ¬ (ws.length + 1 < 6 ∨ (ws.length + 1) % 2 ≠ 0) := by simpa using h
    have hrow : rowSp ws = rowD "split" ws (spSh ws.length) := if_neg h'
    have e2 : ((ws.length + 1 : Nat) : Int) - 2 = ((ws.length - 1 : Nat) : Int) := by omega
    refine w_seq (w_asg (d := valsD ws (spSh ws.length)) (x_L (x_cons (x_sl (x_var rfl) (x_oE x_C) x_no (cutL_from _ 1 (by simp))) (x_cons (x_f2 x_C (x_f2 x_C (x_f2 (x_f2 (hx rfl) x_C (x_sub.trans (by rw [e2]))) x_C ((x_div (by decide) (by decide)).trans (by rw [show ((ws.length - 1 : Nat) : Int) / 2 = (((ws.length - 1) / 2 : Nat) : Int) from by omega]))) (x_mulS (by decide) (by omega) (by omega))) (x_addS (Nat.le_trans sl (by rw [sizeLine_eq]; decide)))) x_nil)) ?_) ?_)
    · rw [← tl2]
      refine e_values_of ws _ hw (by omega) ?_ (ascii_of fun c hc => ?_)
      · rw [len_tl, tl_append, List.length_append, ← len_tl, ← len_tl]; exact sl
      · rw [tl2] at hc
        rcases List.mem_cons.mp hc with rfl | hc
        · decide
        · have := flat_mem hc
          simp at this
          omega
    · refine w_seq (w_if (x := isNo (valsD ws (spSh ws.length))) (x_tB (x_f2 (x_var rfl) x_C (isN_vals _ _))) (fun h2 => w_ret x_C ?_) fun h2 => w_nil (w_ret (splitD_row "split" ws (spSh ws.length) rfl x_C (by omega) (isNo_ne h2)) ?_))
      · show D.non = rowSp ws
        rw [hrow, rowD_non (isNo_eq h2)]
      · show rowD "split" ws (spSh ws.length) = rowSp ws
        rw [hrow]

/-- a join's row -/
def rowJo (ws : List Str) : D := if ws.length < 3 then .non else rowD "join" ws (joSh ws.length)
theorem e_parse_join (w0 : Str) (ws : List Str) (hw : ∀ w ∈ ws, w.length ≤ 100000) (hn : ws.length ≤ 10000) : f_parse_join [.lst ((w0 :: ws).map D.str)] = some (rowJo ws) := by
  have hl : gLen [D.lst ((w0 :: ws).map D.str)] = some (.int ((ws.length + 1 : Nat) : Int)) := by
    rw [x_lenL, List.length_map]; rfl
  have hx : ∀ {ρ : Rho}, ρ[0]? = some (.val (.lst ((w0 :: ws).map D.str))) → fL gLen (fCons (fVar 0) fNil) ρ = some (.int ((ws.length + 1 : Nat) : Int)) := fun h => x_L (x_cons (x_var h) x_nil) hl
  have tl2 : tl (repS "i" (ws.length : Int)) = joSh ws.length := by
    rw [tl_repS, tl_i]
    rfl
  have sl : (repS "i" (ws.length : Int)).length ≤ 100000 := by
    rw [len_tl, tl_repS, flat_len, tl_i]
    show ws.length * 1 ≤ 100000
    omega
  have jl : (joSh ws.length).length = ws.length := by
    unfold joSh
    rw [flat_len]
    show ws.length * 1 = ws.length
    omega
  refine f_of rfl (w_seq (w_asg (d := valsD ws (joSh ws.length)) (x_L (x_cons (x_sl (x_var rfl) (x_oE x_C) x_no (cutL_from _ 1 (by simp))) (x_cons (x_f2 x_C (x_f2 (hx rfl) x_C (x_sub.trans (by rw [show ((ws.length + 1 : Nat) : Int) - 1 = (ws.length : Int) from by omega]))) (x_mulS (by decide) (by omega) (by omega))) x_nil)) ?_) ?_))
  · rw [← tl2]
    refine e_values_of ws _ hw (by omega) sl (ascii_of fun c hc => ?_)
    rw [tl2] at hc
    have := flat_mem hc
    simp at this
    omega
  · rcases valsD_cases ws (joSh ws.length) with hv | ⟨hv, hq⟩
    · refine w_seq (w_if (x := true) (x_tor (x := true) (y := true) (x_tB ((x_f2 (x_var rfl) x_C (isN_vals _ _)).trans (by rw [hv]; rfl))) (fun h => nomatch h)) (fun _ => w_ret x_C ?_) fun h => nomatch h)
      show D.non = rowJo ws
      unfold rowJo
      split
      · rfl
      · rw [rowD_non hv]
    · have zl := zipV_len ws _ hq
      refine w_seq (w_if (x := false || decide (ws.length < 3)) (x_tor (x := false) (y := decide (ws.length < 3)) (x_tB ((x_f2 (x_var rfl) x_C (isN_vals _ _)).trans (by rw [hv]; rfl))) fun _ => x_tB (x_f2 (x_L (x_cons (x_var rfl) x_nil) ((congrArg (fun d => gLen [d]) hv).trans x_lenL)) x_C (x_lt.trans ?_))) (fun h => w_ret x_C ?_) fun h => w_nil (w_ret (splitD_row "join" ws (joSh ws.length) rfl x_C (by omega) (by rw [hv]; exact fun e => nomatch e)) ?_))
      · rw [zl]
        congr 2
        rw [Bool.eq_iff_iff, decide_eq_true_eq, decide_eq_true_eq]
        omega
      · have : ws.length < 3 := by simpa using h
        show D.non = rowJo ws
        unfold rowJo
        rw [if_pos this]
      · have : ¬ ws.length < 3 := by simpa using h
        show rowD "join" ws (joSh ws.length) = rowJo ws
        unfold rowJo
        rw [if_neg this]

theorem lookup_all {α β : Type} [BEq α] {p : α × β → Bool} {z : α} {v : β} : ∀ {l : List (α × β)}, l.all p = true → l.lookup z = some v → ∃ y, p (y, v) = true
  | [], _, h => nomatch h
  | q :: l, ha, h => by
    rw [List.all_cons, Bool.and_eq_true] at ha
    rw [List.lookup_cons] at h
    cases e : z == q.1 with
    | true => rw [e] at h; cases h; exact ⟨q.1, ha.1⟩
    | false => rw [e] at h; exact lookup_all ha.2 h
theorem kv_ok {z sh : Str} (h : kv_LINES.lookup z = some sh) : sh.length ≤ 10 ∧ sh.cps.all (· < 128) = true := by
  obtain ⟨y, hy⟩ := lookup_all (p := fun p : Str × Str => decide (p.2.length ≤ 10) && p.2.cps.all fun c => decide (c < 128)) (l := kv_LINES) (by decide +kernel) h
  rw [Bool.and_eq_true] at hy
  exact ⟨of_decide_eq_true hy.1, hy.2⟩
/-- the row of a line by its words -/
def rowOf (w0 : Str) (ws : List Str) : D := if w0 = "split" then rowSp ws else if w0 = "join" then rowJo ws else match kv_LINES.lookup w0 with
  | none => .non
  | some sh => rowD w0 ws (tl sh)
theorem e_row_of (line w0 : Str) (ws : List Str) (hs : Txt.split line " " = w0 :: ws) (hl : line.length ≤ 100000) (hw : ∀ w ∈ ws, w.length ≤ 100000) (hn : ws.length ≤ 10000) : f_row_of [.str line] = some (rowOf w0 ws) := by
  have h0 : ∀ {ρ : Rho}, ρ[1]? = some (.val (.lst ((w0 :: ws).map D.str))) → f2 gIx (fVar 1) (fC (.int 0)) ρ = some (.str w0) := fun h => x_f2 (x_var h) x_C (x_ixL (atI_n (k := 0) rfl))
  refine f_of rfl (w_seq (w_asg (d := .lst ((w0 :: ws).map D.str)) (x_M (x_var rfl) (x_cons x_C x_nil) ((x_splitM (by decide) (by rw [sizeLine_eq]; omega)).trans (by rw [hs]))) ?_))
  refine w_seq (w_if (x := decide (w0 = "split")) (x_tB (x_f2 (h0 rfl) x_C x_eqS)) (fun h => w_ret (x_L (x_cons (x_var rfl) x_nil) (e_parse_split w0 ws hw hn)) ?_) fun h => w_nil ?_)
  · have h := of_decide_eq_true h
    show rowSp ws = rowOf w0 ws
    unfold rowOf
    rw [if_pos h]
  have n1 := of_decide_eq_false h
  refine w_seq (w_if (x := decide (w0 = "join")) (x_tB (x_f2 (h0 rfl) x_C x_eqS)) (fun h => w_ret (x_L (x_cons (x_var rfl) x_nil) (e_parse_join w0 ws hw hn)) ?_) fun h => w_nil ?_)
  · have h := of_decide_eq_true h
    show rowJo ws = rowOf w0 ws
    unfold rowOf
    rw [if_neg n1, if_pos h]
  have n2 := of_decide_eq_false h
  have e0 : rowOf w0 ws = match kv_LINES.lookup w0 with | none => .non | some sh => rowD w0 ws (tl sh) := by
    unfold rowOf
    rw [if_neg n1, if_neg n2]
  refine w_seq (w_if (x := !(kv_LINES.lookup w0).isSome) (x_tB (x_f1 (h0 rfl) rfl)) (fun h => w_ret x_C ?_) fun h => w_nil ?_)
  · show D.non = rowOf w0 ws
    rw [e0]
    cases q : kv_LINES.lookup w0 with
    | none => rfl
    | some sh => rw [q] at h; cases h
  cases q : kv_LINES.lookup w0 with
  | none => rw [q] at h; cases h
  | some sh =>
    obtain ⟨k1, k2⟩ := kv_ok q
    have e1 : rowOf w0 ws = rowD w0 ws (tl sh) := by rw [e0, q]
    have e2 : gKix kv_LINES (.str w0) = some (.str sh) := by
      show (kv_LINES.lookup w0).map D.str = _
      rw [q]; rfl
    refine w_seq (w_asg (d := valsD ws (tl sh)) (x_L (x_cons (x_sl (x_var rfl) (x_oE x_C) x_no (cutL_from _ 1 (by simp))) (x_cons (x_f1 (h0 rfl) e2) x_nil)) (e_values_of ws sh hw (by omega) (by omega) k2)) ?_)
    refine w_seq (w_if (x := isNo (valsD ws (tl sh))) (x_tB (x_f2 (x_var rfl) x_C (isN_vals _ _))) (fun h2 => w_ret x_C ?_) fun h2 => w_nil (w_ret (splitD_row w0 ws (tl sh) rfl (h0 rfl) (by omega) (isNo_ne h2)) ?_))
    · show D.non = rowOf w0 ws
      rw [e1, rowD_non (isNo_eq h2)]
    · show rowD w0 ws (tl sh) = rowOf w0 ws
      rw [e1]

theorem dropL_cut (xs : List D) : gSl (.lst xs) none (some (-1)) = some (.lst xs.dropLast) := by
  show some (D.lst (Pd.cutD xs none (some (-1)))) = _
  congr 2
  unfold Pd.cutD
  rw [HT.sIx_none, List.drop_zero, Nat.sub_zero]
  have e : HT.sIx xs.length xs.length (some (-1)) = xs.length - 1 := by
    show (if (-1 : Int) < 0 then ((-1 : Int) + (xs.length : Int)).toNat else min (-1 : Int).toNat xs.length) = _
    rw [if_pos (by decide)]
    omega
  rw [e, List.dropLast_eq_take]
theorem e_whole_lines (t : Str) (hl : t.length ≤ 10000000) : f_whole_lines [.str t] = some (.lst (((Txt.split t "\n").dropLast).map D.str)) := by
  refine f_of rfl (w_ret (x_sl (x_M (x_var rfl) (x_cons x_C x_nil) (x_splitM (by decide) (by rw [sizeLine_eq]; omega))) x_no (x_oE (x_f1 x_C x_neg)) (dropL_cut _)) ?_)
  show D.lst _ = D.lst _
  rw [List.map_dropLast]
/-- what a value of a row looks like as text -/
def strD : D → Str
  | .str s => s
  | .int i => Str.ofString (toString i)
  | _ => Str.empty
/-- a value of a row -/
def okV : D → Prop
  | .str s => s.length ≤ 100
  | .int i => 1 ≤ i ∧ i ≤ 1000000000
  | _ => False
theorem e_str {d : D} (h : okV d) : gStr [d] = some (.str (strD d)) := by
  cases d with
  | str s => rfl
  | int i =>
    refine x_str ?_
    have h' : 1 ≤ i ∧ i ≤ 1000000000 := h
    have : i.natAbs ≤ 1000000000 := by omega
    exact Nat.lt_of_lt_of_le ((Nat.log2_lt (by omega)).mpr (show i.natAbs < 2 ^ 30 by omega)) (by decide)
  | _ => exact h.elim
theorem strD_len {d : D} (h : okV d) : (strD d).length ≤ 100 := by
  cases d with
  | str s => exact h
  | int i =>
    have h' : 1 ≤ i ∧ i ≤ 1000000000 := h
    obtain ⟨n, rfl⟩ : ∃ n : Nat, i = n := ⟨i.toNat, by omega⟩
    exact Nat.le_trans (gd_num (n := n) (by omega)).1 (by decide)
  | _ => exact h.elim
theorem strs_map (l : List Str) : D.strs? (l.map D.str) = some l := by
  induction l with
  | nil => rfl
  | cons a l ih =>
    rw [List.map_cons]
    unfold D.strs?
    rw [ih]
    rfl
theorem sum_le {l : List Str} {k : Nat} (h : ∀ s ∈ l, s.length ≤ k) : (l.map (·.length)).sum ≤ l.length * k := by
  induction l with
  | nil => simp
  | cons a l ih =>
    rw [List.map_cons, List.sum_cons, List.length_cons, Nat.succ_mul]
    have := h a (by simp)
    have := ih fun s hs => h s (by simp [hs])
    omega
/-- " ".join([str(v) for v in ..]) -/
theorem e_words {ρ : Rho} {fi : Fs} {vs : List D} {i : Nat} (h1 : fi ρ = some vs) (hi : ρ.length = i + 1) (hv : ∀ d ∈ vs, okV d) (hn : vs.length ≤ 1000) : fM gJoin (fC (.str " ")) (fCons (fLc fi (st1 i) ftYes (fL gStr (fCons (fVar i) fNil)) [i]) fNil) ρ = some (.str (Txt.join " " (vs.map strD))) := by
  have hc : fLc fi (st1 i) ftYes (fL gStr (fCons (fVar i) fNil)) [i] ρ = some (.lst ((vs.map strD).map D.str)) := by
    refine x_lc h1 (by omega) ?_
    have := x_lcGo (xs := vs) (inj := id) (p := fun _ => true) (v := fun d => D.str (strD d)) (ρ := wipeR ρ [i]) (set := st1 i) (ft := ftYes) (f := fL gStr (fCons (fVar i) fNil)) fun z hz => ⟨(wipeR ρ [i]).set i (.val z), rfl, rfl, fun _ => x_L (x_cons (x_var ?_) x_nil) (e_str (hv z hz))⟩
    · rw [List.map_id, List.filter_eq_self.mpr (fun _ _ => rfl)] at this
      rw [this, List.map_map]
      rfl
    · have hl : (wipeR ρ [i]).length = i + 1 := by
        show (ρ.set i .junk).length = i + 1
        rw [List.length_set, hi]
      rw [List.getElem?_set_self (by omega)]
  refine x_M x_C (x_cons hc x_nil) (x_joinL (strs_map _) ?_)
  have h2 : ((vs.map strD).map (·.length)).sum ≤ (vs.map strD).length * 100 := sum_le fun s hs => by
    obtain ⟨d, hd, rfl⟩ := List.mem_map.mp hs
    exact strD_len (hv d hd)
  rw [List.length_map] at h2 ⊢
  have : (" " : Str).length = 1 := by decide
  rw [this]
  omega
theorem e_format_line (vs : List D) (hv : ∀ d ∈ vs, okV d) (hn : vs.length ≤ 1000) : f_format_line [.tup vs] = some (.str (Txt.join " " (vs.map strD))) := f_of rfl (w_ret (e_words (x_I (x_var rfl) rfl) rfl hv hn) rfl)

theorem e_id_of (o : Str) (n : Nat) (ho : o.length ≤ 100000) (hn : n ≤ 1000000000) : f_id_of [.str o, .int (n : Int)] = some (.str (o ++ "-" ++ Str.ofString (toString (n : Int)))) := by
  have e1 : ("-" : Str).length = 1 := by decide +kernel
  have h2 : (Str.ofString (toString (n : Int))).length ≤ 10 := by
    rw [len_tl, tl_num]
    exact numL_len (by decide) (by omega)
  refine f_of rfl (w_ret ?_ rfl)
  refine x_f2 (x_f2 (x_var rfl) x_C (x_addS (by rw [e1, sizeLine_eq]; omega))) (x_L (x_cons (x_var rfl) x_nil) (x_str ?_)) (x_addS ?_)
  · have : (n : Int).natAbs.log2 ≤ 40 := by
      have h3 : (n : Int).natAbs = n := Int.natAbs_natCast n
      rw [h3]
      by_cases h0 : n = 0
      · subst h0; decide
      · have := (Nat.log2_lt h0 (k := 40)).mpr (by omega)
        omega
    omega
  · have e3 : (o ++ ("-" : Str)).length = o.length + 1 := by rw [len_tl, tl_append, List.length_append, ← len_tl, ← len_tl, e1]
    rw [sizeLine_eq]
    show (o ++ ("-" : Str)).length + (Str.ofString (toString (n : Int))).length ≤ _
    omega

local macro_rules | `(tactic| walk_at "rd") => `(tactic| first
  | with_reducible refine v_P rfl ?_
  | (with_reducible refine v_fld ?_; walk_at "rd"; refine ⟨_, _, _, rfl, (by assumption), rfl, ?_⟩)
  | with_reducible refine v_nil ?_
  | (with_reducible refine v_cons ?_; walk_at "rd"; walk_at "rd")
  | (with_reducible refine v_tup ?_; walk_at "rd"; refine ⟨(by rw [sizeLine_eq]; simp), ?_⟩)
  | (with_reducible refine v_dget1 ?_; walk_at "rd"; refine ⟨_, _, rfl, (by assumption), ?_⟩; walk_at "rd"; refine ⟨_, _, (by assumption), rfl, ?_⟩)
  | (with_reducible refine v_dget ?_; walk_at "rd"; walk_at "rd"; refine ⟨_, _, _, _, rfl, (by assumption), rfl, (by first | assumption | rfl), ?_⟩)
  | (with_reducible refine v_2 ?_; walk_at "rd"; walk_at "rd"; refine ⟨_, rfl, rfl, ?_⟩)
  | with_reducible refine vt_P rfl ?_
  | (with_reducible refine vt_B ?_; walk_at "rd"; refine ⟨_, rfl, ?_⟩)
  | (with_reducible refine vt_V ?_; walk_at "rd"; refine ⟨_, rfl, ?_⟩))

/-! ### what an office is -/
section
variable {S : Store} {X Y R : List (Nat × Cell)} {n : Nat} {c c' : Cell}
theorem Has.setM (h : Has S (X ++ (n, c) :: Y)) (c' : Cell) : Has (S.set n c') (X ++ (n, c') :: Y) :=
  ((h.perm (List.perm_middle)).set c').perm (List.perm_middle).symm
theorem Has.atM (h : Has S (X ++ (n, c) :: Y)) : S[n]? = some c := h.at_ _ _ (by simp)
end
theorem ev_eqn {α : Type} {m : Option (Res α × Store)} {a : α} {S' : Store} (h : Ev m (fun d S1 => d = a ∧ S1 = S') (fun _ _ => False)) : m = some (.ok a, S') := by
  cases m with
  | none => exact h.elim
  | some p =>
    obtain ⟨r, S1⟩ := p
    cases r with
    | ok b => obtain ⟨e1, e2⟩ := (h : b = a ∧ S1 = S'); rw [e1, e2]
    | er x => exact (h : False).elim
/-- a field is put, the cell foremost -/
theorem vs_fldH {S : Store} {R : List (Nat × Cell)} {n : Nat} {c fl : Str} {fs : List (Str × D)} {d : D} {fp gp : F} {ρ : Rho} {rest : SG} {QG : Fx → Store → Prop} (h : Has S ((n, .ins c fs) :: R)) (hl : fs.length < 1000) (e1 : fp ρ = some d) (e2 : gp ρ = some (.loc n))
    (k : ∀ S', Has S' ((n, .ins c (putD fl d fs)) :: R) → EG (rest ρ S') QG) : EG (gSeq (gFld c fl (mP fp) (mP gp)) rest ρ S) QG :=
  vs_seq (vs_fld (v_P e1 (v_P e2 ⟨n, fs, rfl, h.hd, hl, then_nx (k _ (h.set _))⟩)))
theorem vs_fldE {S : Store} {R : List (Nat × Cell)} {n : Nat} {c fl : Str} {fs : List (Str × D)} {d : D} {fp gp : F} {ρ : Rho} {QG : Fx → Store → Prop} (h : Has S ((n, .ins c fs) :: R)) (hl : fs.length < 1000) (e1 : fp ρ = some d) (e2 : gp ρ = some (.loc n))
    (k : ∀ S', Has S' ((n, .ins c (putD fl d fs)) :: R) → QG (.nx ρ) S') : EG (gFld c fl (mP fp) (mP gp) ρ S) QG :=
  vs_fld (v_P e1 (v_P e2 ⟨n, fs, rfl, h.hd, hl, k _ (h.set _)⟩))
theorem vs_fldD {S : Store} {R : List (Nat × Cell)} {n : Nat} {c fl : Str} {fs : List (Str × D)} {gp : F} {ρ : Rho} {rest : SG} {QG : Fx → Store → Prop} (h : Has S ((n, .ins c fs) :: R)) (hl : fs.length < 1000) (e2 : gp ρ = some (.loc n))
    (k : ∀ S' c0, Has S' ((n, .ins c (putD fl (.loc c0) fs)) :: (c0, .lst []) :: R) → EG (rest ρ S') QG) : EG (gSeq (gFld c fl (mDisp mNil) (mP gp)) rest ρ S) QG :=
  vs_seq (vs_fld (v_disp (v_nil ⟨Nat.zero_le _, v_P e2 ⟨n, fs, rfl, (h.new (.lst [])).f1.hd, hl, then_nx (k _ _ ((h.new (.lst [])).f1.set _))⟩⟩)))
structure Ent where
  thing : Str
  home : D
  quantity : Int
  epoch : Int
  state : Str
  receiver : D
  children : List Str
  recalled : Bool
  received : Bool
  noted : Bool
  paid : Bool
def Ent.new (t : Str) : Ent := ⟨t, .non, 0, 0, "unknown", .non, [], false, false, false, false⟩
def Ent.begin (e : Ent) (h : D) (q ep : Int) : Ent := { e with home := h, quantity := q, epoch := ep, state := "held" }
def entF (e : Ent) (c : Nat) : List (Str × D) := [("thing", .str e.thing), ("home", e.home), ("quantity", .int e.quantity), ("epoch", .int e.epoch), ("state", .str e.state), ("receiver", e.receiver), ("children", .loc c), ("is_recalled", .bool e.recalled), ("is_received", .bool e.received), ("is_noted", .bool e.noted), ("is_paid", .bool e.paid)]
/-- an entry and where it stands -/
structure EntG where
  e : Ent
  loc : Nat
  cloc : Nat
def EntG.cells (x : EntG) : List (Nat × Cell) := [(x.loc, .ins "Entry" (entF x.e x.cloc)), (x.cloc, .lst (x.e.children.map .str))]
structure Bk where
  office : Str
  entries : List Ent
  payments : List (Str × Str × Int)
  credit : Int
  next : Int
structure BkG where
  office : Str
  es : List EntG
  payments : List (Str × Str × Int)
  credit : Int
  next : Int
  loc : Nat
  eloc : Nat
  ploc : Nat
def BkG.pure (b : BkG) : Bk := ⟨b.office, b.es.map (·.e), b.payments, b.credit, b.next⟩
def dictE (es : List EntG) : List (Key × D) := es.map fun x => (.inr x.e.thing, .loc x.loc)
def dictP (l : List (Str × Str × Int)) : List (Key × D) := l.map fun p => (.inr p.1, .tup [.str p.2.1, .int p.2.2])
def bkF (b : BkG) : List (Str × D) := [("office", .str b.office), ("entries", .loc b.eloc), ("payments", .loc b.ploc), ("credit", .int b.credit), ("next_number", .int b.next)]
def entsC (es : List EntG) : List (Nat × Cell) := es.flatMap EntG.cells
def BkG.cells (b : BkG) : List (Nat × Cell) := (b.loc, .ins "Book" (bkF b)) :: (b.eloc, .dct (dictE b.es)) :: (b.ploc, .dct (dictP b.payments)) :: entsC b.es
structure Ofc where
  lines : List Str
  book : Bk
structure OfG where
  lines : List Str
  book : BkG
  loc : Nat
  lloc : Nat
def OfG.pure (o : OfG) : Ofc := ⟨o.lines, o.book.pure⟩
def offF (o : OfG) : List (Str × D) := [("name", .str o.book.office), ("_book", .loc o.book.loc), ("_lines", .loc o.lloc)]
def OfG.cells (o : OfG) : List (Nat × Cell) := (o.loc, .ins "Office" (offF o)) :: (o.lloc, .lst (o.lines.map .str)) :: o.book.cells
def findE (t : Str) (es : List EntG) : Option EntG := es.find? fun x => decide (x.e.thing = t)
theorem valK_dictE (t : Str) : ∀ es : List EntG, valK (dictE es) (.inr t) = (findE t es).map fun x => .loc x.loc
  | [] => rfl
  | x :: es => by
    unfold valK findE dictE
    rw [List.map_cons, List.find?_cons, List.find?_cons]
    by_cases h : x.e.thing = t
    · have : decide ((Sum.inr x.e.thing : Key) = .inr t) = true := by simp [h]
      simp only [this, h, decide_true]
      rfl
    · have : decide ((Sum.inr x.e.thing : Key) = .inr t) = false := by simp [h]
      simp only [this, h, decide_false]
      exact valK_dictE t es
theorem findE_some {t : Str} {es : List EntG} {x : EntG} (h : findE t es = some x) : x ∈ es ∧ x.e.thing = t := by
  unfold findE at h
  exact ⟨List.mem_of_find?_eq_some h, by simpa using List.find?_some h⟩
theorem findE_split {t : Str} {es : List EntG} {x : EntG} (h : findE t es = some x) : ∃ A B, es = A ++ x :: B ∧ x.e.thing = t ∧ ∀ y ∈ A, y.e.thing ≠ t := by
  unfold findE at h
  obtain ⟨h1, A, B, h2, h3⟩ := List.find?_eq_some_iff_append.mp h
  exact ⟨A, B, h2, by simpa using h1, fun y hy => by simpa using h3 y hy⟩
theorem putDk_new {kv : List (Key × D)} {k : Key} {d : D} (h : valK kv k = none) : putDk kv k d = kv ++ [(k, d)] := by
  unfold putDk
  rw [if_neg]
  intro z
  obtain ⟨p, hp, hk⟩ := List.any_eq_true.mp z
  unfold valK at h
  rw [Option.map_eq_none_iff, List.find?_eq_none] at h
  exact h p hp hk
section
variable {S : Store} {R : List (Nat × Cell)} {b : BkG} {o : OfG} {x : EntG} {t : Str} {E : Exn → Store → Prop}
theorem BkG.mem_ent (hx : x ∈ b.es) : (x.loc, Cell.ins "Entry" (entF x.e x.cloc)) ∈ b.cells ∧ (x.cloc, Cell.lst (x.e.children.map .str)) ∈ b.cells := by
  unfold BkG.cells
  refine ⟨?_, ?_⟩ <;> refine List.mem_cons_of_mem _ (List.mem_cons_of_mem _ (List.mem_cons_of_mem _ (List.mem_flatMap.mpr ⟨x, hx, ?_⟩))) <;> simp [EntG.cells]
theorem bk_at (h : Has S (b.cells ++ R)) : S[b.loc]? = some (.ins "Book" (bkF b)) ∧ S[b.eloc]? = some (.dct (dictE b.es)) ∧ S[b.ploc]? = some (.dct (dictP b.payments)) :=
  ⟨h.at_ _ _ (by simp [BkG.cells]), h.at_ _ _ (by simp [BkG.cells]), h.at_ _ _ (by simp [BkG.cells])⟩
theorem ent_at (h : Has S (b.cells ++ R)) (hx : x ∈ b.es) : S[x.loc]? = some (.ins "Entry" (entF x.e x.cloc)) ∧ S[x.cloc]? = some (.lst (x.e.children.map .str)) :=
  ⟨h.at_ _ _ (List.mem_append_left _ (BkG.mem_ent hx).1), h.at_ _ _ (List.mem_append_left _ (BkG.mem_ent hx).2)⟩
theorem off_at (h : Has S (o.cells ++ R)) : S[o.loc]? = some (.ins "Office" (offF o)) ∧ S[o.lloc]? = some (.lst (o.lines.map .str)) := ⟨h.at_ _ _ (by simp [OfG.cells]), h.at_ _ _ (by simp [OfG.cells])⟩
/-- the office's book, the rest beside it -/
theorem off_bk (h : Has S (o.cells ++ R)) : Has S (o.book.cells ++ ((o.loc, .ins "Office" (offF o)) :: (o.lloc, .lst (o.lines.map .str)) :: R)) := h.perm (by
  unfold OfG.cells
  simp only [List.cons_append]
  exact (((List.perm_middle (l₁ := o.book.cells)).trans ((List.perm_middle (l₁ := o.book.cells)).cons _))).symm)
theorem bk_off {b' : BkG} (hl : b'.loc = o.book.loc) (ho : b'.office = o.book.office) (h : Has S (b'.cells ++ ((o.loc, .ins "Office" (offF o)) :: (o.lloc, .lst (o.lines.map .str)) :: R))) : Has S (({ o with book := b' } : OfG).cells ++ R) := h.perm (by
  unfold OfG.cells
  have e : offF { o with book := b' } = offF o := by unfold offF; rw [hl, ho]
  simp only [List.cons_append]
  rw [e]
  exact ((List.perm_middle (l₁ := b'.cells)).trans ((List.perm_middle (l₁ := b'.cells)).cons _)))
theorem t_entry (h : Has S (b.cells ++ R)) : f_Book_entry [.loc b.loc, .str t] S = some (.ok (match findE t b.es with | some x => .loc x.loc | none => .non), S) := by
  obtain ⟨h1, h2, h3⟩ := bk_at h
  refine ev_eqn (ev_def rfl ?_)
  refine vs_ret ?_
  walk_at "rd"
  refine ⟨?_, rfl⟩
  rw [valK_dictE]
  cases findE t b.es <;> rfl
def Ent.told (e : Ent) : D := .tup [.str e.thing, e.home, .int e.quantity, .int e.epoch, .str e.state, e.receiver, .bool e.recalled]
theorem t_told {n c : Nat} {e : Ent} (h : S[n]? = some (.ins "Entry" (entF e c))) : f_Entry_told [.loc n] S = some (.ok e.told, S) := by
  refine ev_eqn (ev_def rfl ?_)
  refine vs_ret ?_
  walk_at "rd"
  exact ⟨rfl, rfl⟩
theorem t_init {n : Nat} (h : Has S ((n, .ins "Entry" []) :: R)) : Ev (f_Entry_init [.loc n, .str t] S) (fun d S' => d = .non ∧ ∃ c, Has S' ((n, .ins "Entry" (entF (Ent.new t) c)) :: (c, .lst []) :: R)) E := by
  refine ev_def rfl ?_
  refine vs_fldH h (Nat.le_of_ble_eq_true rfl) rfl rfl fun S1 h => ?_
  refine vs_fldH h (Nat.le_of_ble_eq_true rfl) rfl rfl fun S1 h => ?_
  refine vs_fldH h (Nat.le_of_ble_eq_true rfl) rfl rfl fun S1 h => ?_
  refine vs_fldH h (Nat.le_of_ble_eq_true rfl) rfl rfl fun S1 h => ?_
  refine vs_fldH h (Nat.le_of_ble_eq_true rfl) rfl rfl fun S1 h => ?_
  refine vs_fldH h (Nat.le_of_ble_eq_true rfl) rfl rfl fun S1 h => ?_
  refine vs_fldD h (Nat.le_of_ble_eq_true rfl) rfl fun S1 c0 h => ?_
  refine vs_fldH h (Nat.le_of_ble_eq_true rfl) rfl rfl fun S2 h => ?_
  refine vs_fldH h (Nat.le_of_ble_eq_true rfl) rfl rfl fun S2 h => ?_
  refine vs_fldH h (Nat.le_of_ble_eq_true rfl) rfl rfl fun S2 h => ?_
  refine vs_fldE h (Nat.le_of_ble_eq_true rfl) rfl rfl fun S2 h => ?_
  exact ⟨rfl, _, h⟩
theorem t_begin {n c : Nat} {e : Ent} {hm : D} {q ep : Int} (h : Has S ((n, .ins "Entry" (entF e c)) :: R)) : Ev (f_Entry_begin [.loc n, hm, .int q, .int ep] S) (fun d S' => d = .non ∧ Has S' ((n, .ins "Entry" (entF (e.begin hm q ep) c)) :: R)) E := by
  refine ev_def rfl ?_
  refine vs_fldH h (Nat.le_of_ble_eq_true rfl) rfl rfl fun S1 h => ?_
  refine vs_fldH h (Nat.le_of_ble_eq_true rfl) rfl rfl fun S1 h => ?_
  refine vs_fldH h (Nat.le_of_ble_eq_true rfl) rfl rfl fun S1 h => ?_
  refine vs_fldE h (Nat.le_of_ble_eq_true rfl) rfl rfl fun S1 h => ?_
  exact ⟨rfl, h⟩
end

def entNew (t : Str) (hm : D) (q : Int) : Ent := (Ent.new t).begin hm q 1
def BkG.add (b : BkG) (x : EntG) : BkG := { b with es := b.es ++ [x], next := b.next + 1 }
theorem entsC_app (a b : List EntG) : entsC (a ++ b) = entsC a ++ entsC b := by unfold entsC; rw [List.flatMap_append]
theorem dictE_app (a b : List EntG) : dictE (a ++ b) = dictE a ++ dictE b := by unfold dictE; rw [List.map_append]
section
variable {S : Store} {R : List (Nat × Cell)} {b : BkG} {o : OfG} {x : EntG} {t : Str} {E : Exn → Store → Prop}
theorem t_pbegin {hm : D} {q : Int} (h : Has S (b.cells ++ R)) (ht : findE t b.es = none) (hz : b.es.length < 100000) : Ev (f_Book_pbegin [.loc b.loc, .str t, hm, .int q] S) (fun d S' => d = .non ∧ ∃ l c, Has S' ((b.add ⟨entNew t hm q, l, c⟩).cells ++ R)) E := by
  refine ev_def rfl (vs_seq (vs_asg (v_make (v_cons (v_P rfl (v_nil ?_))))))
  refine (t_init (E := fun _ _ => False) (h.new (.ins "Entry" []))).mono (fun d S1 ⟨hd, c, h1⟩ => ⟨hd, _, rfl, then_nx ?_⟩) (fun _ _ q => q.elim)
  refine vs_seq (vs_drop (v_meth (v_P rfl ⟨S.length, _, rfl, h1.hd, rfl, v_cons (v_P rfl (v_cons (v_P rfl (v_cons (v_P rfl (v_nil ?_))))))⟩)))
  refine (t_begin (E := fun _ _ => False) h1).mono (fun d S2 ⟨hd, h2⟩ => then_nx ?_) (fun _ _ q => q.elim)
  obtain ⟨k1, k2, k3⟩ := bk_at h2.tail.tail
  have hv : valK (dictE b.es) (.inr t) = none := by rw [valK_dictE, ht]; rfl
  refine vs_seq (vs_dput (v_P rfl (v_fld (v_P rfl ⟨_, _, _, rfl, k1, rfl, v_P rfl ⟨b.eloc, dictE b.es, .inr t, rfl, k2, rfl, by unfold dictE; rw [List.length_map, sizeLine_eq]; omega, then_nx ?_⟩⟩))))
  have h3 := Has.setM (X := [(S.length, .ins "Entry" (entF ((Ent.new t).begin hm q 1) c)), (c, .lst []), (b.loc, .ins "Book" (bkF b))]) h2 (.dct (putDk (dictE b.es) (.inr t) (.loc S.length)))
  rw [putDk_new hv] at h3
  have k4 := h3.at_ b.loc (.ins "Book" (bkF b)) (by simp)
  refine vs_fld (v_2 (v_fld (v_P rfl ⟨_, _, _, rfl, by rw [putDk_new hv]; exact k4, rfl, v_P rfl ⟨.int (b.next + 1), rfl, rfl, v_P rfl ⟨_, _, rfl, by rw [putDk_new hv]; exact k4, Nat.le_of_ble_eq_true rfl, ?_⟩⟩⟩)))
  rw [putDk_new hv]
  have h4 := Has.setM (X := [(S.length, .ins "Entry" (entF ((Ent.new t).begin hm q 1) c)), (c, .lst [])]) h3 (.ins "Book" (putD "next_number" (.int (b.next + 1)) (bkF b)))
  refine ⟨rfl, S.length, c, h4.perm ?_⟩
  have e : (b.add ⟨entNew t hm q, S.length, c⟩).cells = (b.loc, Cell.ins "Book" (putD "next_number" (.int (b.next + 1)) (bkF b))) :: (b.eloc, .dct (dictE b.es ++ [(.inr t, .loc S.length)])) :: (b.ploc, .dct (dictP b.payments)) :: (entsC b.es ++ [(S.length, .ins "Entry" (entF ((Ent.new t).begin hm q 1) c)), (c, .lst [])]) := by
    show _ :: (_, Cell.dct (dictE (b.es ++ [_]))) :: _ :: entsC (b.es ++ [_]) = _
    rw [entsC_app, dictE_app]
    rfl
  rw [e]
  simp only [List.cons_append, List.append_assoc, List.nil_append]
  exact (List.perm_append_comm_assoc [_, _] [_, _, _] (entsC b.es ++ R)).trans (List.Perm.append_left _ (List.perm_append_comm_assoc [_, _] (entsC b.es) R))
end

section
variable {Q : D → Store → Prop} {E : Exn → Store → Prop} {ρ : Rho} {S : Store} {fi : SFi} {fe : SF} {ft : SFt} {set : D → Rho → Option Rho} {vs : List Nat}
/-- a turn of a comprehension that changes nothing: what it yields -/
def Turn1 (set : D → Rho → Option Rho) (ft : SFt) (fe : SF) (ρ : Rho) (S : Store) (d : D) (o : Option D) : Prop := ∃ ρ', set d ρ = some ρ' ∧ match o with
  | some y => ft ρ' S = some (.ok true, S) ∧ fe ρ' S = some (.ok y, S)
  | none => ft ρ' S = some (.ok false, S)
theorem set_end {S : Store} {c c' : Cell} : (S ++ [c]).set S.length c' = S ++ [c'] := by
  rw [List.set_append_right _ _ (Nat.le_refl _), Nat.sub_self]
  rfl
theorem get_end {S : Store} {c : Cell} : (S ++ [c])[S.length]? = some c := by
  rw [List.getElem?_append_right (Nat.le_refl _), Nat.sub_self]
  rfl
theorem goL_pick {chk : Store → Prop} (pick : D → Option D) : ∀ (ds acc : List D), acc.length + ds.length ≤ sizeLine → (∀ acc, chk (S ++ [.lst acc])) → (∀ d ∈ ds, ∀ acc, Turn1 set ft fe ρ (S ++ [.lst acc]) d (pick d)) →
    goL S.length chk set ft fe ρ ds (S ++ [.lst acc]) = some (S ++ [.lst (acc ++ ds.filterMap pick)])
  | [], acc, _, hc, _ => by
    unfold goL
    rw [if_pos (hc acc)]
    simp
  | d :: ds, acc, hl, hc, h => by
    unfold goL
    rw [if_pos (hc acc)]
    obtain ⟨ρ', h1, h2⟩ := h d (by simp) acc
    rw [h1, b1_some]
    rw [List.length_cons] at hl
    cases q : pick d with
    | none =>
      rw [q] at h2
      simp only at h2
      rw [h2]
      simp only [Bool.false_eq_true, if_false]
      rw [goL_pick pick ds acc (by omega) hc fun e he => h e (List.mem_cons_of_mem _ he), List.filterMap_cons, q]
    | some y =>
      rw [q] at h2
      obtain ⟨h2, h3⟩ := h2
      rw [h2]
      simp only [if_true]
      rw [h3]
      simp only [get_end]
      rw [if_pos (by omega), set_end, goL_pick pick ds (acc ++ [y]) (by rw [List.length_append, List.length_singleton]; omega) hc fun e he => h e (List.mem_cons_of_mem _ he), List.filterMap_cons, q, List.append_assoc]
      rfl
theorem v_lcp (h : Ev (fi ρ S) (fun p S1 => ∃ pick : D → Option D, p.1.length ≤ sizeLine ∧ (∀ acc, p.2 (S1 ++ [.lst acc])) ∧ (∀ d ∈ p.1, ∀ acc, Turn1 set ft fe (wipeR ρ vs) (S1 ++ [.lst acc]) d (pick d)) ∧ Q (.loc S1.length) (S1 ++ [.lst (p.1.filterMap pick)])) E) : Ev (mLc fi set ft fe vs ρ S) Q E :=
  v_lc (h.mono (fun p S1 ⟨pick, h1, h2, h3, q⟩ => ⟨_, goL_pick pick p.1 [] (by simpa using h1) h2 h3, by simpa using q⟩) fun _ _ e => e)
theorem fm_map {α β : Type} (f : α → β) (l : List α) (p : β → Option γ) (g : α → γ) (h : ∀ x ∈ l, p (f x) = some (g x)) : (l.map f).filterMap p = l.map g := by
  induction l with
  | nil => rfl
  | cons a l ih =>
    rw [List.map_cons, List.filterMap_cons, h a (by simp), ih fun x hx => h x (List.mem_cons_of_mem _ hx)]
    rfl
end
def idOf (o : Str) (n : Int) : Str := o ++ "-" ++ Str.ofString (toString n)
def BkG.ids (b : BkG) (k : Nat) : List Str := (List.range k).map fun i => idOf b.office (b.next + (i : Nat))
structure BkOk (b : BkG) : Prop where
  off : b.office.length ≤ 12
  nx1 : 1 ≤ b.next
  nx2 : b.next ≤ 100000000
  len : b.es.length ≤ 90000
section
variable {S : Store} {R : List (Nat × Cell)} {b : BkG} {o : OfG} {x : EntG} {t : Str} {E : Exn → Store → Prop}
theorem e_idOf {nm : Str} {n : Int} (h : nm.length ≤ 12) (h1 : 0 ≤ n) (h2 : n ≤ 1000000000) : f_id_of [.str nm, .int n] = some (.str (idOf nm n)) := by
  obtain ⟨m, rfl⟩ : ∃ m : Nat, n = m := ⟨n.toNat, by omega⟩
  exact e_id_of nm m (by omega) (by omega)
theorem rngN (k : Nat) (hk : k ≤ 1000) : itR1 [.int (k : Int)] = some (rngD 0 k) := by
  have e : itR1 [.int (k : Int)] = @ite _ (-(2 ^ 62) ≤ (k : Int) ∧ (k : Int) < 2 ^ 62) (decR k) (some (rngD 0 (k : Int).toNat)) none := rfl
  rw [e, if_pos ⟨by omega, by omega⟩, Int.toNat_natCast]
theorem t_new_ids {k : Nat} {kk : Int} (ek : kk = k) (hb : BkOk b) (hk : k ≤ 1000) (h : Has S (b.cells ++ R)) : f_Book_new_ids [.loc b.loc, .int kk] S = some (.ok (.loc S.length), S ++ [.lst ((b.ids k).map .str)]) := by
  have hfi : fIs itR1 (fCons (fVar 1) fNil) (rho0 N_Book_new_ids [.loc b.loc, .int kk]) = some (rngD 0 k) := by subst ek; exact x_Is (x_cons (x_var rfl) x_nil) (rngN k hk)
  refine ev_eqn ?_
  refine ev_def rfl ?_
  refine vs_ret ?_
  refine v_lcp ?_
  refine v_iP hfi ?_
  refine ⟨fun d => match d with
      | .int i => some (.str (idOf b.office (b.next + i)))
      | _ => none, ?_, fun _ => trivial, fun d hd acc => ?_, ?_⟩
  · show (rngD 0 k).length ≤ _
    unfold rngD
    rw [List.length_map, List.length_range, sizeLine_eq]
    omega
  · obtain ⟨i, hi, rfl⟩ : ∃ i : Nat, i < k ∧ d = .int (0 + (i : Nat)) := by
      unfold rngD at hd
      obtain ⟨i, hi, rfl⟩ := List.mem_map.mp hd
      exact ⟨i, by simpa using hi, rfl⟩
    refine ⟨_, rfl, rfl, ?_⟩
    obtain ⟨h1, h2, h3⟩ := bk_at (h.ext [.lst acc])
    have z1 := hb.off
    have z2 := hb.nx1
    have z3 := hb.nx2
    refine ev_eqn (v_callP (v_cons (v_fld (v_P rfl ⟨_, _, _, rfl, h1, rfl, v_cons (v_2 (v_fld (v_P rfl ⟨_, _, _, rfl, h1, rfl, v_P rfl ⟨_, rfl, rfl, v_nil ⟨_, e_idOf z1 (by omega) (by omega), rfl, rfl⟩⟩⟩)))⟩))))
  · refine ⟨rfl, ?_⟩
    unfold rngD BkG.ids
    rw [fm_map (f := fun i : Nat => D.int (0 + (i : Nat))) (g := fun i : Nat => D.str (idOf b.office (b.next + (i : Nat)))) _ _ (fun i _ => by simp), List.map_map]
    rfl
theorem view_loc {n : Nat} {c : Str} {fs : List (Str × D)} (h : S[n]? = some (.ins c fs)) : view S (.loc n) = .loc n ∧ isLc S (.loc n) = false := by
  simp only [view, isLc, h, and_self]
theorem strne (a b : Str) : gNe (.str a) (.str b) = some (.bool (!decide (a = b))) := x_neS
/-- the entry of a thing that is free -/
theorem t_free {x : EntG} (h : Has S (o.cells ++ R)) (hf : findE t o.book.es = some x) (hs : x.e.state = "held") (hr : x.e.recalled = false) : f_Office_pfree [.loc o.loc, .str t] S = some (.ok (.loc x.loc), S) := by
  obtain ⟨h1, h2⟩ := off_at h
  have hB := off_bk h
  obtain ⟨hx, ht⟩ := findE_some hf
  obtain ⟨k1, k2⟩ := ent_at hB hx
  have e1 := t_entry (t := t) hB
  rw [hf] at e1
  obtain ⟨b1, b2, b3⟩ := bk_at hB
  obtain ⟨v1, v2⟩ := view_loc k1
  refine ev_eqn (ev_def rfl (vs_seq (vs_asg (v_meth (v_fld (v_P rfl ⟨_, _, _, rfl, h1, rfl, _, _, rfl, b1, rfl, v_cons (v_P rfl (v_nil (Ev.ok e1 ⟨_, rfl, then_nx ?_⟩)))⟩))))))
  refine vs_seq (vs_if (vt_or (vt_B (v_2 (v_P rfl (v_P rfl ⟨.bool false, by rw [v1]; rfl, rfl, _, rfl, ?_⟩))))))
  refine iteF (vt_B (v_2 (v_fld (v_P rfl ⟨_, _, _, rfl, k1, rfl, v_P rfl ⟨.bool false, ?_, rfl, _, rfl, iteF (vs_nil (then_nx ?_))⟩⟩))))
  · show gNe (.str x.e.state) (.str "held") = _
    rw [strne, hs]
    simp
  · refine vs_seq (vs_if (vt_V (v_fld (v_P rfl ⟨_, _, _, rfl, k1, rfl, false, ?_, iteF (vs_nil (then_nx (vs_ret (v_P rfl ⟨rfl, rfl⟩))))⟩))))
    show (D.bool x.e.recalled).tru = _
    rw [hr]; rfl
theorem t_known (h : Has S (o.cells ++ R)) : f_Office_known [.loc o.loc] S = some (.ok (.loc S.length), S ++ [.lst (o.book.es.map fun x => .str x.e.thing)]) := by
  obtain ⟨h1, h2⟩ := off_at h
  obtain ⟨b1, b2, b3⟩ := bk_at (off_bk h)
  refine ev_eqn (ev_def rfl (vs_ret (v_dkeys (v_fld (v_fld (v_P rfl ⟨_, _, _, rfl, h1, rfl, _, _, _, rfl, b1, rfl, _, _, rfl, b2, rfl, ?_⟩))))))
  unfold dictE
  rw [List.map_map]
  rfl
theorem t_oentry (h : Has S (o.cells ++ R)) : f_Office_entry [.loc o.loc, .str t] S = some (.ok (match findE t o.book.es with | some x => x.e.told | none => .non), S) := by
  obtain ⟨h1, h2⟩ := off_at h
  have hB := off_bk h
  obtain ⟨b1, b2, b3⟩ := bk_at hB
  have e1 := t_entry (t := t) hB
  refine ev_eqn (ev_def rfl (vs_seq (vs_asg (v_meth (v_fld (v_P rfl ⟨_, _, _, rfl, h1, rfl, _, _, rfl, b1, rfl, v_cons (v_P rfl (v_nil (Ev.ok e1 ⟨_, rfl, then_nx ?_⟩)))⟩))))))
  cases hf : findE t o.book.es with
  | none => exact vs_seq (vs_if (vt_B (v_2 (v_P rfl (v_P rfl ⟨.bool true, rfl, rfl, _, rfl, iteT (vs_ret (v_P rfl ⟨rfl, rfl⟩))⟩)))))
  | some x =>
    obtain ⟨hx, ht⟩ := findE_some hf
    obtain ⟨k1, k2⟩ := ent_at hB hx
    obtain ⟨v1, v2⟩ := view_loc k1
    exact vs_seq (vs_if (vt_B (v_2 (v_P rfl (v_P rfl ⟨.bool false, by rw [v1]; rfl, rfl, _, rfl, iteF (vs_nil (then_nx (vs_ret (v_meth (v_P rfl ⟨_, _, rfl, k1, rfl, v_nil (Ev.ok (t_told k1) ⟨rfl, rfl⟩)⟩)))))⟩)))))
end

/-! an entry is changed -/
section
variable {S : Store} {R : List (Nat × Cell)} {b : BkG} {o : OfG} {x : EntG} {t : Str} {E : Exn → Store → Prop} {A B : List EntG}
abbrev BkG.es_ (b : BkG) (es : List EntG) : BkG := { b with es := es }
theorem cells_split : (b.es_ (A ++ x :: B)).cells ++ R = ((b.loc, .ins "Book" (bkF b)) :: (b.eloc, .dct (dictE (A ++ x :: B))) :: (b.ploc, .dct (dictP b.payments)) :: entsC A) ++ (x.loc, .ins "Entry" (entF x.e x.cloc)) :: ((x.cloc, .lst (x.e.children.map .str)) :: (entsC B ++ R)) := by
  show _ :: _ :: _ :: (entsC (A ++ x :: B) ++ R) = _
  rw [entsC_app, List.append_assoc]
  rfl
theorem upd_e {e' : Ent} (h : Has S ((b.es_ (A ++ x :: B)).cells ++ R)) (ht : e'.thing = x.e.thing) (hc : e'.children = x.e.children) : Has (S.set x.loc (.ins "Entry" (entF e' x.cloc))) ((b.es_ (A ++ { x with e := e' } :: B)).cells ++ R) := by
  rw [cells_split] at h ⊢
  have h2 := Has.setM h (.ins "Entry" (entF e' x.cloc))
  have e : dictE (A ++ { x with e := e' } :: B) = dictE (A ++ x :: B) := by
    rw [dictE_app, dictE_app]
    show _ ++ (Sum.inr e'.thing, D.loc x.loc) :: dictE B = _
    rw [ht]
    rfl
  rw [e, hc]
  exact h2
theorem upd_c {l : List Str} (h : Has S ((b.es_ (A ++ x :: B)).cells ++ R)) : Has (S.set x.cloc (.lst (l.map .str))) ((b.es_ (A ++ { x with e := { x.e with children := l } } :: B)).cells ++ R) := by
  rw [cells_split] at h ⊢
  have h2 := Has.setM (X := ((b.loc, .ins "Book" (bkF b)) :: (b.eloc, .dct (dictE (A ++ x :: B))) :: (b.ploc, .dct (dictP b.payments)) :: entsC A) ++ [(x.loc, .ins "Entry" (entF x.e x.cloc))]) (by rw [List.append_assoc]; exact h) (.lst (l.map .str))
  have e : dictE (A ++ { x with e := { x.e with children := l } } :: B) = dictE (A ++ x :: B) := by
    rw [dictE_app, dictE_app]
    rfl
  rw [e]
  rw [List.append_assoc] at h2
  exact h2
theorem ent_at' (h : Has S ((b.es_ (A ++ x :: B)).cells ++ R)) : S[x.loc]? = some (.ins "Entry" (entF x.e x.cloc)) ∧ S[x.cloc]? = some (.lst (x.e.children.map .str)) := ent_at h (b := b.es_ (A ++ x :: B)) (by simp)
end
/-! _split -/
def partsF (ps : List (Str × Int)) : List D := ps.flatMap fun p => [.str p.1, .int p.2]
theorem every2_parts : ∀ ps : List (Str × Int), every2 (partsF ps) = ps.map fun p => .str p.1
  | [] => by simp [partsF, every2]
  | p :: ps => by
    show D.str p.1 :: every2 (partsF ps) = _
    rw [every2_parts ps]
    rfl
theorem every2_cons {α : Type} (x : α) : ∀ l : List α, every2 (x :: l) = x :: every2 (l.drop 1)
  | [] => by simp [every2]
  | y :: r => by simp [every2]
theorem every2_parts2 : ∀ ps : List (Str × Int), every2 ((partsF ps).drop 1) = ps.map fun p => .int p.2
  | [] => by simp [partsF, every2]
  | p :: ps => by
    show every2 (D.int p.2 :: partsF ps) = _
    rw [every2_cons, every2_parts2 ps]
    rfl
theorem zip_parts : ∀ ps : List (Str × Int), D.zipD (ps.map fun p => .str p.1) (ps.map fun p => .int p.2) = ps.map fun p => .tup [.str p.1, .int p.2]
  | [] => rfl
  | p :: ps => by
    show D.tup _ :: D.zipD _ _ = _
    rw [zip_parts ps]
    rfl
theorem atI_1 {α : Type} {a b : α} {l : List α} : atI (a :: b :: l) 1 = some b := by
  have := atI_n (xs := a :: b :: l) (k := 1) (a := b) rfl
  exact this
theorem atI_0 {α : Type} {a : α} {l : List α} : atI (a :: l) 0 = some a := atI_n (xs := a :: l) (k := 0) (a := a) rfl
theorem atI_2 {α : Type} {a b c : α} {l : List α} : atI (a :: b :: c :: l) 2 = some c := atI_n (xs := a :: b :: c :: l) (k := 2) (a := c) rfl
theorem findE_none {t : Str} {es : List EntG} : findE t es = none ↔ ∀ x ∈ es, x.e.thing ≠ t := by
  unfold findE
  rw [List.find?_eq_none]
  exact ⟨fun h x hx z => h x hx (by simpa using z), fun h x hx z => h x hx (by simpa using z)⟩
section
variable {S : Store} {R : List (Nat × Cell)} {b : BkG} {o : OfG} {x : EntG} {t : Str} {E : Exn → Store → Prop} {A B : List EntG}
def splitE (x : EntG) (ids : List Str) : EntG := { x with e := { x.e with state := "split", children := x.e.children ++ ids } }
theorem t_psplit {ps : List (Str × Int)} (h : Has S (b.cells ++ R)) (hs : b.es = A ++ x :: B) (hx : findE t b.es = some x) (hf : ∀ p ∈ ps, findE p.1 b.es = none) (hnd : (ps.map (·.1)).Nodup) (hz : b.es.length + ps.length < 100000) (hc : x.e.children.length + ps.length < 100000) :
    Ev (f_Book_psplit [.loc b.loc, .tup (.str "split" :: .str t :: partsF ps)] S) (fun d S' => d = .non ∧ ∃ news : List EntG, news.map (·.e) = (ps.map fun p => entNew p.1 x.e.home p.2) ∧
      Has S' (({ b with es := A ++ splitE x (ps.map (·.1)) :: (B ++ news), next := b.next + ps.length } : BkG).cells ++ R)) E := by
  obtain ⟨k1, k2, k3⟩ := bk_at h
  have hv : valK (dictE b.es) (.inr t) = some (.loc x.loc) := by rw [valK_dictE, hx]; rfl
  have hix : f2 gIx (fVar 1) (fC (.int 1)) (rho0 N_Book_psplit [.loc b.loc, .tup (.str "split" :: .str t :: partsF ps)]) = some (.str t) := x_f2 (x_var rfl) x_C (x_ixT atI_1)
  refine ev_def rfl ?_
  refine vs_seq (vs_asg (v_dget (v_fld (v_P rfl ⟨_, _, _, rfl, k1, rfl, v_P hix ⟨_, _, _, _, rfl, k2, rfl, hv, _, rfl, then_nx ?_⟩⟩))))
  have h1 : Has S ((b.es_ (A ++ x :: B)).cells ++ R) := by rw [← hs]; exact h
  obtain ⟨j1, j2⟩ := ent_at' h1
  refine vs_seq (vs_fld (v_P rfl (v_P rfl ⟨_, _, rfl, j1, Nat.le_of_ble_eq_true rfl, then_nx ?_⟩)))
  have h2 := upd_e (e' := { x.e with state := "split" }) h1 rfl rfl
  -- the loop
  refine vs_for (v_zT (xs := ps.map fun p => .str p.1) (ys := ps.map fun p => .int p.2) (v_P (d := .tup (ps.map fun p => .str p.1)) (x_f1 (x_var rfl) ?_) (v_P (d := .tup (ps.map fun p => .int p.2)) (x_f1 (x_var rfl) ?_) ⟨rfl, rfl, ?_⟩)))
  · show some (D.tup (every2 (partsF ps))) = _
    rw [every2_parts]
  · show some (D.tup (every2 ((partsF ps).drop 1))) = _
    rw [every2_parts2]
  rw [zip_parts]
  refine go_inv (P := fun lft ρ S' => ∃ (done todo : List (Str × Int)) (news : List EntG) (a c : Sl), ps = done ++ todo ∧ lft = (todo.map fun p => .tup [.str p.1, .int p.2]) ∧ news.map (·.e) = (done.map fun p => entNew p.1 x.e.home p.2) ∧
    ρ = [.val (.loc b.loc), .val (.tup (.str "split" :: .str t :: partsF ps)), .val (.loc x.loc), a, c] ∧ Has S' (({ b with es := A ++ splitE x (done.map (·.1)) :: (B ++ news), next := b.next + done.length } : BkG).cells ++ R)) (fun _ _ _ _ => trivial) ?_ ?_ _ _ _ ⟨[], ps, [], .junk, .junk, rfl, rfl, rfl, rfl, ?_⟩
  · rintro ρ S' ⟨done, todo, news, a, c, e1, e2, e3, e4, e5⟩
    have : todo = [] := by
      cases todo with
      | nil => rfl
      | cons _ _ => cases e2
    subst this
    rw [List.append_nil] at e1
    subst e1
    exact ⟨rfl, news, e3, e5⟩
  · rintro d lft ρ S' ⟨done, todo, news, a, c, e1, e2, e3, e4, e5⟩
    cases todo with
    | nil => cases e2
    | cons p todo =>
      obtain ⟨p1, p2⟩ := p
      cases e2
      subst e4
      have hl : news.length = done.length := by
        have := congrArg List.length e3
        simpa using this
      show EG (b1 (st2 3 4 (.tup [.str p1, .int p2]) _) _) _
      refine EG.mono (Q := fun fl S1 => ∃ a c, fl = .nx [.val (.loc b.loc), .val (.tup (.str "split" :: .str t :: partsF ps)), .val (.loc x.loc), a, c] ∧ ∃ news' : List EntG, news'.map (·.e) = ((done ++ [(p1, p2)]).map fun p => entNew p.1 x.e.home p.2) ∧
        Has S1 (({ b with es := A ++ splitE x ((done ++ [(p1, p2)]).map (·.1)) :: (B ++ news'), next := b.next + (done ++ [(p1, p2)]).length } : BkG).cells ++ R)) ?_ ?_
      · show EG (gSeq _ _ [.val (.loc b.loc), .val (.tup (.str "split" :: .str t :: partsF ps)), .val (.loc x.loc), .val (.str p1), .val (.int p2)] S') _
        obtain ⟨q1, q2⟩ := ent_at' (x := splitE x (done.map (·.1))) (A := A) (B := B ++ news) (b := { b with next := b.next + done.length }) e5
        refine vs_seq (vs_drop (v_app (v_fld (v_P rfl ⟨_, _, _, rfl, q1, rfl, _, _, rfl, q2, v_P rfl ⟨_, q2, ?_, then_nx ?_⟩⟩))))
        · show (List.map D.str (x.e.children ++ done.map (·.1))).length < _
          have : done.length ≤ ps.length := by rw [e1]; simp
          rw [List.length_map, List.length_append, List.length_map, sizeLine_eq]
          omega
        have e6 := upd_c (x := splitE x (done.map (·.1))) (A := A) (B := B ++ news) (b := { b with next := b.next + done.length }) (l := x.e.children ++ done.map (·.1) ++ [p1]) e5
        have e7 : ((splitE x (done.map (·.1))).e.children.map D.str) ++ [D.str p1] = (x.e.children ++ done.map (·.1) ++ [p1]).map D.str := by
          show ((x.e.children ++ done.map (·.1)).map D.str) ++ [D.str p1] = _
          rw [List.map_append (l₁ := x.e.children ++ done.map (·.1))]
          rfl
        rw [e7]
        have e8 : ({ splitE x (done.map (·.1)) with e := { (splitE x (done.map (·.1))).e with children := x.e.children ++ done.map (·.1) ++ [p1] } } : EntG) = splitE x ((done ++ [(p1, p2)]).map (·.1)) := by
          unfold splitE
          rw [List.map_append, List.append_assoc]
          rfl
        rw [e8] at e6
        generalize hS : S'.set (splitE x (done.map (·.1))).cloc (.lst ((x.e.children ++ done.map (·.1) ++ [p1]).map D.str)) = S2 at e6
        obtain ⟨r1, r2⟩ := ent_at' (x := splitE x ((done ++ [(p1, p2)]).map (·.1))) (A := A) (B := B ++ news) (b := { b with next := b.next + done.length }) e6
        have r3 := (bk_at (b := { b with es := A ++ splitE x ((done ++ [(p1, p2)]).map (·.1)) :: (B ++ news), next := b.next + done.length }) e6).1
        refine vs_drop (v_meth (v_P rfl ⟨_, _, rfl, r3, rfl, v_cons (v_P rfl (v_cons (v_fld (v_P rfl ⟨_, _, _, rfl, r1, rfl, v_cons (v_P rfl (v_nil ?_))⟩))))⟩))
        refine (t_pbegin (E := fun _ _ => False) (b := { b with es := A ++ splitE x ((done ++ [(p1, p2)]).map (·.1)) :: (B ++ news), next := b.next + done.length }) (t := p1) (hm := x.e.home) (q := p2) e6 ?_ ?_).mono (fun d S3 ⟨hd, l, c, e9⟩ => ⟨_, _, rfl, news ++ [⟨entNew p1 x.e.home p2, l, c⟩], ?_, ?_⟩) (fun _ _ q => q.elim)
        · rw [findE_none]
          intro y hy
          have hfp := findE_none.mp (hf (p1, p2) (by rw [e1]; simp))
          rcases List.mem_append.mp hy with hy | hy
          · exact hfp y (by rw [hs]; simp [hy])
          rcases List.mem_cons.mp hy with rfl | hy
          · exact hfp x (by rw [hs]; simp)
          rcases List.mem_append.mp hy with hy | hy
          · exact hfp y (by rw [hs]; simp [hy])
          · have : y.e ∈ news.map (·.e) := List.mem_map.mpr ⟨y, hy, rfl⟩
            rw [e3] at this
            obtain ⟨z, hz1, hz2⟩ := List.mem_map.mp this
            rw [← hz2]
            intro hcon
            have hcon : z.1 = p1 := hcon
            rw [e1, List.map_append, List.nodup_append] at hnd
            exact hnd.2.2 z.1 (List.mem_map.mpr ⟨z, hz1, rfl⟩) p1 (by simp) hcon
        · have hle : done.length < ps.length := by rw [e1]; simp
          rw [hs] at hz
          simp only [List.length_append, List.length_cons, hl] at hz ⊢
          omega
        · rw [List.map_append, e3, List.map_append]
          rfl
        · have e10 : (({ b with es := A ++ splitE x ((done ++ [(p1, p2)]).map (·.1)) :: (B ++ news), next := b.next + done.length } : BkG).add ⟨entNew p1 x.e.home p2, l, c⟩) = ({ b with es := A ++ splitE x ((done ++ [(p1, p2)]).map (·.1)) :: (B ++ (news ++ [⟨entNew p1 x.e.home p2, l, c⟩])), next := b.next + (done ++ [(p1, p2)]).length } : BkG) := by
            unfold BkG.add
            simp only [List.append_assoc, List.cons_append, List.length_append, List.length_singleton]
            congr 1
            omega
          rw [← e10]
          exact e9
      · rintro fl S1 ⟨a, c, rfl, news', e6, e7⟩
        exact ⟨done ++ [(p1, p2)], todo, news', a, c, by rw [e1, List.append_assoc]; rfl, rfl, e6, rfl, e7⟩
  · have e : ({ x with e := { x.e with state := "split" } } : EntG) = splitE x ([].map (·.1 : Str × Int → Str)) := by unfold splitE; simp
    rw [e] at h2
    have e2 : (b.es_ (A ++ splitE x ([].map (·.1 : Str × Int → Str)) :: B)) = ({ b with es := A ++ splitE x ([].map (·.1 : Str × Int → Str)) :: (B ++ []), next := b.next + ([] : List (Str × Int)).length } : BkG) := by simp
    rw [e2] at h2
    exact h2
end

/-! _join -/
def joinedE (new : Str) (y : EntG) : EntG := { y with e := { y.e with state := "joined", children := y.e.children ++ [new] } }
/-- the entries of these things are joined into new -/
def joinES (es : List EntG) (new : Str) (ts : List Str) : List EntG := es.map fun y => if y.e.thing ∈ ts then joinedE new y else y
def sumQ (es : List EntG) (ts : List Str) : Int := (ts.map fun t => match findE t es with | some y => y.e.quantity | none => 0).sum
def KeyNd (es : List EntG) : Prop := (es.map (·.e.thing)).Nodup
theorem joinES_thing (es : List EntG) (new : Str) (ts : List Str) : (joinES es new ts).map (·.e.thing) = es.map (·.e.thing) := by
  unfold joinES
  rw [List.map_map]
  congr 1
  funext y
  show (if y.e.thing ∈ ts then joinedE new y else y).e.thing = _
  split <;> rfl
theorem findE_map {t : Str} {f : EntG → EntG} (hf : ∀ y, (f y).e.thing = y.e.thing) : ∀ es : List EntG, findE t (es.map f) = (findE t es).map f
  | [] => rfl
  | y :: es => by
    unfold findE
    rw [List.map_cons, List.find?_cons, List.find?_cons, hf]
    by_cases h : y.e.thing = t
    · simp [h]
    · simp only [h, decide_false]
      exact findE_map hf es
theorem joinES_f (new : Str) (ts : List Str) (y : EntG) : (if y.e.thing ∈ ts then joinedE new y else y).e.thing = y.e.thing := by split <;> rfl
theorem joinES_snoc {es : List EntG} {new : Str} {ts : List Str} {t : Str} {x : EntG} (hnd : KeyNd es) (hx : findE t es = some x) (ht : t ∉ ts) : ∃ A B, joinES es new ts = A ++ x :: B ∧ joinES es new (ts ++ [t]) = A ++ joinedE new x :: B := by
  obtain ⟨A, B, h1, h2, h3⟩ := findE_split hx
  have hB : ∀ y ∈ B, y.e.thing ≠ t := fun y hy z => by
    unfold KeyNd at hnd
    rw [h1, List.map_append, List.map_cons, List.nodup_append] at hnd
    have := (List.nodup_cons.mp hnd.2.1).1
    rw [h2] at this
    exact this (List.mem_map.mpr ⟨y, hy, z⟩)
  have hx' : x.e.thing ∉ ts := by rw [h2]; exact ht
  have same : ∀ l : List EntG, (∀ y ∈ l, y.e.thing ≠ t) → joinES l new (ts ++ [t]) = joinES l new ts := fun l hl => by
    unfold joinES
    refine List.map_congr_left fun y hy => ?_
    have : (y.e.thing ∈ ts ++ [t]) ↔ y.e.thing ∈ ts := by simp [hl y hy]
    by_cases h : y.e.thing ∈ ts
    · rw [if_pos h, if_pos (this.mpr h)]
    · rw [if_neg h, if_neg (fun z => h (this.mp z))]
  refine ⟨joinES A new ts, joinES B new ts, ?_, ?_⟩
  · rw [h1]
    unfold joinES
    rw [List.map_append, List.map_cons, if_neg hx']
  · rw [h1]
    show joinES (A ++ x :: B) new (ts ++ [t]) = _
    rw [← same A h3, ← same B hB]
    unfold joinES
    rw [List.map_append, List.map_cons, if_pos (by rw [h2]; simp)]
theorem dropT_from (xs : List D) (k : Nat) (hk : k ≤ xs.length) (h0 : 0 < k) : gSl (.tup xs) (some (k : Int)) none = some (.tup (xs.drop k)) := by
  have e : HT.sIx xs.length 0 (some (k : Int)) = k := by rw [HT.sIx_nat]; omega
  show some (D.tup (Pd.cutD xs (some (k : Int)) none)) = _
  unfold Pd.cutD
  rw [e, HT.sIx_none, List.take_of_length_le (by rw [List.length_drop]; omega)]
section
variable {S : Store} {R : List (Nat × Cell)} {b : BkG} {o : OfG} {x : EntG} {t : Str} {E : Exn → Store → Prop} {A B : List EntG}
theorem t_pjoin {ts : List Str} {new : Str} {hm : D} (h : Has S (b.cells ++ R)) (hk : KeyNd b.es) (hts : ∀ t ∈ ts, ∃ x, findE t b.es = some x ∧ x.e.home = hm ∧ x.e.children.length < 90000) (hnd : ts.Nodup) (h2 : 1 ≤ ts.length) (hl : ts.length ≤ 1000) (hn : findE new b.es = none) (hz : b.es.length < 100000) :
    Ev (f_Book_pjoin [.loc b.loc, .tup (.str "join" :: .str new :: ts.map .str)] S) (fun d S' => d = .non ∧ ∃ l c, Has S' (({ b with es := joinES b.es new ts ++ [⟨entNew new hm (sumQ b.es ts), l, c⟩], next := b.next + 1 } : BkG).cells ++ R)) E := by
  have hsl : fSl (fVar 1) (foE (fC (.int 2))) foNo [.val (.loc b.loc), .val (.tup (.str "join" :: .str new :: ts.map .str)), .val (.int 0), .junk, .junk] = some (.tup (ts.map .str)) := by
    refine x_sl (x_var rfl) (x_oE x_C) x_no ?_
    have := dropT_from (.str "join" :: .str new :: ts.map .str) 2 (by simp) (by decide)
    exact this
  refine ev_def rfl ?_
  refine vs_seq (vs_asg (v_P rfl ⟨_, rfl, then_nx ?_⟩))
  refine vs_seq (vs_for (v_iP (ds := ts.map .str) (x_I hsl rfl) ?_))
  refine go_inv (P := fun lft ρ S' => ∃ (done todo : List Str) (a c : Sl), ts = done ++ todo ∧ lft = todo.map .str ∧
    ρ = [.val (.loc b.loc), .val (.tup (.str "join" :: .str new :: ts.map .str)), .val (.int (sumQ b.es done)), a, c] ∧ Has S' ((b.es_ (joinES b.es new done)).cells ++ R)) (fun _ _ _ _ => trivial) ?_ ?_ _ _ _ ⟨[], ts, .junk, .junk, rfl, rfl, rfl, ?_⟩
  · rintro ρ S' ⟨done, todo, a, c, e1, e2, e4, e5⟩
    have : todo = [] := by
      cases todo with
      | nil => rfl
      | cons _ _ => cases e2
    subst this
    rw [List.append_nil] at e1
    subst e1 e4
    have hnew : findE new (joinES b.es new ts) = none := by
      unfold joinES
      rw [findE_map (joinES_f new ts), hn]
      rfl
    obtain ⟨t0, ts', rfl⟩ : ∃ t0 ts', ts = t0 :: ts' := by
      cases ts with
      | nil => simp at h2
      | cons t0 ts' => exact ⟨t0, ts', rfl⟩
    obtain ⟨x0, hx0, hh0, _⟩ := hts t0 (by simp)
    have hx1 : findE t0 (joinES b.es new (t0 :: ts')) = some (joinedE new x0) := by
      unfold joinES
      rw [findE_map (joinES_f new _), hx0]
      show some (if x0.e.thing ∈ t0 :: ts' then joinedE new x0 else x0) = _
      rw [if_pos (by rw [(findE_some hx0).2]; simp)]
    obtain ⟨k1, k2, k3⟩ := bk_at e5
    obtain ⟨m1, m2⟩ := findE_some hx1
    obtain ⟨j1, j2⟩ := ent_at e5 m1
    have hv : valK (dictE (joinES b.es new (t0 :: ts'))) (.inr t0) = some (.loc (joinedE new x0).loc) := by rw [valK_dictE, hx1]; rfl
    refine vs_drop (v_meth (v_P rfl ⟨_, _, rfl, k1, rfl, v_cons (v_P (x_f2 (x_var rfl) x_C (x_ixT atI_1)) (v_cons (v_fld (v_dget (v_fld (v_P rfl ⟨_, _, _, rfl, k1, rfl, v_P (x_f2 (x_var rfl) x_C (x_ixT atI_2)) ⟨_, _, _, _, rfl, k2, rfl, hv, _, _, _, rfl, j1, rfl, v_cons (v_P rfl (v_nil ?_))⟩⟩))))))⟩))
    refine (t_pbegin (E := fun _ _ => False) (b := b.es_ (joinES b.es new (t0 :: ts'))) (t := new) (hm := x0.e.home) (q := sumQ b.es (t0 :: ts')) e5 hnew (by unfold joinES; simpa using hz)).mono (fun d S3 ⟨hd, l, c, e9⟩ => ⟨rfl, l, c, ?_⟩) (fun _ _ q => q.elim)
    rw [hh0] at e9
    exact e9
  · rintro d lft ρ S' ⟨done, todo, a, c, e1, e2, e4, e5⟩
    cases todo with
    | nil => cases e2
    | cons t todo =>
      cases e2
      subst e4
      have htd : t ∉ done := fun z => by
        rw [e1, List.nodup_append] at hnd
        exact hnd.2.2 t z t (by simp) rfl
      obtain ⟨x, hx, hh, hc⟩ := hts t (by rw [e1]; simp)
      obtain ⟨A, B, s1, s2⟩ := joinES_snoc (new := new) hk hx htd
      have hx1 : findE t (joinES b.es new done) = some x := by
        unfold joinES
        rw [findE_map (joinES_f new done), hx]
        show some (if x.e.thing ∈ done then joinedE new x else x) = _
        rw [if_neg (by rw [(findE_some hx).2]; exact htd)]
      have hv : valK (dictE (joinES b.es new done)) (.inr t) = some (.loc x.loc) := by rw [valK_dictE, hx1]; rfl
      obtain ⟨k1, k2, k3⟩ := bk_at e5
      refine EG.mono (Q := fun fl S1 => ∃ a c, fl = .nx [.val (.loc b.loc), .val (.tup (.str "join" :: .str new :: ts.map .str)), .val (.int (sumQ b.es (done ++ [t]))), a, c] ∧ Has S1 ((b.es_ (joinES b.es new (done ++ [t]))).cells ++ R)) ?_ ?_
      · show EG (gSeq _ _ [.val (.loc b.loc), .val (.tup (.str "join" :: .str new :: ts.map .str)), .val (.int (sumQ b.es done)), .val (.str t), c] S') _
        refine vs_seq (vs_asg (v_dget (v_fld (v_P rfl ⟨_, _, _, rfl, k1, rfl, v_P rfl ⟨_, _, _, _, rfl, k2, rfl, hv, _, rfl, then_nx ?_⟩⟩))))
        rw [s1] at e5
        obtain ⟨j1, j2⟩ := ent_at' e5
        refine vs_seq (vs_fld (v_P rfl (v_P rfl ⟨_, _, rfl, j1, Nat.le_of_ble_eq_true rfl, then_nx ?_⟩)))
        have h3 := upd_e (e' := { x.e with state := "joined" }) e5 rfl rfl
        obtain ⟨j3, j4⟩ := ent_at' h3
        refine vs_seq (vs_drop (v_app (v_fld (v_P rfl ⟨_, _, _, rfl, j3, rfl, _, _, rfl, j4, v_P (x_f2 (x_var rfl) x_C (x_ixT atI_1)) ⟨_, j4, ?_, then_nx ?_⟩⟩))))
        · show (x.e.children.map D.str).length < _
          rw [List.length_map, sizeLine_eq]
          omega
        have h4 := upd_c (l := x.e.children ++ [new]) h3
        have e7 : (x.e.children.map D.str) ++ [D.str new] = (x.e.children ++ [new]).map D.str := by rw [List.map_append]; rfl
        have j5 := (ent_at' h4).1
        refine vs_asg (v_2 (v_P rfl (v_fld (v_P rfl ⟨_, _, _, rfl, by rw [← e7] at j5; exact j5, rfl, .int (sumQ b.es (done ++ [t])), ?_, rfl, _, rfl, _, _, rfl, ?_⟩))))
        · show gAdd (.int (sumQ b.es done)) (.int x.e.quantity) = _
          unfold sumQ
          rw [List.map_append, List.sum_append]
          simp only [List.map_cons, List.map_nil, List.sum_cons, List.sum_nil, hx, Int.add_zero]
          exact x_add
        · rw [s2]
          rw [← e7] at h4
          exact h4
      · rintro fl S1 ⟨a, c, rfl, e7⟩
        exact ⟨done ++ [t], todo, a, c, by rw [e1, List.append_assoc]; rfl, rfl, rfl, e7⟩
  · have e : b.es_ (joinES b.es new []) = b := by
      unfold joinES
      simp
    rw [e]
    exact h
end

theorem ints_map : ∀ l : List Int, D.ints? (l.map D.int) = some l
  | [] => rfl
  | x :: r => by simp only [List.map_cons, D.ints?, ints_map r]; rfl
theorem gSum_of (l : List Int) : gSum [.lst (l.map D.int)] = some (.int l.sum) := by
  show (D.ints? (l.map D.int)).map _ = _
  rw [ints_map]; rfl
section
variable {S : Store} {R : List (Nat × Cell)} {b : BkG} {o : OfG} {x : EntG} {t : Str} {E : Exn → Store → Prop} {A B : List EntG}
theorem findE_self : ∀ {es : List EntG}, KeyNd es → ∀ x ∈ es, findE x.e.thing es = some x
  | [], _, x, hx => by cases hx
  | y :: es, h, x, hx => by
    unfold KeyNd at h
    rw [List.map_cons, List.nodup_cons] at h
    unfold findE
    rw [List.find?_cons]
    rcases List.mem_cons.mp hx with rfl | hx
    · simp
    · have : y.e.thing ≠ x.e.thing := fun z => h.1 (z ▸ List.mem_map.mpr ⟨x, hx, rfl⟩)
      simp only [this, decide_false]
      exact findE_self h.2 x hx
theorem fm_if {α β γ : Type} {f : α → β} {p : β → Option γ} (c : α → Bool) (g : α → γ) : ∀ {l : List α}, (∀ x ∈ l, p (f x) = if c x = true then some (g x) else none) → (l.map f).filterMap p = (l.filter c).map g
  | [], _ => rfl
  | a :: l, h => by
    rw [List.map_cons, List.filterMap_cons, h a (by simp), List.filter_cons]
    have ih := fm_if c g (l := l) fun x hx => h x (List.mem_cons_of_mem _ hx)
    cases c a with
    | true => simp only [if_true]; rw [ih]; rfl
    | false => simp only [Bool.false_eq_true, if_false]; exact ih
def heldE (es : List EntG) : List Str := (es.filter fun x => decide (x.e.state = ("held" : Str))).map (·.e.thing)
theorem t_held (hk : KeyNd o.book.es) (hz : o.book.es.length ≤ 90000) (h : Has S (o.cells ++ R)) : f_Office_held [.loc o.loc] S = some (.ok (.loc (S.length + 1)), S ++ [.lst (o.book.es.map fun x => .str x.e.thing), .lst ((heldE o.book.es).map .str)]) := by
  refine ev_eqn ?_
  refine ev_def rfl ?_
  refine vs_ret ?_
  refine v_lcp ?_
  have hoff := off_at h
  refine v_iL (v_meth (v_P rfl ⟨_, _, rfl, hoff.1, rfl, v_nil (Ev.ok (t_known h) ⟨S.length, _, rfl, get_end, ?_⟩)⟩))
  refine ⟨fun d => match d with
    | .str t => match findE t o.book.es with
      | some x => if x.e.state = "held" then some (.str t) else none
      | none => none
    | _ => none, ?_, fun acc => ?_, fun d hd acc => ?_, ?_⟩
  · rw [List.length_map, sizeLine_eq]; omega
  · show (S ++ [.lst (o.book.es.map fun x => .str x.e.thing)] ++ [.lst acc])[S.length]? = some (.lst (o.book.es.map fun x => .str x.e.thing))
    rw [List.getElem?_append_left (by simp)]
    exact get_end
  · obtain ⟨x, hx, rfl⟩ := List.mem_map.mp hd
    have hf := findE_self hk x hx
    have h2 := (h.ext [.lst (o.book.es.map fun x => .str x.e.thing)]).ext [.lst acc]
    obtain ⟨q1, q2⟩ := off_at h2
    obtain ⟨k1, k2, k3⟩ := bk_at (off_bk h2)
    obtain ⟨j1, j2⟩ := ent_at (off_bk h2) hx
    have hv : valK (dictE o.book.es) (.inr x.e.thing) = some (.loc x.loc) := by rw [valK_dictE, hf]; rfl
    refine ⟨_, rfl, ?_⟩
    have ht : ∀ bb : Bool, decide (x.e.state = "held") = bb → mtB (m2 gEq (mFld "Entry" "state" (mDGet (mFld "Book" "entries" (mFld "Office" "_book" (mP (fVar 0)))) (mP (fVar 1)))) (mP (fC (.str "held")))) [.val (.loc o.loc), .val (.str x.e.thing)] (S ++ [.lst (o.book.es.map fun x => .str x.e.thing)] ++ [.lst acc]) = some (.ok bb, S ++ [.lst (o.book.es.map fun x => .str x.e.thing)] ++ [.lst acc]) := fun bb hbb => by
      refine ev_eqn (vt_B (v_2 (v_fld (v_dget (v_fld (v_fld (v_P rfl ⟨_, _, _, rfl, q1, rfl, _, _, _, rfl, k1, rfl, v_P rfl ⟨_, _, _, _, rfl, k2, rfl, hv, _, _, _, rfl, j1, rfl, v_P rfl ⟨.bool bb, ?_, rfl, _, rfl, rfl, rfl⟩⟩⟩)))))))
      rw [← hbb]
      exact x_eqS
    show match (match findE x.e.thing o.book.es with
      | some x_1 => if x_1.e.state = "held" then some (D.str x.e.thing) else none
      | none => none) with | some y => _ | none => _
    rw [hf]
    by_cases hs : x.e.state = "held"
    · simp only [hs, if_true]
      exact ⟨ht true (by simp [hs]), rfl⟩
    · simp only [hs, if_false]
      exact ht false (by simp [hs])
  · have e : ((o.book.es.map fun x => D.str x.e.thing).filterMap fun d => match d with
      | .str t => match findE t o.book.es with
        | some x => if x.e.state = "held" then some (D.str t) else none
        | none => none
      | _ => none) = (heldE o.book.es).map D.str := by
      unfold heldE
      rw [List.map_map]
      refine fm_if (fun x : EntG => decide (x.e.state = ("held" : Str))) (fun x : EntG => D.str x.e.thing) fun x hx => ?_
      show (match findE x.e.thing o.book.es with
        | some x_1 => if x_1.e.state = "held" then some (D.str x.e.thing) else none
        | none => none) = _
      rw [findE_self hk x hx]
      by_cases hs : x.e.state = "held"
      · simp [hs]
      · simp [hs]
    refine ⟨by rw [List.length_append]; rfl, ?_⟩
    rw [← e, List.append_assoc]
    rfl
/-- a line is written: w its text -/
def OfG.wrote (o : OfG) (w : Str) (b' : BkG) : OfG := { o with lines := o.lines ++ [w], book := b' }
theorem t_write {ln : D} {w : Str} {P : BkG → Prop} (h : Has S (o.cells ++ R)) (hl : o.lines.length < 100000) (hw : f_format_line [ln] = some (.str w)) (hP : ∀ b', P b' → b'.loc = o.book.loc ∧ b'.office = o.book.office)
    (ha : ∀ S' R', Has S' (o.book.cells ++ R') → Ev (f_Book_apply [.loc o.book.loc, ln] S') (fun d S'' => d = .non ∧ ∃ b', P b' ∧ Has S'' (b'.cells ++ R')) (fun _ _ => False)) :
    Ev (f_Office_pwrite [.loc o.loc, ln] S) (fun d S' => d = .non ∧ ∃ b', P b' ∧ Has S' ((o.wrote w b').cells ++ R)) E := by
  obtain ⟨h1, h2⟩ := off_at h
  refine ev_def rfl ?_
  have hw' : fL f_format_line (fCons (fVar 1) fNil) (rho0 N_Office_pwrite [.loc o.loc, ln]) = some (.str w) := x_L (x_cons (x_var rfl) x_nil) hw
  refine vs_seq (vs_drop (v_app (v_fld (v_P rfl ⟨_, _, _, rfl, h1, rfl, _, _, rfl, h2, v_P hw' ⟨_, h2, by rw [List.length_map, sizeLine_eq]; omega, then_nx ?_⟩⟩))))
  have h3 : Has (S.set o.lloc (.lst ((o.lines ++ [w]).map .str))) (({ o with lines := o.lines ++ [w] } : OfG).cells ++ R) := Has.setM (X := [(o.loc, .ins "Office" (offF o))]) h _
  have e : (o.lines.map D.str) ++ [D.str w] = (o.lines ++ [w]).map D.str := by rw [List.map_append]; rfl
  rw [e]
  generalize S.set o.lloc (.lst ((o.lines ++ [w]).map .str)) = S2 at h3
  obtain ⟨k1, k2⟩ := off_at h3
  have hB := off_bk h3
  refine vs_drop (v_meth (v_fld (v_P rfl ⟨_, _, _, rfl, k1, rfl, _, _, rfl, (bk_at hB).1, rfl, v_cons (v_P rfl (v_nil ?_))⟩)))
  refine (ha _ _ hB).mono (fun d S3 ⟨hd, b', hb', h4⟩ => ⟨rfl, b', hb', ?_⟩) (fun _ _ q => q.elim)
  obtain ⟨z1, z2⟩ := hP b' hb'
  exact bk_off (o := { o with lines := o.lines ++ [w] }) z1 z2 h4
theorem t_check {q : Int} (h1 : 1 ≤ q) (h2 : q ≤ 1000000000) : f_check_quantity [.int q] S = some (.ok .non, S) := by
  refine ev_eqn ?_
  refine ev_def rfl ?_
  refine vs_if (vt_P (b := false) ?_ (iteF (vs_nil ⟨rfl, rfl⟩)))
  refine (x_tor (x := false) (y := false) (x_tV (x_f1 (x_var rfl) (x_isi (b := false) rfl)) rfl) fun _ => x_tor (x := false) (y := false) (x_tnot (x := true) (x_tV (x_f1 (x_var rfl) (x_isi (b := true) rfl)) rfl)) fun _ => x_tnot (x := true) (x_tB ?_))
  refine x_chain (a := .int 1) (b := .int q) (c := .int 1000000000) (x := true) (y := true) x_C (by exact x_var rfl) ?_ (fun _ => x_C) fun _ => ?_
  · rw [x_le]; simp [h1]
  · rw [x_le]; simp [h2]
end

theorem vs_eqT {w v : Str} {fp : F} {ρ : Rho} {S : Store} {g1 g2 : SG} {QG : Fx → Store → Prop} (hv : fp ρ = some (.str w)) (hb : decide (w = v) = true) (k : EG (g1 ρ S) QG) : EG (gIf (mtP (ftB (f2 gEq fp (fC (.str v))))) g1 g2 ρ S) QG :=
  vs_if (vt_P (b := true) (x_tB ((x_f2 hv x_C x_eqS).trans (by rw [hb]))) (iteT k))
theorem vs_eqF {w v : Str} {fp : F} {ρ : Rho} {S : Store} {g1 g2 : SG} {QG : Fx → Store → Prop} (hv : fp ρ = some (.str w)) (hb : decide (w = v) = false) (k : EG (g2 ρ S) QG) : EG (gIf (mtP (ftB (f2 gEq fp (fC (.str v))))) g1 g2 ρ S) QG :=
  vs_if (vt_P (b := false) (x_tB ((x_f2 hv x_C x_eqS).trans (by rw [hb]))) (iteF k))
theorem idOf_len {o : Str} {n : Int} (h : o.length ≤ 12) (h1 : 0 ≤ n) (h2 : n ≤ 1000000000) : (idOf o n).length ≤ 30 := by
  obtain ⟨m, rfl⟩ : ∃ m : Nat, n = m := ⟨n.toNat, by omega⟩
  have h3 : (Str.ofString (toString (m : Int))).length ≤ 10 := (gd_num (by omega)).1
  unfold idOf
  rw [len_tl, tl_append, tl_append, List.length_append, List.length_append, ← len_tl, ← len_tl, ← len_tl]
  have : ("-" : Str).length = 1 := by decide +kernel
  omega
section
variable {S : Store} {R : List (Nat × Cell)} {b : BkG} {o : OfG} {x : EntG} {t : Str} {E : Exn → Store → Prop} {A B : List EntG}
theorem t_apply_reg {q : Int} (h : Has S (b.cells ++ R)) (ht : findE t b.es = none) (hz : b.es.length < 100000) : Ev (f_Book_apply [.loc b.loc, .tup [.str "register", .str t, .int q]] S) (fun d S' => d = .non ∧ ∃ b', (∃ l c, b' = b.add ⟨entNew t (.str b.office) q, l, c⟩) ∧ Has S' (b'.cells ++ R)) E := by
  refine ev_def rfl ?_
  refine vs_seq (vs_asg (v_P (d := .str "register") (x_f2 (x_var rfl) x_C (x_ixT atI_0)) ⟨_, rfl, then_nx ?_⟩))
  refine vs_eqT rfl (by decide +kernel) ?_
  obtain ⟨k1, k2, k3⟩ := bk_at h
  refine vs_drop (v_meth (v_P rfl ⟨_, _, rfl, k1, rfl, v_cons (v_P (x_f2 (x_var rfl) x_C (x_ixT atI_1)) (v_cons (v_fld (v_P rfl ⟨_, _, _, rfl, k1, rfl, v_cons (v_P (x_f2 (x_var rfl) x_C (x_ixT atI_2)) (v_nil ?_))⟩))))⟩))
  exact (t_pbegin (E := fun _ _ => False) h ht hz).mono (fun d S1 ⟨hd, l, c, h1⟩ => ⟨rfl, _, ⟨l, c, rfl⟩, h1⟩) (fun _ _ q => q.elim)
theorem t_apply_split {ps : List (Str × Int)} (h : Has S (b.cells ++ R)) (hs : b.es = A ++ x :: B) (hx : findE t b.es = some x) (hf : ∀ p ∈ ps, findE p.1 b.es = none) (hnd : (ps.map (·.1)).Nodup) (hz : b.es.length + ps.length < 100000) (hc : x.e.children.length + ps.length < 100000) :
    Ev (f_Book_apply [.loc b.loc, .tup (.str "split" :: .str t :: partsF ps)] S) (fun d S' => d = .non ∧ ∃ b', (∃ news : List EntG, news.map (·.e) = (ps.map fun p => entNew p.1 x.e.home p.2) ∧ b' = ({ b with es := A ++ splitE x (ps.map (·.1)) :: (B ++ news), next := b.next + ps.length } : BkG)) ∧ Has S' (b'.cells ++ R)) E := by
  refine ev_def rfl ?_
  refine vs_seq (vs_asg (v_P (d := .str "split") (x_f2 (x_var rfl) x_C (x_ixT atI_0)) ⟨_, rfl, then_nx ?_⟩))
  refine vs_eqF rfl (by decide +kernel) (vs_eqF rfl (by decide +kernel) (vs_eqF rfl (by decide +kernel) (vs_eqT rfl (by decide +kernel) ?_)))
  obtain ⟨k1, k2, k3⟩ := bk_at h
  refine vs_drop (v_meth (v_P rfl ⟨_, _, rfl, k1, rfl, v_cons (v_P rfl (v_nil ?_))⟩))
  exact (t_psplit (E := fun _ _ => False) h hs hx hf hnd hz hc).mono (fun d S1 ⟨hd, news, h1, h2⟩ => ⟨rfl, _, ⟨news, h1, rfl⟩, h2⟩) (fun _ _ q => q.elim)
theorem t_apply_join {ts : List Str} {new : Str} {hm : D} (h : Has S (b.cells ++ R)) (hk : KeyNd b.es) (hts : ∀ t ∈ ts, ∃ x, findE t b.es = some x ∧ x.e.home = hm ∧ x.e.children.length < 90000) (hnd : ts.Nodup) (h2 : 1 ≤ ts.length) (hl : ts.length ≤ 1000) (hn : findE new b.es = none) (hz : b.es.length < 100000) :
    Ev (f_Book_apply [.loc b.loc, .tup (.str "join" :: .str new :: ts.map .str)] S) (fun d S' => d = .non ∧ ∃ b', (∃ l c, b' = ({ b with es := joinES b.es new ts ++ [⟨entNew new hm (sumQ b.es ts), l, c⟩], next := b.next + 1 } : BkG)) ∧ Has S' (b'.cells ++ R)) E := by
  refine ev_def rfl ?_
  refine vs_seq (vs_asg (v_P (d := .str "join") (x_f2 (x_var rfl) x_C (x_ixT atI_0)) ⟨_, rfl, then_nx ?_⟩))
  refine vs_eqF rfl (by decide +kernel) (vs_eqF rfl (by decide +kernel) (vs_eqF rfl (by decide +kernel) (vs_eqF rfl (by decide +kernel) (vs_eqT rfl (by decide +kernel) ?_))))
  obtain ⟨k1, k2, k3⟩ := bk_at h
  refine vs_drop (v_meth (v_P rfl ⟨_, _, rfl, k1, rfl, v_cons (v_P rfl (v_nil ?_))⟩))
  exact (t_pjoin (E := fun _ _ => False) h hk hts hnd h2 hl hn hz).mono (fun d S1 ⟨hd, l, c, h1⟩ => ⟨rfl, _, ⟨l, c, rfl⟩, h1⟩) (fun _ _ q => q.elim)
def lineW (vs : List D) : Str := Txt.join " " (vs.map strD)
theorem t_create {q : Int} (hb : BkOk o.book) (h : Has S (o.cells ++ R)) (h1 : 1 ≤ q) (h2 : q ≤ 1000000000) (hl : o.lines.length < 100000) (hn : findE (idOf o.book.office o.book.next) o.book.es = none) :
    Ev (f_Office_create [.loc o.loc, .int q] S) (fun d S' => d = .str (idOf o.book.office o.book.next) ∧ ∃ w b', (∃ l c, b' = o.book.add ⟨entNew (idOf o.book.office o.book.next) (.str o.book.office) q, l, c⟩) ∧ Has S' ((o.wrote w b').cells ++ R)) E := by
  have z1 := hb.off
  have z2 := hb.nx1
  have z3 := hb.nx2
  have z4 := hb.len
  refine ev_def rfl ?_
  refine vs_seq (vs_drop (v_call (v_cons (v_P rfl (v_nil (Ev.ok (t_check h1 h2) (then_nx ?_)))))))
  obtain ⟨k1, k2⟩ := off_at h
  have hB := off_bk h
  have e1 := t_new_ids (k := 1) (kk := 1) rfl hb (by decide) hB
  have hids : o.book.ids 1 = [idOf o.book.office o.book.next] := by
    show [idOf o.book.office (o.book.next + (0 : Nat))] = _
    simp
  rw [hids] at e1
  refine vs_seq (vs_asg (v_ix (v_meth (v_fld (v_P rfl ⟨_, _, _, rfl, k1, rfl, _, _, rfl, (bk_at hB).1, rfl, v_cons (v_P rfl (v_nil (Ev.ok e1 (v_P rfl ⟨_, 0, _, .inl (view_at get_end), rfl, atI_0, _, rfl, then_nx ?_⟩))))⟩)))))
  have h2' := h.ext [.lst [D.str (idOf o.book.office o.book.next)]]
  refine vs_seq (vs_drop (v_meth (v_P rfl ⟨_, _, rfl, (off_at h2').1, rfl, v_cons (v_P (d := .tup [.str "register", .str (idOf o.book.office o.book.next), .int q]) ?_ (v_nil ?_))⟩)))
  · exact x_L (x_cons x_C (x_cons (x_var rfl) (x_cons (x_var rfl) x_nil))) (x_tupD (by rw [sizeLine_eq]; simp))
  · refine (t_write (E := fun _ _ => False) (w := lineW [.str "register", .str (idOf o.book.office o.book.next), .int q]) (P := fun b' => ∃ l c, b' = o.book.add ⟨entNew (idOf o.book.office o.book.next) (.str o.book.office) q, l, c⟩) h2' hl (e_format_line _ (fun d hd => ?_) (by simp)) (fun b' ⟨l, c, e⟩ => by rw [e]; exact ⟨rfl, rfl⟩) (fun S' R' h3 => t_apply_reg h3 hn (by omega))).mono (fun d S3 ⟨hd, b', hb', h4⟩ => then_nx (vs_ret (v_P rfl ⟨rfl, _, b', hb', h4⟩))) (fun _ _ q => q.elim)
    simp only [List.mem_cons, List.not_mem_nil, or_false] at hd
    rcases hd with rfl | rfl | rfl
    · show ("register" : Str).length ≤ 100; decide +kernel
    · have := idOf_len z1 (show 0 ≤ o.book.next by omega) (by omega)
      show (idOf o.book.office o.book.next).length ≤ 100
      omega
    · exact ⟨h1, h2⟩
theorem t_bookinit {n : Nat} {nm : Str} (h : Has S ((n, .ins "Book" []) :: R)) : Ev (f_Book_init [.loc n, .str nm] S) (fun d S' => d = .non ∧ ∃ b : BkG, b.loc = n ∧ b.office = nm ∧ b.es = [] ∧ b.payments = [] ∧ b.credit = 0 ∧ b.next = 1 ∧ Has S' (b.cells ++ R)) E := by
  refine ev_def rfl ?_
  refine vs_fldH h (Nat.le_of_ble_eq_true rfl) rfl rfl fun S1 h => ?_
  refine vs_seq (vs_fld (v_dict0 (v_P rfl ⟨n, _, rfl, (h.new (.dct [])).f1.hd, Nat.le_of_ble_eq_true rfl, then_nx ?_⟩)))
  have h1 := (h.new (.dct [])).f1.set (.ins "Book" (putD "entries" (.loc S1.length) (putD "office" (.str nm) [])))
  generalize S1.length = el at h1 ⊢
  generalize (S1 ++ [Cell.dct []]).set n (.ins "Book" (putD "entries" (.loc el) (putD "office" (.str nm) []))) = S2 at h1 ⊢
  refine vs_seq (vs_fld (v_dict0 (v_P rfl ⟨n, _, rfl, (h1.new (.dct [])).f1.hd, Nat.le_of_ble_eq_true rfl, then_nx ?_⟩)))
  have h2 := (h1.new (.dct [])).f1.set (.ins "Book" (putD "payments" (.loc S2.length) (putD "entries" (.loc el) (putD "office" (.str nm) []))))
  generalize S2.length = pl at h2 ⊢
  generalize (S2 ++ [Cell.dct []]).set n (.ins "Book" (putD "payments" (.loc pl) (putD "entries" (.loc el) (putD "office" (.str nm) [])))) = S3 at h2 ⊢
  refine vs_fldH h2 (Nat.le_of_ble_eq_true rfl) rfl rfl fun S1 h => ?_
  refine vs_fldE h (Nat.le_of_ble_eq_true rfl) rfl rfl fun S1 h => ?_
  exact ⟨rfl, ⟨nm, [], [], 0, 1, n, el, pl⟩, rfl, rfl, rfl, rfl, rfl, rfl, h.perm (List.Perm.cons _ (List.Perm.swap _ _ _))⟩
theorem t_parse0 : f_parse_journal [.str ""] S = some (.ok (.loc S.length), S ++ [.lst []]) := by
  refine ev_eqn ?_
  refine ev_def rfl ?_
  refine vs_seq (vs_asg (v_disp (v_nil ⟨Nat.zero_le _, _, rfl, then_nx ?_⟩)))
  have e : (Txt.split ("" : Str) "\n").dropLast = [] := by decide +kernel
  refine vs_seq (vs_for (v_iP (ds := []) (x_I (x_L (x_cons (x_var rfl) x_nil) (e_whole_lines "" (by decide))) (by rw [e]; rfl)) ?_))
  refine go_inv (P := fun lft ρ S' => lft = [] ∧ S' = S ++ [.lst []] ∧ ρ[1]? = some (.val (.loc S.length))) (fun _ _ _ _ => trivial) (fun ρ S' hh => ?_) (fun d l ρ S' hh => by cases hh.1) _ _ _ ⟨rfl, rfl, rfl⟩
  obtain ⟨h1, h2, h3⟩ := hh
  subst h2
  exact vs_ret (v_P (x_var h3) ⟨rfl, rfl⟩)
theorem t_offinit0 {n : Nat} {nm : Str} (hnm : isOff (tl nm) = true) (h12 : nm.length ≤ 12) (h : Has S ((n, .ins "Office" []) :: R)) : Ev (f_Office_init [.loc n, .str nm, .str ""] S) (fun d S' => d = .non ∧ ∃ o : OfG, o.loc = n ∧ o.lines = [] ∧ o.book.office = nm ∧ o.book.es = [] ∧ o.book.payments = [] ∧ o.book.credit = 0 ∧ o.book.next = 1 ∧ Has S' (o.cells ++ R)) E := by
  refine ev_def rfl ?_
  refine vs_seq (vs_if (vt_P (b := false) (x_tnot (x := true) (x_tV (x_L (x_cons (x_var rfl) x_nil) (e_is_office nm (by omega))) (by rw [hnm]; rfl))) (iteF (vs_nil (then_nx ?_)))))
  refine vs_fldH h (Nat.le_of_ble_eq_true rfl) rfl rfl fun S1 h => ?_
  refine vs_seq (vs_fld (v_make (v_cons (v_P rfl (v_nil ?_)))))
  refine (t_bookinit (E := fun _ _ => False) (h.new (.ins "Book" []))).mono (fun d S2 ⟨hd, b, hb1, hb2, hb3, hb4, hb5, hb6, h2⟩ => ⟨hd, v_P rfl ⟨n, _, rfl, Has.atM (X := b.cells) h2, Nat.le_of_ble_eq_true rfl, then_nx ?_⟩⟩) (fun _ _ q => q.elim)
  have h3 := (Has.setM (X := b.cells) h2 (.ins "Office" (putD "_book" (.loc S1.length) (putD "name" (.str nm) [])))).perm List.perm_middle
  refine vs_fldD h3 (Nat.le_of_ble_eq_true rfl) rfl fun S3 c0 h4 => ?_
  have e1 : f_parse_journal [.str ""] S3 = some (.ok (.loc S3.length), S3 ++ [.lst []]) := t_parse0
  refine vs_for (v_enK (v_call (v_cons (v_P rfl (v_nil (Ev.ok e1 (v_P rfl ⟨_, _, 1, rfl, get_end, rfl, by decide, ?_⟩)))))))
  refine go_inv (P := fun lft ρ S' => lft = [] ∧ S' = S3 ++ [.lst []]) (fun l ρ S' hh => by rw [hh.2]; exact get_end) (fun ρ S' hh => ?_) (fun d l ρ S' hh => by cases hh.1) _ _ _ ⟨rfl, rfl⟩
  refine ⟨rfl, ⟨[], b, n, c0⟩, rfl, rfl, hb2, hb3, hb4, hb5, hb6, ?_⟩
  rw [hh.2]
  refine (h4.ext [.lst []]).perm ?_
  show (List.Perm (_ :: _ :: (b.cells ++ R)) (_ :: _ :: (b.cells ++ R)))
  have e2 : offF ⟨[], b, n, c0⟩ = putD "_lines" (.loc c0) (putD "_book" (.loc S1.length) (putD "name" (.str nm) [])) := by
    unfold offF
    rw [hb1, hb2]
    rfl
  rw [e2]
  exact List.Perm.refl _
end

section
variable {Q : D → Store → Prop} {E : Exn → Store → Prop} {ρ : Rho} {S : Store} {f g h : SF} {Qi : List D × (Store → Prop) → Store → Prop}
theorem v_iD (hh : Ev (f ρ S) (fun d S1 => ∃ ds, d = .lst ds ∧ Qi (ds, fun _ => True) S1) E) : Ev (miL f ρ S) Qi E :=
  ev_sb (hh.mono (fun d S1 ⟨ds, e1, q⟩ => by subst e1; exact q) fun _ _ e => e)
theorem v_zM {n : Nat} {xs ys : List D} (hh : Ev (f ρ S) (fun d S1 => Ev (g ρ S1) (fun e S2 => d = .loc n ∧ e = .lst ys ∧ S2[n]? = some (.lst xs) ∧ Qi (D.zipD xs ys, fun S => S[n]? = some (.lst xs) ∧ True) S2) E) E) : Ev (miZ f g ρ S) Qi E :=
  ev_sb (hh.mono (fun d S1 h2 => ev_sb (h2.mono (fun e S2 ⟨e1, e2, h1, q⟩ => by
    subst e1 e2
    show Ev (b1 (listOf S2 (.loc n)) _) Qi E
    unfold Pd.listOf
    rw [ls_at h1]
    exact q) fun _ _ e => e)) fun _ _ e => e)
end
theorem v_len {fp : F} {ds : List D} {ρ : Rho} {S : Store} {Qs : List D → Store → Prop} {E : Exn → Store → Prop} {k : Int} (e : fp ρ = some (.lst ds)) (ek : k = ds.length) (q : Qs [.int k] S) : Ev (mCons (mL gLen (mCons (mP fp) mNil)) mNil ρ S) Qs E :=
  v_cons (v_L (v_cons (v_P e (v_nil ⟨.int ds.length, rfl, rfl, v_nil (ek ▸ q)⟩))))
theorem num_inj {a b : Nat} (h : Str.ofString (toString (a : Int)) = Str.ofString (toString (b : Int))) (ha : 1 ≤ a ∧ a ≤ 1000000000) (hb : 1 ≤ b ∧ b ≤ 1000000000) : a = b := by
  have h2 := congrArg tl h
  rw [tl_num, tl_num] at h2
  have e1 := numOf_num ha.1 ha.2
  rw [h2, numOf_num hb.1 hb.2] at e1
  cases e1; rfl
theorem idOf_inj {o : Str} {n m : Int} (h : idOf o n = idOf o m) (hn : 1 ≤ n ∧ n ≤ 1000000000) (hm : 1 ≤ m ∧ m ≤ 1000000000) : n = m := by
  obtain ⟨a, rfl⟩ : ∃ a : Nat, n = a := ⟨n.toNat, by omega⟩
  obtain ⟨b, rfl⟩ : ∃ b : Nat, m = b := ⟨m.toNat, by omega⟩
  have h2 := congrArg tl h
  unfold idOf at h2
  rw [tl_append, tl_append, tl_append, tl_append] at h2
  have h3 := List.append_cancel_left h2
  have : Str.ofString (toString (a : Int)) = Str.ofString (toString (b : Int)) := str_ext h3
  rw [num_inj this (by omega) (by omega)]
theorem ids_nd {b : BkG} (hb : BkOk b) (k : Nat) (hk : k ≤ 1000) : (b.ids k).Nodup := by
  unfold BkG.ids
  have z2 := hb.nx1
  have z3 := hb.nx2
  refine List.pairwise_map.mpr (List.Pairwise.imp_of_mem (fun {i j} hi hj hne heq => ?_) List.nodup_range)
  have hi' := List.mem_range.mp hi
  have hj' := List.mem_range.mp hj
  have := idOf_inj heq (by omega) (by omega)
  exact hne (by omega)
theorem ids_len {b : BkG} (k : Nat) : (b.ids k).length = k := by unfold BkG.ids; simp
theorem parts_zip : ∀ (ids : List Str) (qs : List Int), (ids.zip qs).flatMap (fun p => [D.str p.1, D.int p.2]) = partsF (ids.zip qs) := fun _ _ => rfl
theorem zipD_map : ∀ (ids : List Str) (qs : List Int), D.zipD (ids.map .str) (qs.map .int) = (ids.zip qs).map fun p => .tup [.str p.1, .int p.2]
  | [], _ => by simp [D.zipD]
  | _ :: _, [] => by simp [D.zipD]
  | a :: as, b :: bs => by
    show D.tup _ :: D.zipD _ _ = _
    rw [zipD_map as bs]
    rfl
section
variable {S : Store} {R : List (Nat × Cell)} {b : BkG} {o : OfG} {x : EntG} {t : Str} {E : Exn → Store → Prop} {A B : List EntG}
theorem t_split {qs : List Int} (hb : BkOk o.book) (h : Has S (o.cells ++ R)) (hl : o.lines.length < 100000) (hs : o.book.es = A ++ x :: B) (hx : findE t o.book.es = some x) (hheld : x.e.state = "held") (hrec : x.e.recalled = false) (htl : t.length ≤ 100)
    (hq : ∀ q ∈ qs, 1 ≤ q ∧ q ≤ 1000000000) (h2 : 2 ≤ qs.length) (h14 : qs.length ≤ 100) (hsum : qs.sum = x.e.quantity) (hf : ∀ i ∈ o.book.ids qs.length, findE i o.book.es = none) (hc : x.e.children.length ≤ 90000) :
    Ev (f_Office_split [.loc o.loc, .str t, .lst (qs.map .int)] S) (fun d S' => ∃ m, d = .loc m ∧ ∃ w b', (∃ news : List EntG, news.map (·.e) = (((o.book.ids qs.length).zip qs).map fun p => entNew p.1 x.e.home p.2) ∧ b' = ({ o.book with es := A ++ splitE x (o.book.ids qs.length) :: (B ++ news), next := o.book.next + qs.length } : BkG)) ∧
      Has S' ((m, .lst ((o.book.ids qs.length).map .str)) :: ((o.wrote w b').cells ++ R))) E := by
  have z1 := hb.off
  have z2 := hb.nx1
  have z3 := hb.nx2
  have z4 := hb.len
  have hfst : ((o.book.ids qs.length).zip qs).map (·.1) = o.book.ids qs.length := List.map_fst_zip (by rw [ids_len]; exact Nat.le_refl _)
  have hpl : ((o.book.ids qs.length).zip qs).length = qs.length := by rw [List.length_zip, ids_len, Nat.min_self]
  generalize hps : (o.book.ids qs.length).zip qs = ps at hfst hpl ⊢
  refine ev_def rfl ?_
  obtain ⟨k1, k2⟩ := off_at h
  have hB := off_bk h
  obtain ⟨mx, tx⟩ := findE_some hx
  obtain ⟨j1, j2⟩ := ent_at hB mx
  refine vs_seq (vs_asg (v_meth (v_P rfl ⟨_, _, rfl, k1, rfl, v_cons (v_P rfl (v_nil (Ev.ok (t_free h hx hheld hrec) ⟨_, rfl, then_nx ?_⟩)))⟩)))
  -- the sizes
  refine vs_seq (vs_for (v_iD (v_P rfl ⟨_, rfl, ?_⟩)))
  refine go_inv (P := fun lft ρ S' => S' = S ∧ (∃ todo : List Int, lft = todo.map .int ∧ ∀ q ∈ todo, 1 ≤ q ∧ q ≤ 1000000000) ∧ ∃ c, ρ = [.val (.loc o.loc), .val (.str t), .val (.lst (qs.map .int)), .val (.loc x.loc), c, .junk, .junk, .junk]) (fun _ _ _ _ => trivial) (fun ρ S' hh => ?_) (fun d lft ρ S' hh => ?_) _ _ _ ⟨rfl, ⟨qs, rfl, hq⟩, _, rfl⟩
  rotate_left
  · obtain ⟨rfl, ⟨todo, e1, e2⟩, c, rfl⟩ := hh
    cases todo with
    | nil => cases e1
    | cons q todo =>
      cases e1
      obtain ⟨q1, q2⟩ := e2 q (by simp)
      refine vs_drop (v_call (v_cons (v_P rfl (v_nil (Ev.ok (t_check q1 q2) ⟨rfl, ⟨todo, rfl, fun q' hq' => e2 q' (List.mem_cons_of_mem _ hq')⟩, _, rfl⟩)))))
  obtain ⟨rfl, -, c4, rfl⟩ := hh
  refine then_nx ?_
  obtain ⟨kk, hkk⟩ : ∃ kk : Int, kk = qs.length := ⟨_, rfl⟩
  have hlen : gLen [.lst (qs.map D.int)] = some (.int kk) := by rw [x_lenL, List.length_map, hkk]
  refine vs_seq (vs_if (vt_or (vt_B (v_2 (v_L (v_cons (v_P rfl (v_nil ⟨_, hlen, rfl, v_P rfl ⟨.bool false, ?_, rfl, _, rfl, ?_⟩⟩))))))))
  · show gLt (.int kk) (.int 2) = _
    rw [x_lt]
    simp
    omega
  refine iteF (vt_B (v_2 (v_L (v_cons (v_P rfl (v_nil ⟨_, gSum_of qs, rfl, v_fld (v_P rfl ⟨_, _, _, rfl, j1, rfl, .bool false, ?_, rfl, _, rfl, iteF (vs_nil (then_nx ?_))⟩)⟩))))))
  · show gNe (.int qs.sum) (.int x.e.quantity) = _
    rw [x_neI, hsum]
    simp
  -- the ids
  have e1 := t_new_ids (k := qs.length) (kk := kk) hkk hb (by omega) hB
  have b1 := (bk_at hB).1
  have e2 : ∀ c : Sl, mMeth "Book" "new_ids" f_Book_new_ids (mFld "Office" "_book" (mP (fVar 0))) (mCons (mL gLen (mCons (mP (fVar 2)) mNil)) mNil) [.val (.loc o.loc), .val (.str t), .val (.lst (qs.map .int)), .val (.loc x.loc), c, .junk, .junk, .junk] S' = some (.ok (.loc S'.length), S' ++ [.lst ((o.book.ids qs.length).map .str)]) := fun c =>
    ev_eqn (v_meth (v_fld (v_P rfl ⟨_, _, _, rfl, k1, rfl, _, _, rfl, b1, rfl, v_len rfl (by rw [hkk, List.length_map]) (Ev.ok e1 ⟨rfl, rfl⟩)⟩)))
  refine vs_seq (vs_asg (Ev.ok (e2 c4) ⟨_, rfl, then_nx ?_⟩))
  refine vs_seq (vs_asg (v_disp (v_cons (v_P rfl (v_cons (v_P rfl (v_nil ⟨by rw [sizeLine_eq]; simp, _, rfl, then_nx ?_⟩)))))))
  have h3 := (h.new (.lst ((o.book.ids qs.length).map .str))).new (.lst [.str "split", .str t])
  generalize hn1 : S'.length = n1 at h3 ⊢
  generalize hn2 : (S' ++ [Cell.lst ((o.book.ids qs.length).map .str)]).length = n2 at h3 ⊢
  generalize S' ++ [Cell.lst ((o.book.ids qs.length).map .str)] ++ [.lst [.str "split", .str t]] = S2 at h3 ⊢
  refine vs_seq (vs_for (v_zM (v_P rfl (v_P rfl ⟨rfl, rfl, h3.tail.hd, ?_⟩))))
  rw [zipD_map, hps]
  refine go_inv (P := fun lft ρ S' => ∃ done todo : List (Str × Int), ps = done ++ todo ∧ lft = (todo.map fun p => .tup [.str p.1, .int p.2]) ∧ (∃ c d, ρ = [.val (.loc o.loc), .val (.str t), .val (.lst (qs.map .int)), .val (.loc x.loc), c, .val (.loc n1), .val (.loc n2), d]) ∧
    Has S' ((n2, .lst (.str "split" :: .str t :: partsF done)) :: (n1, .lst ((o.book.ids qs.length).map .str)) :: (o.cells ++ R))) (fun _ _ _ hh => ?_) (fun ρ S' hh => ?_) (fun d lft ρ S' hh => ?_) _ _ _ ⟨[], ps, rfl, rfl, ⟨_, _, rfl⟩, h3⟩
  · obtain ⟨_, _, _, _, _, hh⟩ := hh
    exact ⟨hh.tail.hd, trivial⟩
  rotate_left
  · obtain ⟨done, todo, e2, e3, ⟨c, dd, rfl⟩, e4⟩ := hh
    cases todo with
    | nil => cases e3
    | cons p todo =>
      obtain ⟨p1, p2⟩ := p
      cases e3
      have hdl : done.length ≤ 100 := by
        have : done.length ≤ ps.length := by rw [e2]; simp
        omega
      have hpl2 : (partsF done).length ≤ 200 := by
        have : ∀ l : List (Str × Int), (partsF l).length = 2 * l.length := fun l => by
          induction l with
          | nil => rfl
          | cons a l ih => show (partsF l).length + 2 = _; rw [ih, List.length_cons]; omega
        rw [this]; omega
      show EG (gSeq _ _ [.val (.loc o.loc), .val (.str t), .val (.lst (qs.map .int)), .val (.loc x.loc), .val (.int p2), .val (.loc n1), .val (.loc n2), .val (.str p1)] S') _
      refine vs_seq (vs_drop (v_app (v_P rfl ⟨_, _, rfl, e4.hd, v_P rfl ⟨_, e4.hd, by rw [sizeLine_eq]; simp; omega, then_nx ?_⟩⟩)))
      have e5 := e4.set (.lst ((.str "split" :: .str t :: partsF done) ++ [.str p1]))
      generalize S'.set n2 (.lst ((.str "split" :: .str t :: partsF done) ++ [.str p1])) = S3 at e5 ⊢
      refine vs_drop (v_app (v_P rfl ⟨_, _, rfl, e5.hd, v_P rfl ⟨_, e5.hd, by rw [sizeLine_eq]; simp; omega, ?_⟩⟩))
      have e6 := e5.set (.lst ((.str "split" :: .str t :: partsF done) ++ [.str p1] ++ [.int p2]))
      refine ⟨done ++ [(p1, p2)], todo, by rw [e2, List.append_assoc]; rfl, rfl, ⟨_, _, rfl⟩, ?_⟩
      have e7 : D.str "split" :: D.str t :: partsF (done ++ [(p1, p2)]) = (.str "split" :: .str t :: partsF done) ++ [.str p1] ++ [.int p2] := by
        unfold partsF
        rw [List.flatMap_append]
        simp
      rw [e7]
      exact e6
  obtain ⟨done, todo, e2, e3, ⟨c, dd, rfl⟩, e4⟩ := hh
  have : todo = [] := by
    cases todo with
    | nil => rfl
    | cons _ _ => cases e3
  subst this
  rw [List.append_nil] at e2
  subst e2
  refine then_nx ?_
  have h5 : Has S' (o.cells ++ ((n2, .lst (.str "split" :: .str t :: partsF ps)) :: (n1, .lst ((o.book.ids qs.length).map .str)) :: R)) := e4.perm (by
    exact ((List.perm_middle (l₁ := o.cells)).trans ((List.perm_middle (l₁ := o.cells)).cons _)).symm)
  refine vs_seq (vs_drop (v_meth (v_P rfl ⟨_, _, rfl, (off_at h5).1, rfl, v_cons (v_tupC (v_P rfl ⟨_, _, rfl, e4.hd, v_nil ?_⟩))⟩)))
  refine (t_write (E := fun _ _ => False) (w := lineW (.str "split" :: .str t :: partsF ps)) (P := fun b' => ∃ news : List EntG, news.map (·.e) = (ps.map fun p => entNew p.1 x.e.home p.2) ∧ b' = ({ o.book with es := A ++ splitE x (ps.map (·.1)) :: (B ++ news), next := o.book.next + ps.length } : BkG)) h5 hl (e_format_line _ (fun d hd => ?_) ?_) (fun b' ⟨news, _, e⟩ => by rw [e]; exact ⟨rfl, rfl⟩) (fun S' R' h6 => t_apply_split h6 hs hx (fun p hp => hf p.1 ?_) ?_ (by omega) (by omega))).mono (fun d S3 ⟨hd, b', ⟨news, hb1, hb2⟩, h7⟩ => then_nx (vs_ret (v_P rfl ⟨n1, rfl, lineW (.str "split" :: .str t :: partsF ps), b', ⟨news, hb1, ?_⟩, ?_⟩))) (fun _ _ q => q.elim)
  · rcases List.mem_cons.mp hd with rfl | hd
    · show ("split" : Str).length ≤ 100; decide +kernel
    rcases List.mem_cons.mp hd with rfl | hd
    · exact htl
    obtain ⟨p, hp, hd⟩ := List.mem_flatMap.mp hd
    have hp1 : p.1 ∈ o.book.ids qs.length := by rw [← hfst]; exact List.mem_map.mpr ⟨p, hp, rfl⟩
    have hp2 : p.2 ∈ qs := by
      rw [← hps] at hp
      exact (List.of_mem_zip hp).2
    simp only [List.mem_cons, List.not_mem_nil, or_false] at hd
    rcases hd with rfl | rfl
    · unfold BkG.ids at hp1
      obtain ⟨i, hi, e⟩ := List.mem_map.mp hp1
      have hi' : i < qs.length := by simpa using hi
      have := idOf_len z1 (show 0 ≤ o.book.next + (i : Nat) by omega) (by omega)
      show p.1.length ≤ 100
      rw [← e]
      omega
    · exact hq _ hp2
  · have : ∀ l : List (Str × Int), (partsF l).length = 2 * l.length := fun l => by
      induction l with
      | nil => rfl
      | cons a l ih => show (partsF l).length + 2 = _; rw [ih, List.length_cons]; omega
    simp only [List.length_cons, this]
    omega
  · rw [← hfst]; exact List.mem_map.mpr ⟨p, hp, rfl⟩
  · rw [hfst]; exact ids_nd hb _ (by omega)
  · rw [hb2, hfst, hpl]
  · refine (h7.sub (r := ((o.wrote (lineW (.str "split" :: .str t :: partsF ps)) b').cells ++ ((n1, .lst ((o.book.ids qs.length).map .str)) :: R))) ?_).perm (List.perm_middle)
    exact List.Sublist.append_left (List.sublist_cons_self _ _) _
end

theorem x_inS (t : Str) (l : List Str) : gIn (.str t) (.lst (l.map D.str)) = some (.bool (decide (t ∈ l))) := by
  have h1 : (l.map D.str).all D.flat = true := by
    rw [List.all_map]
    exact List.all_eq_true.mpr fun x _ => rfl
  have h2 : ((l.map D.str).any fun z => z.eqF (.str t)) = decide (t ∈ l) := by
    rw [List.any_map, Bool.eq_iff_iff, List.any_eq_true, decide_eq_true_iff]
    exact ⟨fun ⟨x, hx, e⟩ => by
      have : x = t := by simpa [D.eqF] using e
      rw [← this]; exact hx, fun h => ⟨t, h, by simp [D.eqF]⟩⟩
  have h3 : gIn0 (.str t) (.lst (l.map D.str)) = if (D.str t).flat && (l.map D.str).all D.flat then some ((l.map D.str).any fun z => z.eqF (.str t)) else if SeqAt.shaped (D.str t).py && SeqAt.shaped (D.lst (l.map D.str)).py then some ((D.pyA (l.map D.str)).any fun z => PyData.eqv z (D.str t).py) else none := rfl
  unfold gIn
  rw [h3, h1, if_pos (show ((D.str t).flat && true) = true from rfl), h2]
  rfl
theorem cut_to (xs : List D) (k : Nat) (hk : k ≤ xs.length) : Pd.cutD xs none (some (k : Int)) = xs.take k := by
  unfold Pd.cutD
  rw [HT.sIx_none, HT.sIx_nat, Nat.min_eq_left hk, List.drop_zero, Nat.sub_zero]
section
variable {S : Store} {R : List (Nat × Cell)} {b : BkG} {o : OfG} {x : EntG} {t : Str} {E : Exn → Store → Prop} {A B : List EntG}
theorem sumQ_xs {es : List EntG} : ∀ {xs : List EntG}, (∀ x ∈ xs, findE x.e.thing es = some x) → sumQ es (xs.map (·.e.thing)) = (xs.map (·.e.quantity)).sum
  | [], _ => rfl
  | x :: xs, h => by
    have ih := sumQ_xs (xs := xs) fun y hy => h y (List.mem_cons_of_mem _ hy)
    unfold sumQ at ih ⊢
    rw [List.map_cons, List.map_cons, List.map_cons, List.sum_cons, List.sum_cons, ih, h x (by simp)]
theorem t_join {m : Nat} {xs : List EntG} {hs : Str} (hb : BkOk o.book) (hk : KeyNd o.book.es) (h : Has S (o.cells ++ R)) (hm : (m, Cell.lst (xs.map fun x => D.str x.e.thing)) ∈ R) (hl : o.lines.length < 100000)
    (hx : ∀ x ∈ xs, findE x.e.thing o.book.es = some x ∧ x.e.state = "held" ∧ x.e.recalled = false ∧ x.e.home = .str hs ∧ x.e.children.length < 90000 ∧ x.e.thing.length ≤ 100)
    (hnd : (xs.map (·.e.thing)).Nodup) (h2 : 2 ≤ xs.length) (h100 : xs.length ≤ 100) (hsum : (xs.map (·.e.quantity)).sum ≤ 1000000000) (hn : findE (idOf o.book.office o.book.next) o.book.es = none) :
    Ev (f_Office_join [.loc o.loc, .loc m] S) (fun d S' => d = .str (idOf o.book.office o.book.next) ∧ ∃ w b', (∃ l c, b' = ({ o.book with es := joinES o.book.es (idOf o.book.office o.book.next) (xs.map (·.e.thing)) ++ [⟨entNew (idOf o.book.office o.book.next) (.str hs) (xs.map (·.e.quantity)).sum, l, c⟩], next := o.book.next + 1 } : BkG)) ∧ Has S' ((o.wrote w b').cells ++ R)) E := by
  have z1 := hb.off
  have z2 := hb.nx1
  have z3 := hb.nx2
  have z4 := hb.len
  generalize hts : xs.map (fun x => D.str x.e.thing) = tsD at hm
  have hmem : ∀ {S' : Store} {o' : OfG}, Has S' (o'.cells ++ R) → S'[m]? = some (.lst tsD) := fun {S' o'} h' => h'.at_ _ _ (List.mem_append_right _ hm)
  refine ev_def rfl ?_
  -- the entries
  have e1 : mLc (miL (mP (fVar 1))) (st1 6) mtYes (mMeth "Office" "_free" f_Office_pfree (mP (fVar 0)) (mCons (mP (fVar 6)) mNil)) [6] (rho0 N_Office_join [.loc o.loc, .loc m]) S = some (.ok (.loc S.length), S ++ [.lst (xs.map fun x => .loc x.loc)]) := by
    refine ev_eqn (v_lcp (v_iL (v_P rfl ⟨m, tsD, rfl, hmem h, fun d => match d with
      | .str t => (findE t o.book.es).map fun x => .loc x.loc
      | _ => none, ?_, fun acc => ?_, fun d hd acc => ?_, rfl, ?_⟩)))
    · show tsD.length ≤ _
      rw [← hts, List.length_map, sizeLine_eq]; omega
    · exact hmem (h.ext _)
    · rw [← hts] at hd
      obtain ⟨x, hxm, rfl⟩ := List.mem_map.mp hd
      obtain ⟨x1, x2, x3, x4, x5, x6⟩ := hx x hxm
      have h' := h.ext [.lst acc]
      refine ⟨_, rfl, ?_⟩
      show match (findE x.e.thing o.book.es).map (fun x => D.loc x.loc) with | some y => _ | none => _
      rw [x1]
      exact ⟨rfl, ev_eqn (v_meth (v_P rfl ⟨_, _, rfl, (off_at h').1, rfl, v_cons (v_P rfl (v_nil (Ev.ok (t_free h' x1 x2 x3) ⟨rfl, rfl⟩)))⟩))⟩
    · rw [← hts, fm_map (f := fun x : EntG => D.str x.e.thing) (g := fun x : EntG => D.loc x.loc) _ _ (fun x hxm => by
        show (findE x.e.thing o.book.es).map (fun x => D.loc x.loc) = _
        rw [(hx x hxm).1]; rfl)]
  refine vs_seq (vs_asg (Ev.ok e1 ⟨_, rfl, then_nx ?_⟩))
  have h3 := h.new (.lst (xs.map fun x => .loc x.loc))
  generalize S.length = n1 at h3 ⊢
  generalize S ++ [Cell.lst (xs.map fun x => .loc x.loc)] = S1 at h3 ⊢
  -- each of them
  refine vs_seq (vs_for (v_en (v_P rfl ⟨_, _, rfl, h3.hd, ?_⟩)))
  refine go_inv (P := fun lft ρ S' => ∃ pre post : List EntG, xs = pre ++ post ∧ lft = D.enumD pre.length (post.map fun x => .loc x.loc) ∧ (∃ c d e f, ρ = [.val (.loc o.loc), .val (.loc m), .val (.loc n1), c, d, e, f]) ∧ Has S' ((n1, .lst (xs.map fun x => .loc x.loc)) :: (o.cells ++ R))) (fun _ _ _ hh => ?_) (fun ρ S' hh => ?_) (fun d lft ρ S' hh => ?_) _ _ _ ⟨[], xs, rfl, rfl, ⟨_, _, _, _, rfl⟩, h3⟩
  · obtain ⟨_, _, _, _, _, hh⟩ := hh
    exact hh.hd
  rotate_left
  · obtain ⟨pre, post, e2, e3, ⟨c3, c4, c5, c6, rfl⟩, e4⟩ := hh
    cases post with
    | nil => cases e3
    | cons x post =>
      cases e3
      have hxm : x ∈ xs := by rw [e2]; simp
      obtain ⟨x1, x2, x3, x4, x5, x6⟩ := hx x hxm
      have hB := off_bk e4.tail
      obtain ⟨j1, j2⟩ := ent_at hB (findE_some x1).1
      obtain ⟨y0, ys, hys⟩ : ∃ y0 ys, xs = y0 :: ys := by
        cases xs with
        | nil => simp at h2
        | cons a b => exact ⟨a, b, rfl⟩
      obtain ⟨y1, y2, y3, y4, y5, y6⟩ := hx y0 (by rw [hys]; simp)
      have e6 := e4.ext [.lst (tsD.take pre.length)]
      obtain ⟨i1, i2⟩ := ent_at (off_bk e6.tail) (findE_some x1).1
      obtain ⟨i3, i4⟩ := ent_at (off_bk e6.tail) (findE_some y1).1
      have hnot : x.e.thing ∉ (xs.map (·.e.thing)).take pre.length := by
        have : (xs.map (·.e.thing)).take pre.length = pre.map (·.e.thing) := by
          rw [e2, List.map_append, List.take_left' (by simp)]
        rw [this]
        intro z
        rw [e2, List.map_append, List.nodup_append] at hnd
        exact hnd.2.2 _ z x.e.thing (by simp) rfl
      have htk : tsD.take pre.length = ((xs.map (·.e.thing)).take pre.length).map D.str := by
        rw [← hts, ← List.map_take, ← List.map_take, List.map_map]
        rfl
      have hpl : pre.length ≤ tsD.length := by rw [← hts, List.length_map, e2]; simp
      show EG (gIf _ _ _ [.val (.loc o.loc), .val (.loc m), .val (.loc n1), c3, .val (.int (pre.length : Nat)), .val (.loc x.loc), c6] S') _
      have t1 : mtB (m2 gIn (mFld "Entry" "thing" (mP (fVar 5))) (mSl (mP (fVar 1)) moNo (moE (mP (fVar 4))))) [.val (.loc o.loc), .val (.loc m), .val (.loc n1), c3, .val (.int (pre.length : Nat)), .val (.loc x.loc), c6] S' = some (.ok false, S' ++ [.lst (tsD.take pre.length)]) := by
        refine ev_eqn (vt_B (v_2 (v_fld (v_P rfl ⟨_, _, _, rfl, j1, rfl, v_slL (v_P rfl (v_oNo (v_oE (v_P rfl ⟨_, rfl, m, tsD, rfl, hmem e4.tail, .bool false, ?_, rfl, false, rfl, rfl, ?_⟩))))⟩))))
        · rw [view_at get_end, cut_to _ _ hpl, htk]
          show gIn (.str x.e.thing) _ = _
          rw [x_inS, decide_eq_false hnot]
        · rw [cut_to _ _ hpl]
      have t2 : mtB (m2 gNe (mFld "Entry" "home" (mP (fVar 5))) (mFld "Entry" "home" (mIx (mP (fVar 2)) (mP (fC (.int 0)))))) [.val (.loc o.loc), .val (.loc m), .val (.loc n1), c3, .val (.int (pre.length : Nat)), .val (.loc x.loc), c6] (S' ++ [.lst (tsD.take pre.length)]) = some (.ok false, S' ++ [.lst (tsD.take pre.length)]) := by
        refine ev_eqn (vt_B (v_2 (v_fld (v_P rfl ⟨_, _, _, rfl, i1, rfl, v_fld (v_ix (v_P rfl (v_P rfl ⟨xs.map fun x => .loc x.loc, 0, .loc y0.loc, .inl (view_at e6.hd), rfl, by rw [hys]; exact atI_0, _, _, _, rfl, i3, rfl, .bool false, ?_, rfl, false, rfl, rfl, rfl⟩)))⟩))))
        show gNe (view _ x.e.home) (view _ y0.e.home) = _
        rw [x4, y4]
        show gNe (.str hs) (.str hs) = _
        rw [strne]
        simp
      refine vs_if (vt_or (Ev.ok t1 (iteF (Ev.ok t2 (iteF (vs_nil ⟨pre ++ [x], post, by rw [e2, List.append_assoc]; rfl, by rw [List.length_append]; rfl, ⟨_, _, _, _, rfl⟩, e6⟩))))))
  obtain ⟨pre, post, e2, e3, ⟨c3, c4, c5, c6, rfl⟩, e4⟩ := hh
  refine then_nx ?_
  clear h3 e3 e2 pre post
  obtain ⟨kk, hkk⟩ : ∃ kk : Int, kk = xs.length := ⟨_, rfl⟩
  have hlen : gLen [.lst tsD] = some (.int kk) := by rw [x_lenL, ← hts, List.length_map, hkk]
  have t3 : mtB (m2 gLt (mL gLen (mCons (mP (fVar 1)) mNil)) (mP (fC (.int 2)))) [.val (.loc o.loc), .val (.loc m), .val (.loc n1), c3, c4, c5, c6] S' = some (.ok false, S') := by
    refine ev_eqn (vt_B (v_2 (v_L (v_cons (v_P rfl (v_nil ⟨.int kk, ?_, rfl, v_P rfl ⟨.bool false, ?_, rfl, false, rfl, rfl, rfl⟩⟩))))))
    · show gLen [view S' (.loc m)] = _
      rw [view_at (hmem e4.tail), hlen]
    · show gLt (.int kk) (.int 2) = _
      rw [x_lt]
      simp
      omega
  refine vs_seq (vs_if (Ev.ok t3 (iteF (vs_nil (then_nx ?_)))))
  have t4 : mLc (miL (mP (fVar 2))) (st1 5) mtYes (mFld "Entry" "quantity" (mP (fVar 5))) [5] [.val (.loc o.loc), .val (.loc m), .val (.loc n1), c3, c4, c5, c6] S' = some (.ok (.loc S'.length), S' ++ [.lst ((xs.map (·.e.quantity)).map D.int)]) := by
    refine ev_eqn (v_lcp (v_iL (v_P rfl ⟨n1, _, rfl, e4.hd, fun d => match d with
      | .loc l => (match S'[l]? with
        | some (.ins _ fs) => fs.lookup ("quantity" : Str)
        | _ => none)
      | _ => none, ?_, fun acc => ?_, fun d hd acc => ?_, rfl, ?_⟩)))
    · show (xs.map fun x => D.loc x.loc).length ≤ _
      rw [List.length_map, sizeLine_eq]; omega
    · exact (e4.ext _).hd
    · obtain ⟨x, hxm, rfl⟩ := List.mem_map.mp hd
      obtain ⟨x1, x2, x3, x4, x5, x6⟩ := hx x hxm
      have h' := e4.ext [.lst acc]
      obtain ⟨i1, i2⟩ := ent_at (off_bk h'.tail) (findE_some x1).1
      obtain ⟨j1, j2⟩ := ent_at (off_bk e4.tail) (findE_some x1).1
      refine ⟨_, rfl, ?_⟩
      show match (match S'[x.loc]? with
        | some (.ins _ fs) => fs.lookup ("quantity" : Str)
        | _ => none) with | some y => _ | none => _
      rw [j1]
      exact ⟨rfl, ev_eqn (v_fld (v_P rfl ⟨_, _, _, rfl, i1, rfl, rfl, rfl⟩))⟩
    · rw [fm_map (f := fun x : EntG => D.loc x.loc) (g := fun x : EntG => D.int x.e.quantity) _ _ (fun x hxm => by
        show (match S'[x.loc]? with
          | some (.ins _ fs) => fs.lookup ("quantity" : Str)
          | _ => none) = _
        rw [(ent_at (off_bk e4.tail) (findE_some (hx x hxm).1).1).1]
        rfl), List.map_map]
      rfl
  have e5 := (e4.ext [.lst ((xs.map (·.e.quantity)).map D.int)]).tail
  have t5 : mtB (m2 gGt (mL gSum (mCons (mLc (miL (mP (fVar 2))) (st1 5) mtYes (mFld "Entry" "quantity" (mP (fVar 5))) [5]) mNil)) (mP (fC (.int 1000000000)))) [.val (.loc o.loc), .val (.loc m), .val (.loc n1), c3, c4, c5, c6] S' = some (.ok false, S' ++ [.lst ((xs.map (·.e.quantity)).map D.int)]) := by
    refine ev_eqn (vt_B (v_2 (v_L (v_cons (Ev.ok t4 (v_nil ⟨.int (xs.map (·.e.quantity)).sum, ?_, rfl, v_P rfl ⟨.bool false, ?_, rfl, false, rfl, rfl, rfl⟩⟩))))))
    · show gSum [view _ (.loc S'.length)] = _
      rw [view_at get_end, gSum_of]
    · show gGt (.int _) (.int 1000000000) = _
      rw [x_gt]
      simp
      omega
  refine vs_seq (vs_if (Ev.ok t5 (iteF (vs_nil (then_nx ?_)))))
  generalize S' ++ [Cell.lst ((xs.map (·.e.quantity)).map D.int)] = S2 at e5 ⊢
  have hB := off_bk e5
  have hids : o.book.ids 1 = [idOf o.book.office o.book.next] := by
    show [idOf o.book.office (o.book.next + (0 : Nat))] = _
    simp
  have e6 := t_new_ids (k := 1) (kk := 1) rfl hb (by decide) hB
  rw [hids] at e6
  have e7 : mIx (mMeth "Book" "new_ids" f_Book_new_ids (mFld "Office" "_book" (mP (fVar 0))) (mCons (mP (fC (.int 1))) mNil)) (mP (fC (.int 0))) [.val (.loc o.loc), .val (.loc m), .val (.loc n1), c3, c4, c5, c6] S2 = some (.ok (.str (idOf o.book.office o.book.next)), S2 ++ [.lst [.str (idOf o.book.office o.book.next)]]) :=
    ev_eqn (v_ix (v_meth (v_fld (v_P rfl ⟨_, _, _, rfl, (off_at e5).1, rfl, _, _, rfl, (bk_at hB).1, rfl, v_cons (v_P rfl (v_nil (Ev.ok e6 (v_P rfl ⟨_, 0, _, .inl (view_at get_end), rfl, atI_0, rfl, rfl⟩))))⟩))))
  refine vs_seq (vs_asg (Ev.ok e7 ⟨_, rfl, then_nx ?_⟩))
  have e8 := e5.ext [.lst [.str (idOf o.book.office o.book.next)]]
  generalize S2 ++ [Cell.lst [D.str (idOf o.book.office o.book.next)]] = S3 at e8 ⊢
  generalize hnew : idOf o.book.office o.book.next = new at *
  have e9 : mTupC (mCat (mP (fL gLstD (fCons (fC (.str "join")) (fCons (fVar 3) fNil)))) (mList (mCons (mP (fVar 1)) mNil))) [.val (.loc o.loc), .val (.loc m), .val (.loc n1), .val (.str new), c4, c5, c6] S3 = some (.ok (.tup (.str "join" :: .str new :: tsD)), S3 ++ [.lst tsD] ++ [.lst (.str "join" :: .str new :: tsD)]) := by
    refine ev_eqn (v_tupC (v_cat (v_P (d := .lst [.str "join", .str new]) (x_L (x_cons x_C (x_cons (x_var rfl) x_nil)) (x_lstD (by rw [sizeLine_eq]; simp))) (v_list (v_P rfl ⟨tsD, .inl (view_at (hmem e8)), [.str "join", .str new], tsD, rfl, view_at get_end, ?_, _, .str "join" :: .str new :: tsD, rfl, get_end, rfl, rfl⟩)))))
    rw [← hts, List.length_map, sizeLine_eq]
    simp
    omega
  have e10 := (e8.ext [.lst tsD]).ext [.lst (.str "join" :: .str new :: tsD)]
  have htsD : tsD = (xs.map (·.e.thing)).map D.str := by rw [← hts, List.map_map]; rfl
  refine vs_seq (vs_drop (v_meth (v_P rfl ⟨_, _, rfl, (off_at e8).1, rfl, v_cons (Ev.ok e9 (v_nil ?_))⟩)))
  refine (t_write (E := fun _ _ => False) (w := lineW (.str "join" :: .str new :: tsD)) (P := fun b' => ∃ l c, b' = ({ o.book with es := joinES o.book.es new (xs.map (·.e.thing)) ++ [⟨entNew new (.str hs) (sumQ o.book.es (xs.map (·.e.thing))), l, c⟩], next := o.book.next + 1 } : BkG)) e10 hl (e_format_line _ (fun d hd => ?_) ?_) (fun b' ⟨l, c, e⟩ => by rw [e]; exact ⟨rfl, rfl⟩) (fun S' R' h6 => ?_)).mono (fun d S3 ⟨hd, b', ⟨l, c, hb2⟩, h7⟩ => then_nx (vs_ret (v_P rfl ⟨rfl, lineW (.str "join" :: .str new :: tsD), b', ⟨l, c, ?_⟩, h7⟩))) (fun _ _ q => q.elim)
  · rcases List.mem_cons.mp hd with rfl | hd
    · show ("join" : Str).length ≤ 100; decide +kernel
    rcases List.mem_cons.mp hd with rfl | hd
    · have := idOf_len z1 (show 0 ≤ o.book.next by omega) (by omega)
      rw [hnew] at this
      show new.length ≤ 100
      omega
    rw [← hts] at hd
    obtain ⟨x, hxm, rfl⟩ := List.mem_map.mp hd
    exact (hx x hxm).2.2.2.2.2
  · simp only [List.length_cons]
    rw [← hts, List.length_map]
    omega
  · rw [htsD]
    refine t_apply_join h6 hk (fun t ht => ?_) hnd (by rw [List.length_map]; omega) (by rw [List.length_map]; omega) hn (by omega)
    obtain ⟨x, hxm, rfl⟩ := List.mem_map.mp ht
    obtain ⟨x1, x2, x3, x4, x5, x6⟩ := hx x hxm
    exact ⟨x, x1, x4, x5⟩
  · rw [hb2, sumQ_xs fun x hxm => (hx x hxm).1]
end

theorem e_cut {q c : Int} (h1 : 1 ≤ q) (h2 : q ≤ 1000000000) : ∃ d, f_L_cut [.int q, .int c] = some d ∧ ∃ qs : List Int, d = .lst (qs.map .int) ∧ (∀ x ∈ qs, 1 ≤ x ∧ x ≤ 1000000000) ∧ qs.sum = q ∧ 1 ≤ qs.length ∧ qs.length ≤ 4 := by
  refine f_ex rfl (w_seq (w_new x_nil (Nat.zero_le _) (w_seq (w_asg (x_var rfl) (w_seq ?_)))))
  have hr : itR1 [.int (1 + c % 3)] = some (rngD 0 (1 + c % 3).toNat) := by
    have e : itR1 [.int (1 + c % 3)] = @ite _ (-(2 ^ 62) ≤ (1 + c % 3) ∧ (1 + c % 3) < 2 ^ 62) (decR _) (some (rngD 0 (1 + c % 3).toNat)) none := rfl
    rw [e, if_pos ⟨by omega, by omega⟩]
  refine w_for (fun rest ρ => ∃ (qs : List Int) (left : Int) (ks : List Nat) (a b : Sl), rest = (ks.map fun k => D.int (0 + (k : Nat))) ∧ (qs.length + ks.length ≤ 3 ∧ ∀ k ∈ ks, k ≤ 3) ∧ ρ = [.val (.int q), .val (.int c), .own (qs.map .int), .val (.int left), a, b] ∧ 1 ≤ left ∧ left ≤ q ∧ (∀ x ∈ qs, 1 ≤ x ∧ x ≤ 1000000000) ∧ qs.sum + left = q)
    (x_Is (x_cons (x_f2 x_C (x_f2 (x_L (x_cons (x_var rfl) x_nil) x_int) x_C (x_mod (by decide))) x_add) x_nil) hr) ⟨[], q, List.range (1 + c % 3).toNat, .junk, .junk, rfl, ⟨by simp; omega, fun k hk => by have := List.mem_range.mp hk; omega⟩, rfl, h1, by omega, by simp, by simp⟩ ?_ ?_
  · rintro d rest ρ ⟨qs, left, ks, a, b, e1, e2, rfl, e3, e4, e5, e6⟩
    cases ks with
    | nil => cases e1
    | cons k ks =>
      cases e1
      refine ⟨_, rfl, ?_⟩
      have hk3 := e2.2 k (by simp)
      have ek : ∀ k' ∈ ks, k' ≤ 3 := fun k' hk' => e2.2 k' (List.mem_cons_of_mem _ hk')
      replace e2 := e2.1
      have hm : 1 ≤ (if left - 1 > 1 then left - 1 else 1) := by split <;> omega
      refine w_seq (w_asg (d := .int (1 + c / (3 + (0 + (k : Int))) % (if left - 1 > 1 then left - 1 else 1))) (x_f2 x_C (x_f2 (x_f2 (x_L (x_cons (x_var rfl) x_nil) x_int) (x_f2 x_C (x_var rfl) x_add) (x_div (by omega) (by omega))) (x_L (x_cons x_C (x_cons (x_f2 (x_var rfl) x_C x_sub) x_nil)) (show gMax2 [.int 1, .int (left - 1)] = some (.int (if left - 1 > 1 then left - 1 else 1)) from rfl)) (x_mod (by omega))) x_add) ?_)
      generalize hs : 1 + c / (3 + (0 + (k : Int))) % (if left - 1 > 1 then left - 1 else 1) = s
      have hs1 : 1 ≤ s ∧ (left > 1 → s ≤ left - 1) := by
        have a1 := Int.emod_nonneg (c / (3 + (0 + (k : Int)))) (b := if left - 1 > 1 then left - 1 else 1) (by omega)
        have a2 := Int.emod_lt_of_pos (c / (3 + (0 + (k : Int)))) (b := if left - 1 > 1 then left - 1 else 1) (by omega)
        refine ⟨by omega, fun hl => ?_⟩
        split at a2 <;> split at hs <;> omega
      refine w_if (x := decide (1 < left)) (x_tB (x_f2 (x_var rfl) x_C x_gt)) (fun hb => ?_) (fun hb => ?_)
      · have hb : 1 < left := of_decide_eq_true hb
        have hs2 := hs1.2 hb
        refine w_seq (w_app (ds := qs.map .int) rfl (x_var rfl) (by rw [List.length_map, sizeLine_eq]; omega) (w_asg (x_f2 (x_var rfl) (x_var rfl) x_sub) ?_))
        refine ⟨qs ++ [s], left - s, ks, _, _, rfl, ⟨by simp at e2 ⊢; omega, ek⟩, (by rw [List.map_append]; rfl), by omega, by omega, fun x hx => ?_, by rw [List.sum_append]; simp; omega⟩
        rcases List.mem_append.mp hx with hx | hx
        · exact e5 x hx
        · simp at hx; omega
      · exact w_nil ⟨qs, left, ks, _, _, rfl, ⟨by simp at e2 ⊢; omega, ek⟩, rfl, e3, e4, e5, e6⟩
  · rintro ρ ⟨qs, left, ks, a, b, e1, e2, rfl, e3, e4, e5, e6⟩
    replace e2 := e2.1
    refine w_ret (x_f2 (a := .lst (qs.map .int)) (b := .lst [.int left]) (x_var rfl) (x_L (x_cons (x_var rfl) x_nil) (x_lstD (by rw [sizeLine_eq]; simp))) (x_addL (by rw [List.length_map, sizeLine_eq]; simp; omega))) ?_
    refine ⟨qs ++ [left], by rw [List.map_append]; rfl, fun x hx => ?_, by rw [List.sum_append]; simp; omega, by simp, by simp; omega⟩
    rcases List.mem_append.mp hx with hx | hx
    · exact e5 x hx
    · simp at hx; omega

/-! plain values are themselves -/
def flatOk : D → Bool
  | .str s => PyData.strOk s
  | .non => true | .bool _ => true | .int _ => true
  | _ => false
theorem lay_flat : ∀ {vs : List D}, (vs.all flatOk) = true → PyData.canLayAll0 (D.pyA vs) = true ∧ PyData.depthAll (D.pyA vs) = 0
  | [], _ => ⟨rfl, rfl⟩
  | v :: vs, h => by
    rw [List.all_cons, Bool.and_eq_true] at h
    obtain ⟨a, b⟩ := lay_flat h.2
    have hv : v.py.canLay0 = true ∧ v.py.depth = 0 := by
      cases v with
      | str s => exact ⟨h.1, rfl⟩
      | int i => exact ⟨rfl, rfl⟩
      | non => exact ⟨rfl, rfl⟩
      | bool _ => exact ⟨rfl, rfl⟩
      | _ => cases h.1
    refine ⟨?_, ?_⟩
    · show (v.py.canLay0 && PyData.canLayAll0 (D.pyA vs)) = true
      rw [hv.1, a]; rfl
    · show max v.py.depth (PyData.depthAll (D.pyA vs)) = 0
      rw [hv.2, b]; rfl
theorem tup_self {vs : List D} (h : vs.all flatOk = true) : gNe (.tup vs) (.tup vs) = some (.bool false) := by
  obtain ⟨a, b⟩ := lay_flat h
  have s : SeqAt.shaped (D.tup vs).py = true := by
    unfold SeqAt.shaped
    show (PyData.canLayAll0 (D.pyA vs) && decide (PyData.depthAll (D.pyA vs) + 1 ≤ 64)) = true
    rw [a, b]; rfl
  rw [x_neD rfl s s, SeqAt.eqv_refl _ (show (D.tup vs).py.canLay0 = true from a)]
  rfl
theorem lst_self {vs : List D} (h : vs.all flatOk = true) : gNe (.lst vs) (.lst vs) = some (.bool false) := by
  obtain ⟨a, b⟩ := lay_flat h
  have s : SeqAt.shaped (D.lst vs).py = true := by
    unfold SeqAt.shaped
    show (PyData.canLayAll0 (D.pyA vs) && decide (PyData.depthAll (D.pyA vs) + 1 ≤ 64)) = true
    rw [a, b]; rfl
  rw [x_neD rfl s s, SeqAt.eqv_refl _ (show (D.lst vs).py.canLay0 = true from a)]
  rfl
theorem idOf_ok {o : Str} {n : Int} (h : gd 12 o) (h1 : 0 ≤ n) (h2 : n ≤ 1000000000) : PyData.strOk (idOf o n) = true := by
  obtain ⟨m, rfl⟩ : ∃ m : Nat, n = m := ⟨n.toNat, by omega⟩
  have h3 : gd 10 (Str.ofString (toString (m : Int))) := gd_num (by omega)
  have h4 : gd 1 ("-" : Str) := gd_lit 1 (by decide +kernel)
  exact strOk_of (gd_app (gd_app h h4) h3).2
/-! ### the office of the law -/
abbrev ash : Str := "ash"
theorem gd_ash : gd 12 ash := gd_lit 12 (by decide +kernel)
theorem len_ash : ash.length = 3 := by decide +kernel
structure Std (nx : Int) (x : EntG) : Prop where
  home : x.e.home = .str ash
  epoch : x.e.epoch = 1
  rcv : x.e.receiver = .non
  rcl : x.e.recalled = false
  thing : ∃ j : Int, 1 ≤ j ∧ j < nx ∧ x.e.thing = idOf ash j
  kids : x.e.children.length ≤ 10
  held : x.e.state = "held" → x.e.children = []
def rowE (x : EntG) : Str × Int := (x.e.thing, x.e.quantity)
def heldX (es : List EntG) : List EntG := es.filter fun x => decide (x.e.state = ("held" : Str))
structure K32I (o : OfG) (rows : List (Str × Int)) (n : Nat) : Prop where
  off : o.book.office = ash
  next : o.book.next = o.book.es.length + 1
  std : ∀ x ∈ o.book.es, Std o.book.next x
  kn : KeyNd o.book.es
  perm : ((heldX o.book.es).map rowE).Perm rows
  pos : ∀ r ∈ rows, 1 ≤ r.2
  lines : o.lines.length ≤ n
  num : o.book.es.length ≤ 4 * n
  n100 : n ≤ 100
  tot : (rows.map (·.2)).sum ≤ 320
theorem perm_sum {l m : List Int} (p : l.Perm m) : l.sum = m.sum := by
  induction p with
  | nil => rfl
  | cons x _ ih => rw [List.sum_cons, List.sum_cons, ih]
  | swap x y l => simp only [List.sum_cons]; omega
  | trans _ _ ih1 ih2 => exact ih1.trans ih2
theorem mem_sum {l : List Int} (h : ∀ x ∈ l, 1 ≤ x) {x : Int} (hx : x ∈ l) : x ≤ l.sum := by
  induction l with
  | nil => cases hx
  | cons a l ih =>
    have h0 : ∀ (l : List Int), (∀ x ∈ l, 1 ≤ x) → 0 ≤ l.sum := fun l h => by
      induction l with
      | nil => simp
      | cons a l ih =>
        rw [List.sum_cons]
        have := h a (by simp)
        have := ih fun x hx => h x (List.mem_cons_of_mem _ hx)
        omega
    rw [List.sum_cons]
    rcases List.mem_cons.mp hx with rfl | hx
    · have := h0 l fun x hx => h x (List.mem_cons_of_mem _ hx)
      omega
    · have := ih (fun x hx => h x (List.mem_cons_of_mem _ hx)) hx
      have := h a (by simp)
      omega
section
variable {o : OfG} {rows : List (Str × Int)} {n : Nat}
theorem K32I.ok (I : K32I o rows n) : BkOk o.book := by
  have h1 := I.num
  have h2 := I.n100
  exact ⟨by rw [I.off, len_ash]; decide, by rw [I.next]; omega, by rw [I.next]; omega, by omega⟩
theorem K32I.fresh (I : K32I o rows n) (i : Nat) (hi : i ≤ 1000) : findE (idOf ash (o.book.next + i)) o.book.es = none := by
  rw [findE_none]
  intro x hx h
  obtain ⟨j, h1, h2, h3⟩ := (I.std x hx).thing
  rw [h3] at h
  have q1 := I.ok.nx1
  have q2 := I.ok.nx2
  have := idOf_inj h ⟨h1, by omega⟩ ⟨by omega, by omega⟩
  omega
theorem K32I.row (I : K32I o rows n) {r : Str × Int} (h : r ∈ rows) : ∃ x, x ∈ o.book.es ∧ x.e.state = "held" ∧ rowE x = r ∧ findE r.1 o.book.es = some x := by
  obtain ⟨x, h1, h2⟩ := List.mem_map.mp (I.perm.mem_iff.mpr h)
  obtain ⟨h3, h4⟩ := List.mem_filter.mp h1
  have h4 : x.e.state = "held" := by simpa using h4
  refine ⟨x, h3, h4, h2, ?_⟩
  have := findE_self I.kn x h3
  rw [← h2]
  exact this
theorem K32I.q (I : K32I o rows n) {r : Str × Int} (h : r ∈ rows) : 1 ≤ r.2 ∧ r.2 ≤ 320 := by
  have h1 := I.pos r h
  have h2 := mem_sum (l := rows.map (·.2)) (fun x hx => by
    obtain ⟨r, hr, rfl⟩ := List.mem_map.mp hx
    exact I.pos r hr) (List.mem_map.mpr ⟨r, h, rfl⟩)
  have := I.tot
  exact ⟨h1, by omega⟩
theorem K32I.thing (I : K32I o rows n) {x : EntG} (h : x ∈ o.book.es) : x.e.thing.length ≤ 30 ∧ PyData.strOk x.e.thing = true := by
  obtain ⟨j, h1, h2, h3⟩ := (I.std x h).thing
  have q2 := I.ok.nx2
  rw [h3]
  exact ⟨idOf_len (by rw [len_ash]; decide) (by omega) (by omega), idOf_ok gd_ash (by omega) (by omega)⟩
theorem K32I.rnd (I : K32I o rows n) : (rows.map (·.1)).Nodup := by
  have h1 : ((heldX o.book.es).map rowE).map (·.1) = (heldX o.book.es).map (·.e.thing) := by rw [List.map_map]; rfl
  have h2 : ((heldX o.book.es).map (·.e.thing)).Nodup := I.kn.sublist ((List.filter_sublist).map _)
  rw [← h1] at h2
  exact (I.perm.map (·.1)).nodup_iff.mp h2
theorem Std.mono {nx ny : Int} {x : EntG} (s : Std nx x) (h : nx ≤ ny) : Std ny x := by
  obtain ⟨j, h1, h2, h3⟩ := s.thing
  exact ⟨s.home, s.epoch, s.rcv, s.rcl, ⟨j, h1, by omega, h3⟩, s.kids, s.held⟩
theorem std_new {nx : Int} {j q : Int} {l c : Nat} (h1 : 1 ≤ j) (h2 : j < nx) : Std nx ⟨entNew (idOf ash j) (.str ash) q, l, c⟩ := ⟨rfl, rfl, rfl, rfl, ⟨j, h1, h2, rfl⟩, Nat.zero_le _, fun _ => rfl⟩
/-- after a thing is made -/
theorem K32I.made (I : K32I o rows n) (hn : n < 100) {w : Str} {q : Int} {l c : Nat} (hq : 1 ≤ q) (ht : (rows.map (·.2)).sum + q ≤ 320) :
    K32I (o.wrote w (o.book.add ⟨entNew (idOf ash o.book.next) (.str ash) q, l, c⟩)) (rows ++ [(idOf ash o.book.next, q)]) (n + 1) := by
  have z1 := I.next
  have z2 := I.num
  have z3 := I.lines
  have hf := I.fresh 0 (by decide)
  simp only [Int.natCast_zero, Int.add_zero, Int.ofNat_zero] at hf
  refine ⟨I.off, ?_, fun x hx => ?_, ?_, ?_, fun r hr => ?_, ?_, ?_, by omega, ?_⟩
  · show o.book.next + 1 = ((o.book.es ++ [_]).length : Int) + 1
    rw [List.length_append, z1]
    simp
  · rcases List.mem_append.mp (show x ∈ o.book.es ++ [_] from hx) with hx | hx
    · exact (I.std x hx).mono (show o.book.next ≤ o.book.next + 1 by omega)
    · simp at hx
      subst hx
      exact std_new (by omega) (show o.book.next < o.book.next + 1 by omega)
  · show ((o.book.es ++ [(_ : EntG)]).map fun y : EntG => y.e.thing).Nodup
    rw [List.map_append, List.nodup_append]
    refine ⟨I.kn, by simp, fun a ha b hb => ?_⟩
    obtain ⟨x, hx, rfl⟩ := List.mem_map.mp ha
    have hb : b = idOf ash o.book.next := by simp at hb; exact hb
    subst hb
    exact findE_none.mp hf x hx
  · show ((heldX (o.book.es ++ [_])).map rowE).Perm _
    unfold heldX
    rw [List.filter_append, List.map_append]
    exact I.perm.append (List.Perm.refl _)
  · rcases List.mem_append.mp hr with hr | hr
    · exact I.pos r hr
    · simp at hr; rw [hr]; exact hq
  · show (o.lines ++ [w]).length ≤ _
    rw [List.length_append]; simp; omega
  · show (o.book.es ++ [_]).length ≤ _
    rw [List.length_append]; simp; omega
  · rw [List.map_append, List.sum_append]; simpa using ht
theorem filter_ne {t : Str} {l : List (Str × Int)} (h : t ∉ l.map (·.1)) : l.filter (fun r => !decide (r.1 = t)) = l := by
  refine List.filter_eq_self.mpr fun r hr => ?_
  have : r.1 ≠ t := fun z => h (z ▸ List.mem_map.mpr ⟨r, hr, rfl⟩)
  simp [this]
/-- after a thing is split -/
theorem K32I.splits (I : K32I o rows n) (hn : n < 100) {w : Str} {A B news : List EntG} {x : EntG} {qs : List Int} (hs : o.book.es = A ++ x :: B) (hh : x.e.state = "held") (hq : ∀ q ∈ qs, 1 ≤ q) (hsum : qs.sum = x.e.quantity) (h4 : qs.length ≤ 4)
    (hnews : news.map (·.e) = (((o.book.ids qs.length).zip qs).map fun p => entNew p.1 x.e.home p.2)) :
    K32I (o.wrote w { o.book with es := A ++ splitE x (o.book.ids qs.length) :: (B ++ news), next := o.book.next + qs.length }) (rows.filter (fun r => !decide (r.1 = x.e.thing)) ++ (o.book.ids qs.length).zip qs) (n + 1) ∧
      ((rows.filter (fun r => !decide (r.1 = x.e.thing)) ++ (o.book.ids qs.length).zip qs).map (·.2)).sum = (rows.map (·.2)).sum := by
  have z1 := I.next
  have z2 := I.num
  have z3 := I.lines
  have hxm : x ∈ o.book.es := by rw [hs]; simp
  have sx := I.std x hxm
  have hk := I.kn
  have hnl : news.length = qs.length := by
    have := congrArg List.length hnews
    simpa [ids_len] using this
  have hnew : ∀ y ∈ news, ∃ (i : Nat) (q : Int), i < qs.length ∧ q ∈ qs ∧ y.e = entNew (idOf ash (o.book.next + i)) (.str ash) q := fun y hy => by
    have : y.e ∈ news.map (·.e) := List.mem_map.mpr ⟨y, hy, rfl⟩
    rw [hnews] at this
    obtain ⟨p, hp, e⟩ := List.mem_map.mp this
    obtain ⟨p1, p2⟩ := List.of_mem_zip hp
    unfold BkG.ids at p1
    obtain ⟨i, hi, e2⟩ := List.mem_map.mp p1
    refine ⟨i, p.2, by simpa using hi, p2, ?_⟩
    rw [← e, ← e2, sx.home, I.off]
  have hthing : news.map (·.e.thing) = o.book.ids qs.length := by
    have : (news.map (·.e)).map (·.thing) = (((o.book.ids qs.length).zip qs).map fun p => entNew p.1 x.e.home p.2).map (·.thing) := by rw [hnews]
    rw [List.map_map, List.map_map] at this
    have e3 : (((o.book.ids qs.length).zip qs).map (·.1)) = o.book.ids qs.length := List.map_fst_zip (by rw [ids_len]; exact Nat.le_refl _)
    rw [← e3]
    exact this
  have hrowN : (heldX news).map rowE = (o.book.ids qs.length).zip qs := by
    have e1 : heldX news = news := List.filter_eq_self.mpr fun y hy => by
      obtain ⟨i, q, _, _, e⟩ := hnew y hy
      rw [e]
      show decide (("held" : Str) = "held") = true
      decide +kernel
    have : (news.map (·.e)).map (fun e => (e.thing, e.quantity)) = (((o.book.ids qs.length).zip qs).map fun p => entNew p.1 x.e.home p.2).map (fun e => (e.thing, e.quantity)) := by rw [hnews]
    rw [List.map_map, List.map_map] at this
    rw [e1]
    show news.map (fun y => (y.e.thing, y.e.quantity)) = _
    refine this.trans ?_
    have e2 : ((fun e : Ent => (e.thing, e.quantity)) ∘ fun p : Str × Int => entNew p.1 x.e.home p.2) = id := rfl
    rw [e2, List.map_id]
  have hnoA : x.e.thing ∉ A.map (·.e.thing) ∧ x.e.thing ∉ B.map (·.e.thing) := by
    unfold KeyNd at hk
    rw [hs, List.map_append, List.map_cons, List.nodup_append] at hk
    exact ⟨fun z => hk.2.2 _ z _ (by simp) rfl, (List.nodup_cons.mp hk.2.1).1⟩
  have hsub : ∀ l : List EntG, x.e.thing ∉ l.map (·.e.thing) → x.e.thing ∉ ((heldX l).map rowE).map (·.1) := fun l hl z => by
    obtain ⟨r, hr, e⟩ := List.mem_map.mp z
    obtain ⟨y, hy, e2⟩ := List.mem_map.mp hr
    exact hl (List.mem_map.mpr ⟨y, (List.mem_filter.mp hy).1, by rw [← e, ← e2]; rfl⟩)
  have hold : ((heldX o.book.es).map rowE) = (heldX A).map rowE ++ rowE x :: (heldX B).map rowE := by
    rw [hs]
    unfold heldX
    rw [List.filter_append, List.filter_cons, if_pos (by simp [hh]), List.map_append, List.map_cons]
  have hfil : (rows.filter fun r => !decide (r.1 = x.e.thing)).Perm ((heldX A).map rowE ++ (heldX B).map rowE) := by
    refine (I.perm.symm.filter _).trans ?_
    rw [hold, List.filter_append, List.filter_cons, if_neg (by simp [rowE]), filter_ne (hsub A hnoA.1), filter_ne (hsub B hnoA.2)]
  have hidn : ∀ i < qs.length, ∀ y ∈ o.book.es, y.e.thing ≠ idOf ash (o.book.next + (i : Nat)) := fun i hi y hy => findE_none.mp (I.fresh i (by omega)) y hy
  have hidm : ∀ t ∈ o.book.ids qs.length, ∃ i < qs.length, t = idOf ash (o.book.next + (i : Nat)) := fun t ht => by
    unfold BkG.ids at ht
    obtain ⟨i, hi, e⟩ := List.mem_map.mp ht
    exact ⟨i, by simpa using hi, by rw [← e, I.off]⟩
  have hsumN : (((o.book.ids qs.length).zip qs).map (·.2)) = qs := List.map_snd_zip (by rw [ids_len]; exact Nat.le_refl _)
  have hsumR : ((rows.filter (fun r => !decide (r.1 = x.e.thing)) ++ (o.book.ids qs.length).zip qs).map (·.2)).sum = (rows.map (·.2)).sum := by
    rw [List.map_append, List.sum_append, hsumN, hsum, perm_sum (hfil.map (·.2)), ← perm_sum (I.perm.map (·.2)), hold]
    simp only [List.map_append, List.map_cons, List.sum_append, List.sum_cons, rowE]
    omega
  refine ⟨⟨I.off, ?_, fun y hy => ?_, ?_, ?_, fun r hr => ?_, ?_, ?_, by omega, ?_⟩, hsumR⟩
  · show o.book.next + qs.length = ((A ++ splitE x _ :: (B ++ news)).length : Int) + 1
    rw [z1, hs]
    simp only [List.length_append, List.length_cons, hnl]
    omega
  · have hle : o.book.next ≤ o.book.next + qs.length := by omega
    rcases List.mem_append.mp (show y ∈ A ++ splitE x _ :: (B ++ news) from hy) with hy | hy
    · exact (I.std y (by rw [hs]; simp [hy])).mono hle
    rcases List.mem_cons.mp hy with rfl | hy
    · have s2 := sx.mono hle
      refine ⟨s2.home, s2.epoch, s2.rcv, s2.rcl, s2.thing, ?_, fun hc => ?_⟩
      · show (x.e.children ++ o.book.ids qs.length).length ≤ 10
        rw [List.length_append, ids_len, sx.held hh]
        simp
        omega
      · exact absurd hc (by show ¬ (("split" : Str) = "held"); decide +kernel)
    rcases List.mem_append.mp hy with hy | hy
    · exact (I.std y (by rw [hs]; simp [hy])).mono hle
    · obtain ⟨i, q, hi, _, e⟩ := hnew y hy
      obtain ⟨ye, yl, yc⟩ := y
      have e : ye = _ := e
      subst e
      exact std_new (by omega) (show o.book.next + (i : Nat) < o.book.next + (qs.length : Nat) by omega)
  · show ((A ++ splitE x _ :: (B ++ news)).map (·.e.thing)).Nodup
    have e5 : (A ++ splitE x (o.book.ids qs.length) :: (B ++ news)).map (·.e.thing) = o.book.es.map (·.e.thing) ++ o.book.ids qs.length := by
      rw [hs]
      simp only [List.map_append, List.map_cons, List.append_assoc, List.cons_append, hthing]
      rfl
    rw [e5, List.nodup_append]
    refine ⟨I.kn, ids_nd I.ok _ (by omega), fun a ha b hb e => ?_⟩
    obtain ⟨y, hy, rfl⟩ := List.mem_map.mp ha
    obtain ⟨i, hi, rfl⟩ := hidm b hb
    exact hidn i hi y hy e
  · show ((heldX (A ++ splitE x _ :: (B ++ news))).map rowE).Perm _
    have e6 : (heldX (A ++ splitE x (o.book.ids qs.length) :: (B ++ news))).map rowE = (heldX A).map rowE ++ ((heldX B).map rowE ++ (o.book.ids qs.length).zip qs) := by
      rw [← hrowN]
      unfold heldX
      rw [List.filter_append, List.filter_cons, if_neg (by show ¬ (decide (("split" : Str) = "held") = true); decide +kernel), List.filter_append, List.map_append, List.map_append]
    rw [e6, ← List.append_assoc]
    exact hfil.symm.append (List.Perm.refl _)
  · rcases List.mem_append.mp hr with hr | hr
    · exact I.pos r (List.mem_filter.mp hr).1
    · exact hq _ (List.of_mem_zip hr).2
  · show (o.lines ++ [w]).length ≤ _
    rw [List.length_append]; simp; omega
  · show (A ++ splitE x _ :: (B ++ news)).length ≤ _
    rw [hs] at z2
    simp only [List.length_append, List.length_cons, hnl] at z2 ⊢
    omega
  · rw [hsumR]; exact I.tot
end

theorem heldJ (new : Str) (ts : List Str) : ∀ es : List EntG, (heldX (joinES es new ts)).map rowE = ((heldX es).map rowE).filter (fun r => !decide (r.1 ∈ ts))
  | [] => rfl
  | y :: es => by
    have ih := heldJ new ts es
    unfold heldX joinES at ih ⊢
    rw [List.map_cons, List.filter_cons, List.filter_cons]
    by_cases h : y.e.thing ∈ ts
    · have e1 : decide ((if y.e.thing ∈ ts then joinedE new y else y).e.state = ("held" : Str)) = false := by
        rw [if_pos h]
        show decide (("joined" : Str) = "held") = false
        decide +kernel
      rw [e1]
      simp only [Bool.false_eq_true, if_false]
      by_cases hh : y.e.state = "held"
      · simp only [hh, decide_true, if_true]
        rw [List.map_cons, List.filter_cons, if_neg (by simp [rowE, h])]
        exact ih
      · have : decide (y.e.state = ("held" : Str)) = false := by simp [hh]
        rw [this]
        simp only [Bool.false_eq_true, if_false]
        exact ih
    · rw [if_neg h]
      by_cases hh : y.e.state = "held"
      · simp only [hh, decide_true, if_true]
        rw [List.map_cons, List.map_cons, List.filter_cons, if_pos (by simp [rowE, h])]
        rw [ih]
      · have : decide (y.e.state = ("held" : Str)) = false := by simp [hh]
        rw [this]
        simp only [Bool.false_eq_true, if_false]
        exact ih
section
variable {o : OfG} {rows : List (Str × Int)} {n : Nat}
theorem K32I.joins {P M Q : List (Str × Int)} (I : K32I o (P ++ M ++ Q) n) (hn : n < 100) {w : Str} {l c : Nat} (h2 : 2 ≤ M.length) :
    K32I (o.wrote w { o.book with es := joinES o.book.es (idOf ash o.book.next) (M.map (·.1)) ++ [⟨entNew (idOf ash o.book.next) (.str ash) (M.map (·.2)).sum, l, c⟩], next := o.book.next + 1 }) (P ++ Q ++ [(idOf ash o.book.next, (M.map (·.2)).sum)]) (n + 1) ∧
      ((P ++ Q ++ [(idOf ash o.book.next, (M.map (·.2)).sum)]).map (·.2)).sum = ((P ++ M ++ Q).map (·.2)).sum := by
  have z1 := I.next
  have z2 := I.num
  have z3 := I.lines
  have hf := I.fresh 0 (by decide)
  simp only [Int.natCast_zero, Int.add_zero, Int.ofNat_zero] at hf
  have hlen : ∀ new ts, (joinES o.book.es new ts).length = o.book.es.length := fun new ts => by unfold joinES; rw [List.length_map]
  have hsum : ((P ++ Q ++ [(idOf ash o.book.next, (M.map (·.2)).sum)]).map (·.2)).sum = ((P ++ M ++ Q).map (·.2)).sum := by
    simp only [List.map_append, List.sum_append, List.map_cons, List.map_nil, List.sum_cons, List.sum_nil]
    omega
  have hnd := I.rnd
  refine ⟨⟨I.off, ?_, fun y hy => ?_, ?_, ?_, fun r hr => ?_, ?_, ?_, by omega, ?_⟩, hsum⟩
  · show o.book.next + 1 = ((joinES o.book.es _ _ ++ [_]).length : Int) + 1
    rw [List.length_append, hlen, z1]
    simp
  · have hle : o.book.next ≤ o.book.next + 1 := by omega
    rcases List.mem_append.mp (show y ∈ joinES o.book.es _ _ ++ [_] from hy) with hy | hy
    · unfold joinES at hy
      obtain ⟨z, hz, rfl⟩ := List.mem_map.mp hy
      have sz := (I.std z hz).mono hle
      split
      · rename_i hm
        obtain ⟨r, hr, e⟩ := List.mem_map.mp hm
        have hzh : z.e.state = "held" := by
          obtain ⟨x, hx1, hx2, hx3, hx4⟩ := I.row (r := r) (by simp [hr])
          have := findE_self I.kn z hz
          rw [← e, hx4] at this
          cases this
          exact hx2
        refine ⟨sz.home, sz.epoch, sz.rcv, sz.rcl, sz.thing, ?_, fun hc => ?_⟩
        · show (z.e.children ++ [_]).length ≤ 10
          rw [sz.held hzh]
          simp
        · exact absurd hc (by show ¬ (("joined" : Str) = "held"); decide +kernel)
      · exact sz
    · simp at hy
      subst hy
      exact std_new (by omega) (show o.book.next < o.book.next + 1 by omega)
  · show ((joinES o.book.es _ _ ++ [(_ : EntG)]).map fun y : EntG => y.e.thing).Nodup
    rw [List.map_append, joinES_thing, List.nodup_append]
    refine ⟨I.kn, by simp, fun a ha b hb => ?_⟩
    obtain ⟨x, hx, rfl⟩ := List.mem_map.mp ha
    have hb : b = idOf ash o.book.next := by simp at hb; exact hb
    subst hb
    exact findE_none.mp hf x hx
  · show ((heldX (joinES o.book.es _ _ ++ [_])).map rowE).Perm _
    have e1 : ∀ (a : List EntG) (y : EntG), y.e.state = "held" → (heldX (a ++ [y])).map rowE = (heldX a).map rowE ++ [rowE y] := fun a y hy => by
      unfold heldX
      rw [List.filter_append, List.map_append, List.filter_cons, if_pos (by simp [hy])]
      rfl
    rw [e1 _ _ rfl, heldJ]
    refine List.Perm.append ?_ (List.Perm.refl _)
    refine (I.perm.filter _).trans ?_
    have keep : ∀ L : List (Str × Int), (∀ r ∈ L, r.1 ∉ M.map (·.1)) → L.filter (fun r => !decide (r.1 ∈ M.map (·.1))) = L := fun L hL => List.filter_eq_self.mpr fun r hr => by simpa using hL r hr
    have e2 : M.filter (fun r => !decide (r.1 ∈ M.map (·.1))) = [] := List.filter_eq_nil_iff.mpr fun r hr => by
      have : r.1 ∈ M.map (·.1) := List.mem_map.mpr ⟨r, hr, rfl⟩
      simp only [this, decide_true, Bool.not_true, Bool.false_eq_true, not_false_eq_true]
    rw [List.map_append, List.map_append, List.nodup_append, List.nodup_append] at hnd
    rw [List.filter_append, List.filter_append, e2, keep P fun r hr z => hnd.1.2.2 _ (List.mem_map.mpr ⟨r, hr, rfl⟩) _ z rfl, keep Q fun r hr z => hnd.2.2 _ (List.mem_append_right _ z) _ (List.mem_map.mpr ⟨r, hr, rfl⟩) rfl, List.append_nil]
  · rcases List.mem_append.mp hr with hr | hr
    · exact I.pos r (by
        rcases List.mem_append.mp hr with h | h
        · simp [h]
        · simp [h])
    · simp at hr
      rw [hr]
      have hp : ∀ x ∈ M.map (·.2), 1 ≤ x := fun x hx => by
        obtain ⟨r, hr, rfl⟩ := List.mem_map.mp hx
        exact I.pos r (by simp [hr])
      cases M with
      | nil => simp at h2
      | cons r M =>
        have := mem_sum hp (List.mem_map.mpr ⟨r, by simp, rfl⟩)
        have := hp _ (List.mem_map.mpr ⟨r, by simp, rfl⟩)
        show 1 ≤ _
        omega
  · show (o.lines ++ [w]).length ≤ _
    rw [List.length_append]; simp; omega
  · show (joinES o.book.es _ _ ++ [_]).length ≤ _
    rw [List.length_append, hlen]; simp; omega
  · rw [hsum]; exact I.tot
end

def rowD1 (r : Str × Int) : D := .tup [.str r.1, .int r.2]
def rowsD (rows : List (Str × Int)) : List D := rows.map rowD1
theorem Has.fin {S : Store} {C L X : List (Nat × Cell)} {c : Cell} (h : Has S (L ++ (C ++ X))) : Has (S ++ [c]) (C ++ [(S.length, c)]) :=
  ((h.new c).sub (r := (S.length, c) :: C) (.cons₂ _ (List.Sublist.trans (List.sublist_append_left C X) (List.sublist_append_right L _)))).perm (List.perm_append_singleton _ _).symm
section
variable {S : Store} {o : OfG} {rows : List (Str × Int)} {n hl : Nat} {E : Exn → Store → Prop}
theorem pick_row (c : Int) (h : rows ≠ []) : ∃ r ∈ rows, atI (rowsD rows) (c % (rows.length : Int)) = some (rowD1 r) := by
  have hl : 0 < rows.length := List.length_pos_iff.mpr h
  have h1 := Int.emod_nonneg c (b := (rows.length : Int)) (by omega)
  have h2 := Int.emod_lt_of_pos c (b := (rows.length : Int)) (by omega)
  obtain ⟨k, hk⟩ : ∃ k : Nat, c % (rows.length : Int) = k := ⟨(c % (rows.length : Int)).toNat, by omega⟩
  rw [hk]
  have hk2 : k < rows.length := by omega
  refine ⟨rows[k], List.getElem_mem hk2, atI_n ?_⟩
  unfold rowsD
  rw [List.getElem?_map, List.getElem?_eq_getElem hk2]
  rfl
/-- int(c) % len(held), of the list at slot 1 -/
theorem ev_ix {ρ : Rho} {c : Int} {kk : Int} {r : Str × Int} (h1 : ρ[1]? = some (.val (.loc hl))) (h3 : ρ[3]? = some (.val (.int c))) (hS : S[hl]? = some (.lst (rowsD rows))) (hk : kk = rows.length) (hr : atI (rowsD rows) (c % kk) = some (rowD1 r)) (hne : 0 < kk) :
    mIx (mP (fVar 1)) (m2 gMod (mP (fL gInt (fCons (fVar 3) fNil))) (mL gLen (mCons (mP (fVar 1)) mNil))) ρ S = some (.ok (rowD1 r), S) := by
  refine ev_eqn (v_ix (v_P (x_var h1) (v_2 (v_P (x_L (x_cons (x_var h3) x_nil) x_int) (v_L (v_cons (v_P (x_var h1) (v_nil ⟨.int kk, ?_, rfl, .int (c % kk), x_mod hne, rfl, _, _, _, .inl (view_at hS), rfl, hr, rfl, rfl⟩))))))))
  show gLen [view S (.loc hl)] = _
  rw [view_at hS, x_lenL]
  unfold rowsD
  rw [List.length_map, hk]
theorem dash_idOf (n : Int) : ("ash-" : Str) ++ Str.ofString (toString n) = idOf ash n := by
  unfold idOf
  have : ("ash-" : Str) = ash ++ "-" := by decide +kernel
  rw [this]
theorem told_held {x : EntG} (sx : Std n x) : x.e.told = .tup [.str x.e.thing, .str ash, .int x.e.quantity, .int 1, .str x.e.state, .non, .bool false] := by
  unfold Ent.told
  rw [sx.home, sx.epoch, sx.rcv, sx.rcl]
theorem view_tup (l : List D) : view S (.tup l) = .tup l ∧ isLc S (.tup l) = false := ⟨rfl, rfl⟩
/-- the entry of a thing is not another than this one -/
theorem ev_entry {ρ : Rho} {x : EntG} {t : Str} {R : List (Nat × Cell)} {st : Str} {q : Int} {fs : SFs} {fd : F} {nx : Int} (h : Has S (o.cells ++ R)) (h0 : ρ[0]? = some (.val (.loc o.loc)) ∨ ρ[1]? = some (.val (.loc o.loc))) (hx : findE t o.book.es = some x) (sx : Std nx x) (hst : x.e.state = st) (hq : x.e.quantity = q) (ht : x.e.thing = t) (hok : PyData.strOk t = true) (hok2 : PyData.strOk st = true)
    {fo : F} (ho : fo ρ = some (.loc o.loc)) (hfs : fs ρ S = some (.ok [.str t], S)) (hd : fd ρ = some (.tup [.str t, .str ash, .int q, .int 1, .str st, .non, .bool false])) :
    mtB (m2 gNe (mMeth "Office" "entry" f_Office_entry (mP fo) fs) (mP fd)) ρ S = some (.ok false, S) := by
  have e1 := t_oentry (t := t) h
  rw [hx] at e1
  refine ev_eqn (vt_B (v_2 (v_meth (v_P ho ⟨_, _, rfl, (off_at h).1, rfl, Ev.ok hfs (Ev.ok e1 (v_P hd ⟨.bool false, ?_, rfl, false, rfl, rfl, rfl⟩))⟩))))
  show gNe (view S x.e.told) _ = _
  have e2 : x.e.told = .tup [.str t, .str ash, .int q, .int 1, .str st, .non, .bool false] := by
    unfold Ent.told
    rw [sx.home, sx.epoch, sx.rcv, sx.rcl, hst, hq, ht]
  rw [e2]
  refine tup_self ?_
  show (PyData.strOk t && (PyData.strOk ash && (true && (true && (PyData.strOk st && (true && (true && true))))))) = true
  rw [hok, hok2]
  decide +kernel
/-- what a step of the law leaves -/
def StepQ (o : OfG) (rows : List (Str × Int)) (n : Nat) : D → Store → Prop := fun d S' => ∃ hl' rows' o', d = .loc hl' ∧ o'.loc = o.loc ∧ K32I o' rows' (n + 1) ∧ (rows'.map (·.2)).sum = (rows.map (·.2)).sum ∧ rows' ≠ [] ∧ Has S' (o'.cells ++ [(hl', .lst (rowsD rows'))])
theorem K32I.up (I : K32I o rows n) (hn : n < 100) : K32I o rows (n + 1) :=
  ⟨I.off, I.next, I.std, I.kn, I.perm, I.pos, by have := I.lines; omega, by have := I.num; omega, by omega, I.tot⟩
theorem sp_L_split {c num : Int} (I : K32I o rows n) (hn : n < 100) (hne : rows ≠ []) (hnum : num = o.book.next) (h : Has S (o.cells ++ [(hl, .lst (rowsD rows))])) : Ev (f_L_split [.loc o.loc, .loc hl, .int num, .int c] S) (StepQ o rows n) E := by
  have hS : S[hl]? = some (.lst (rowsD rows)) := h.at_ _ _ (by simp)
  have hlen : 0 < rows.length := List.length_pos_iff.mpr hne
  obtain ⟨kk, hkk⟩ : ∃ kk : Int, kk = rows.length := ⟨_, rfl⟩
  obtain ⟨r, hr, hat⟩ := pick_row c hne
  rw [← hkk] at hat
  obtain ⟨x, hx1, hx2, hx3, hx4⟩ := I.row hr
  obtain ⟨q1, q2⟩ := I.q hr
  have sx := I.std x hx1
  have hxt : x.e.thing = r.1 := by rw [← hx3]; rfl
  have hxq : x.e.quantity = r.2 := by rw [← hx3]; rfl
  obtain ⟨xl, xo⟩ := I.thing hx1
  refine ev_def rfl ?_
  refine vs_seq (vs_asg (v_ix (Ev.ok (ev_ix rfl rfl hS hkk hat (by omega)) (v_P rfl ⟨[.str r.1, .int r.2], 0, .str r.1, .inr rfl, rfl, atI_0, _, rfl, then_nx ?_⟩))))
  refine vs_seq (vs_asg (v_ix (Ev.ok (ev_ix rfl rfl hS hkk hat (by omega)) (v_P rfl ⟨[.str r.1, .int r.2], 1, .int r.2, .inr rfl, rfl, atI_1, _, rfl, then_nx ?_⟩))))
  obtain ⟨d, e1, qs, rfl, hq, hsum, hl1, hl4⟩ := e_cut (q := r.2) (c := c / 8) q1 (by omega)
  refine vs_seq (vs_asg (v_P (d := .lst (qs.map .int)) (x_L (x_cons (x_var rfl) (x_cons (x_f2 (x_var rfl) x_C (x_div (by decide) (by decide))) x_nil)) e1) ⟨_, rfl, then_nx ?_⟩))
  obtain ⟨kq, hkq⟩ : ∃ kq : Int, kq = qs.length := ⟨_, rfl⟩
  have hlq : gLen [.lst (qs.map D.int)] = some (.int kq) := by rw [x_lenL, List.length_map, hkq]
  refine vs_seq (vs_if (vt_P (b := decide (kq < 2)) (x_tB (x_f2 (x_L (x_cons (x_var rfl) x_nil) hlq) x_C x_lt)) ?_))
  by_cases hk2 : kq < 2
  · rw [decide_eq_true hk2]
    exact iteT (vs_ret (v_P rfl ⟨hl, rows, o, rfl, rfl, I.up hn, rfl, hne, h⟩))
  rw [decide_eq_false hk2]
  refine iteF (vs_nil (then_nx ?_))
  obtain ⟨A, B, hs, -, -⟩ := findE_split hx4
  have z2 := I.num
  have z3 := I.lines
  have z4 := I.n100
  have hids : ∀ i ∈ o.book.ids qs.length, ∃ k < qs.length, i = idOf ash (o.book.next + (k : Nat)) := fun t ht => by
    unfold BkG.ids at ht
    obtain ⟨i, hi, e⟩ := List.mem_map.mp ht
    exact ⟨i, by simpa using hi, by rw [← e, I.off]⟩
  have ts := t_split (S := S) (R := [(hl, .lst (rowsD rows))]) (E := fun _ _ => False) (t := r.1) (x := x) (A := A) (B := B) (o := o) (qs := qs) I.ok h (by omega) hs hx4 hx2 sx.rcl (by rw [← hxt]; omega) hq (by omega) (by omega) (by rw [hsum, hxq]) (fun i hi => by
    obtain ⟨k, hk, rfl⟩ := hids i hi
    exact I.fresh k (by omega)) (by rw [sx.held hx2]; simp)
  refine vs_seq (vs_asg (v_meth (v_P rfl ⟨_, _, rfl, (off_at h).1, rfl, v_cons (v_P rfl (v_cons (v_P rfl (v_nil ?_))))⟩)))
  refine ts.mono (fun d S1 hd => ?_) (fun _ _ q => q.elim)
  clear ts
  obtain ⟨m, rfl, w, b', ⟨news, hb1, hb2⟩, h1⟩ := hd
  refine ⟨_, rfl, then_nx ?_⟩
  obtain ⟨I2, hsum2⟩ := I.splits hn (w := w) hs hx2 (fun q hq' => (hq q hq').1) (by rw [hsum, hxq]) hl4 hb1
  rw [← hb2] at I2
  have hrow2 : rows.filter (fun r' => !decide (r'.1 = x.e.thing)) = rows.filter (fun r' => !decide (r'.1 = r.1)) := by rw [hxt]
  rw [hrow2] at I2 hsum2
  -- the ids are told
  have hidl : (o.book.ids qs.length).length = qs.length := ids_len _
  have hidD : (o.book.ids qs.length).map D.str = (List.range qs.length).map fun k : Nat => D.str (idOf ash (o.book.next + (k : Nat))) := by
    unfold BkG.ids
    rw [List.map_map, I.off]
    rfl
  have nx1 := I.ok.nx1
  have nx2 := I.ok.nx2
  have e2 : ∀ c1 c2 c3 : Sl, mP (fLc (fIs itR1 (fCons (fL gLen (fCons (fVar 6) fNil)) fNil)) (st1 10) ftYes (f2 gAdd (fC (.str "ash-")) (fL gStr (fCons (f2 gAdd (fVar 2) (fVar 10)) fNil))) [10]) [.val (.loc o.loc), .val (.loc hl), .val (.int num), .val (.int c), .val (.str r.1), .val (.int r.2), .val (.lst (qs.map .int)), .val (.loc m), c1, c2, c3] S1 = some (.ok (.lst ((o.book.ids qs.length).map .str)), S1) := fun c1 c2 c3 => by
    have hc := x_lcGo (xs := List.range qs.length) (inj := fun k : Nat => D.int (0 + (k : Nat))) (p := fun _ => true) (v := fun k : Nat => D.str (idOf ash (o.book.next + (k : Nat)))) (ρ := [.val (.loc o.loc), .val (.loc hl), .val (.int num), .val (.int c), .val (.str r.1), .val (.int r.2), .val (.lst (qs.map .int)), .val (.loc m), c1, c2, .junk]) (set := st1 10) (ft := ftYes) (f := f2 gAdd (fC (.str "ash-")) (fL gStr (fCons (f2 gAdd (fVar 2) (fVar 10)) fNil))) fun k hk => ⟨_, rfl, rfl, fun _ => by
      have hk' := List.mem_range.mp hk
      have e3 : num + (0 + (k : Int)) = o.book.next + (k : Nat) := by rw [hnum]; omega
      have hl10 : (Str.ofString (toString (o.book.next + (k : Nat)))).length ≤ 10 := by
        obtain ⟨mm, hmm⟩ : ∃ mm : Nat, o.book.next + (k : Nat) = mm := ⟨(o.book.next + (k : Nat)).toNat, by omega⟩
        rw [hmm]
        exact (gd_num (by omega)).1
      refine x_f2 x_C (x_L (x_cons (x_f2 (x_var rfl) (x_var rfl) x_add) x_nil) (x_str ?_)) ?_
      · rw [e3]
        have : (o.book.next + (k : Nat)).natAbs ≤ 1000000000 := by omega
        exact Nat.lt_of_lt_of_le ((Nat.log2_lt (by omega)).mpr (show (o.book.next + (k : Nat)).natAbs < 2 ^ 30 by omega)) (by decide)
      · rw [e3, ← dash_idOf]
        have : ("ash-" : Str).length = 4 := by decide +kernel
        exact x_addS (by rw [this, sizeLine_eq]; omega)⟩
    refine ev_eqn (v_P (x_lc (x_Is (x_cons (x_L (x_cons (x_var rfl) x_nil) hlq) x_nil) (show itR1 [.int kq] = some (rngD 0 qs.length) by rw [hkq]; exact rngN _ (by omega))) (by unfold rngD; rw [List.length_map, List.length_range]; omega) (by
      refine hc.trans ?_
      rw [List.filter_eq_self.mpr (fun _ _ => rfl), hidD])) ⟨rfl, rfl⟩)
  have hidok : ((o.book.ids qs.length).map D.str).all flatOk = true := by
    rw [List.all_map]
    refine List.all_eq_true.mpr fun i hi => ?_
    obtain ⟨k, hk, rfl⟩ := hids i hi
    exact idOf_ok gd_ash (by omega) (by omega)
  have hm1 : S1[m]? = some (.lst ((o.book.ids qs.length).map .str)) := h1.hd
  have t1 : ∀ c1 c2 c3 : Sl, mtB (m2 gNe (mP (fVar 7)) (mP (fLc (fIs itR1 (fCons (fL gLen (fCons (fVar 6) fNil)) fNil)) (st1 10) ftYes (f2 gAdd (fC (.str "ash-")) (fL gStr (fCons (f2 gAdd (fVar 2) (fVar 10)) fNil))) [10]))) [.val (.loc o.loc), .val (.loc hl), .val (.int num), .val (.int c), .val (.str r.1), .val (.int r.2), .val (.lst (qs.map .int)), .val (.loc m), c1, c2, c3] S1 = some (.ok false, S1) := fun c1 c2 c3 => by
    refine ev_eqn (vt_B (v_2 (v_P rfl (Ev.ok (e2 c1 c2 c3) ⟨.bool false, ?_, rfl, false, rfl, rfl, rfl⟩))))
    rw [view_at hm1]
    exact lst_self hidok
  refine vs_seq (vs_if (Ev.ok (t1 _ _ _) (iteF (vs_nil (then_nx ?_)))))
  -- the entry
  have h1t := h1.tail
  have hxe : findE r.1 (o.wrote w b').book.es = some (splitE x (o.book.ids qs.length)) := by
    have hmem : splitE x (o.book.ids qs.length) ∈ (o.wrote w b').book.es := by rw [hb2]; show _ ∈ A ++ splitE x _ :: (B ++ news); simp
    have := findE_self I2.kn _ hmem
    have e4 : (splitE x (o.book.ids qs.length)).e.thing = r.1 := hxt
    rw [e4] at this
    exact this
  have t2 : ∀ c1 c2 c3 : Sl, mtB (m2 gNe (mMeth "Office" "entry" f_Office_entry (mP (fVar 0)) (mCons (mP (fVar 4)) mNil)) (mP (fL gTupD (fCons (fVar 4) (fCons (fC (.str "ash")) (fCons (fVar 5) (fCons (fC (.int 1)) (fCons (fC (.str "split")) (fCons (fC .non) (fCons (fC (.bool false)) fNil)))))))))) [.val (.loc o.loc), .val (.loc hl), .val (.int num), .val (.int c), .val (.str r.1), .val (.int r.2), .val (.lst (qs.map .int)), .val (.loc m), c1, c2, c3] S1 = some (.ok false, S1) := fun c1 c2 c3 =>
    ev_entry (o := o.wrote w b') (R := [(hl, .lst (rowsD rows))]) (nx := (o.wrote w b').book.next) h1t (.inl rfl) hxe (I2.std _ (findE_some hxe).1) (st := "split") rfl hxq hxt (by rw [← hxt]; exact xo) (by decide +kernel) rfl (ev_eqn (v_cons (v_P rfl (v_nil ⟨rfl, rfl⟩)))) (x_L (x_cons (x_var rfl) (x_cons x_C (x_cons (x_var rfl) (x_cons x_C (x_cons x_C (x_cons x_C (x_cons x_C x_nil))))))) (x_tupD (by rw [sizeLine_eq]; simp)))
  refine vs_seq (vs_if (Ev.ok (t2 _ _ _) (iteF (vs_nil (then_nx ?_)))))
  -- the rows
  have hS1 : S1[hl]? = some (.lst (rowsD rows)) := h1t.at_ _ _ (by simp)
  have e5 : ∀ c1 c2 c3 : Sl, mLc (miL (mP (fVar 1))) (st1 9) (mtP (ftB (f2 gNe (f2 gIx (fVar 9) (fC (.int 0))) (fVar 4)))) (mP (fVar 9)) [9] [.val (.loc o.loc), .val (.loc hl), .val (.int num), .val (.int c), .val (.str r.1), .val (.int r.2), .val (.lst (qs.map .int)), .val (.loc m), c1, c2, c3] S1 = some (.ok (.loc S1.length), S1 ++ [.lst (rowsD (rows.filter fun r' => !decide (r'.1 = r.1)))]) := fun c1 c2 c3 => by
    refine ev_eqn (v_lcp (v_iL (v_P rfl ⟨hl, _, rfl, hS1, fun d => match d with
      | .tup [.str t, q] => if t = r.1 then none else some (.tup [.str t, q])
      | _ => none, ?_, fun acc => ?_, fun d hd acc => ?_, rfl, ?_⟩)))
    · unfold rowsD
      have := I.perm.length_eq
      have h4 : (heldX o.book.es).length ≤ o.book.es.length := List.length_filter_le _ _
      rw [List.length_map] at this
      rw [List.length_map, sizeLine_eq]
      omega
    · exact (h1t.ext _).at_ _ _ (by simp)
    · obtain ⟨r', hr', rfl⟩ := List.mem_map.mp hd
      refine ⟨_, rfl, ?_⟩
      show match (if r'.1 = r.1 then none else some (D.tup [.str r'.1, .int r'.2])) with | some y => _ | none => _
      have ht : ∀ S, mtP (ftB (f2 gNe (f2 gIx (fVar 9) (fC (.int 0))) (fVar 4))) [.val (.loc o.loc), .val (.loc hl), .val (.int num), .val (.int c), .val (.str r.1), .val (.int r.2), .val (.lst (qs.map .int)), .val (.loc m), c1, .val (.tup [.str r'.1, .int r'.2]), c3] S = some (.ok (!decide (r'.1 = r.1)), S) := fun S =>
        ev_eqn (vt_P (x_tB (x_f2 (x_f2 (x_var rfl) x_C (x_ixT atI_0)) (x_var rfl) (strne r'.1 r.1))) ⟨rfl, rfl⟩)
      by_cases hh : r'.1 = r.1
      · rw [if_pos hh]
        simp only
        refine (ht _).trans ?_
        rw [decide_eq_true hh]
        rfl
      · rw [if_neg hh]
        simp only
        refine ⟨(ht _).trans ?_, ev_eqn (v_P rfl ⟨rfl, rfl⟩)⟩
        rw [decide_eq_false hh]
        rfl
    · unfold rowsD
      rw [fm_if (f := rowD1) (fun r' : Str × Int => !decide (r'.1 = r.1)) rowD1 fun r' hr' => by
        show (if r'.1 = r.1 then none else some (D.tup [.str r'.1, .int r'.2])) = _
        by_cases hh : r'.1 = r.1
        · simp [hh]
        · simp [hh]; rfl]
  refine vs_seq (vs_asg (Ev.ok (e5 _ _ _) ⟨_, rfl, then_nx ?_⟩))
  have h2 := h1.new (.lst (rowsD (rows.filter fun r' => !decide (r'.1 = r.1))))
  generalize S1.length = n1 at h2 ⊢
  generalize S1 ++ [Cell.lst (rowsD (rows.filter fun r' => !decide (r'.1 = r.1)))] = S2 at h2 ⊢
  have hm2 : S2[m]? = some (.lst ((o.book.ids qs.length).map .str)) := h2.tail.hd
  have hpl : ((o.book.ids qs.length).zip qs).length = qs.length := by rw [List.length_zip, hidl, Nat.min_self]
  have e6 : ∀ c2 c3 : Sl, mLc (miR (mL gLen (mCons (mP (fVar 7)) mNil))) (st1 10) mtYes (mTup (mCons (mIx (mP (fVar 7)) (mP (fVar 10))) (mCons (mP (f2 gIx (fVar 6) (fVar 10))) mNil))) [10] [.val (.loc o.loc), .val (.loc hl), .val (.int num), .val (.int c), .val (.str r.1), .val (.int r.2), .val (.lst (qs.map .int)), .val (.loc m), .val (.loc n1), c2, c3] S2 = some (.ok (.loc S2.length), S2 ++ [.lst (rowsD ((o.book.ids qs.length).zip qs))]) := fun c2 c3 => by
    have hnat : kq.toNat = qs.length := by omega
    refine ev_eqn (v_lcp (v_rng (v_L (v_cons (v_P rfl (v_nil ⟨.int kq, ?_, rfl, kq, rfl, by omega, fun d => match d with
      | .int i => (((o.book.ids qs.length).zip qs)[i.toNat]?).map rowD1
      | _ => none, ?_, fun acc => trivial, fun d hd acc => ?_, rfl, ?_⟩))))))
    · show gLen [view S2 (.loc m)] = _
      rw [view_at hm2, x_lenL, List.length_map, hidl, hkq]
    · show (rngD 0 kq.toNat).length ≤ _
      unfold rngD
      rw [List.length_map, List.length_range, sizeLine_eq]
      omega
    · obtain ⟨i, hi, rfl⟩ : ∃ i : Nat, i < qs.length ∧ d = .int (0 + (i : Nat)) := by
        have hd : d ∈ rngD 0 kq.toNat := hd
        unfold rngD at hd
        obtain ⟨i, hi, rfl⟩ := List.mem_map.mp hd
        exact ⟨i, by rw [← hnat]; simpa using hi, rfl⟩
      have g1 : (o.book.ids qs.length)[i]? = some ((o.book.ids qs.length)[i]'(by omega)) := List.getElem?_eq_getElem _
      have g2 : qs[i]? = some (qs[i]'hi) := List.getElem?_eq_getElem _
      have g3 : ((o.book.ids qs.length).zip qs)[i]? = some ((o.book.ids qs.length)[i]'(by omega), qs[i]'hi) := by
        rw [List.getElem?_zip_eq_some]
        exact ⟨g1, g2⟩
      refine ⟨_, rfl, ?_⟩
      have g4 : ((0 : Int) + (i : Nat)).toNat = i := by omega
      show match (((o.book.ids qs.length).zip qs)[((0 : Int) + (i : Nat)).toNat]?).map rowD1 with | some y => _ | none => _
      rw [g4, g3]
      refine ⟨rfl, ?_⟩
      have hm3 : (S2 ++ [Cell.lst acc])[m]? = some (.lst ((o.book.ids qs.length).map .str)) := (h2.ext [.lst acc]).tail.hd
      refine ev_eqn (v_tup (v_cons (v_ix (v_P rfl (v_P rfl ⟨_, 0 + (i : Nat), .str ((o.book.ids qs.length)[i]'(by omega)), .inl (view_at hm3), rfl, ?_, v_cons (v_P (d := .int (qs[i]'hi)) (x_f2 (x_var rfl) (x_var rfl) (x_ixL ?_)) (v_nil ⟨by rw [sizeLine_eq]; simp, rfl, rfl⟩))⟩)))))
      · rw [Int.zero_add]
        exact atI_n (by rw [List.getElem?_map, g1]; rfl)
      · rw [Int.zero_add]
        exact atI_n (by rw [List.getElem?_map, g2]; rfl)
    · show S2 ++ [Cell.lst ((rngD 0 kq.toNat).filterMap _)] = _
      rw [hnat]
      unfold rngD
      have e7 : rowsD ((o.book.ids qs.length).zip qs) = (List.range qs.length).map fun i => rowD1 ((((o.book.ids qs.length).zip qs)[i]?).getD ("", 0)) := by
        unfold rowsD
        refine List.ext_getElem? fun i => ?_
        rw [List.getElem?_map, List.getElem?_map]
        by_cases hi : i < qs.length
        · have g : ((o.book.ids qs.length).zip qs)[i]? = some (((o.book.ids qs.length).zip qs)[i]'(by omega)) := List.getElem?_eq_getElem (by omega)
          rw [List.getElem?_range hi, Option.map_some, g]
          rfl
        · rw [List.getElem?_eq_none (by omega), List.getElem?_eq_none (by simpa using hi)]
          rfl
      rw [e7, fm_map (f := fun i : Nat => D.int (0 + (i : Nat))) (g := fun i : Nat => rowD1 ((((o.book.ids qs.length).zip qs)[i]?).getD ("", 0))) _ _ (fun i hi => by
        have hi := List.mem_range.mp hi
        have g4 : ((0 : Int) + (i : Nat)).toNat = i := by omega
        show (((o.book.ids qs.length).zip qs)[((0 : Int) + (i : Nat)).toNat]?).map rowD1 = _
        rw [g4, List.getElem?_eq_getElem (by omega)]
        rfl)]
  refine vs_ret (v_cat (v_P rfl (Ev.ok (e6 _ _) ⟨rowsD (rows.filter fun r' => !decide (r'.1 = r.1)), rowsD ((o.book.ids qs.length).zip qs), ?_, view_at get_end, ?_, ?_⟩)))
  · refine view_at ?_
    have := (h2.ext [.lst (rowsD ((o.book.ids qs.length).zip qs))]).hd
    exact this
  · unfold rowsD
    have h3 := I.perm.length_eq
    have h4 : (heldX o.book.es).length ≤ o.book.es.length := List.length_filter_le _ _
    have h5 : (rows.filter fun r' => !decide (r'.1 = r.1)).length ≤ rows.length := List.length_filter_le _ _
    rw [List.length_map] at h3
    rw [List.length_map, List.length_map, sizeLine_eq, hpl]
    omega
  · have e8 : rowsD (rows.filter fun r' => !decide (r'.1 = r.1)) ++ rowsD ((o.book.ids qs.length).zip qs) = rowsD (rows.filter (fun r' => !decide (r'.1 = r.1)) ++ (o.book.ids qs.length).zip qs) := by
      unfold rowsD
      rw [List.map_append]
    rw [e8]
    refine ⟨_, _, o.wrote w b', rfl, rfl, I2, hsum2, ?_, ?_⟩
    · intro z
      have := congrArg List.length z
      rw [List.length_append, hpl, List.length_nil] at this
      omega
    · exact Has.fin (L := [_, _]) (h2.ext [.lst (rowsD ((o.book.ids qs.length).zip qs))])
end

theorem cut_mid (xs : List D) (i j : Nat) (h1 : i ≤ j) (h2 : j ≤ xs.length) : Pd.cutD xs (some (i : Int)) (some (j : Int)) = (xs.drop i).take (j - i) := by
  unfold Pd.cutD
  rw [HT.sIx_nat, HT.sIx_nat, Nat.min_eq_left (show i ≤ xs.length by omega), Nat.min_eq_left h2]
theorem cut_from (xs : List D) (i : Nat) (h1 : i ≤ xs.length) : Pd.cutD xs (some (i : Int)) none = xs.drop i := by
  unfold Pd.cutD
  rw [HT.sIx_nat, HT.sIx_none, Nat.min_eq_left h1, List.take_of_length_le (by rw [List.length_drop]; omega)]
section
variable {S : Store} {o : OfG} {rows : List (Str × Int)} {n hl : Nat} {E : Exn → Store → Prop}
theorem K32I.ents (I : K32I o rows n) : ∀ M : List (Str × Int), (∀ r ∈ M, r ∈ rows) → ∃ xs : List EntG, xs.map rowE = M ∧ ∀ x ∈ xs, findE x.e.thing o.book.es = some x ∧ x.e.state = "held"
  | [], _ => ⟨[], rfl, by simp⟩
  | r :: M, h => by
    obtain ⟨xs, h1, h2⟩ := I.ents M fun r' hr' => h r' (List.mem_cons_of_mem _ hr')
    obtain ⟨x, q1, q2, q3, q4⟩ := I.row (h r (by simp))
    refine ⟨x :: xs, by rw [List.map_cons, h1, q3], fun y hy => ?_⟩
    rcases List.mem_cons.mp hy with rfl | hy
    · exact ⟨by have : y.e.thing = r.1 := by rw [← q3]; rfl
                rw [this]; exact q4, q2⟩
    · exact h2 y hy
theorem K32I.len (I : K32I o rows n) : rows.length ≤ 400 := by
  have h3 := I.perm.length_eq
  have h4 : (heldX o.book.es).length ≤ o.book.es.length := List.length_filter_le _ _
  have h5 := I.num
  have h6 := I.n100
  rw [List.length_map] at h3
  omega
theorem rowsD_len (l : List (Str × Int)) : (rowsD l).length = l.length := by unfold rowsD; rw [List.length_map]
/-- a column of a list's cell of rows -/
theorem ev_col {ρ : Rho} {l : Nat} {M : List (Str × Int)} {i j : Nat} {k : Int} {g : Str × Int → D} (h1 : ρ[j]? = some (.val (.loc l))) (hi : i < ρ.length) (hS : S[l]? = some (.lst (rowsD M))) (hM : M.length ≤ 1000) (hg : ∀ r : Str × Int, atI [D.str r.1, D.int r.2] k = some (g r)) :
    mLc (miL (mP (fVar j))) (st1 i) mtYes (mP (f2 gIx (fVar i) (fC (.int k)))) [i] ρ S = some (.ok (.loc S.length), S ++ [.lst (M.map g)]) := by
  refine ev_eqn (v_lcp (v_iL (v_P (x_var h1) ⟨l, _, rfl, hS, fun d => match d with
    | .tup ds => atI ds k
    | _ => none, ?_, fun acc => ?_, fun d hd acc => ?_, rfl, ?_⟩)))
  · rw [rowsD_len, sizeLine_eq]; omega
  · show (S ++ [Cell.lst acc])[l]? = _
    rw [List.getElem?_append_left (get_lt hS)]
    exact hS
  · obtain ⟨r, hr, rfl⟩ := List.mem_map.mp hd
    refine ⟨_, rfl, ?_⟩
    show match atI [D.str r.1, D.int r.2] k with | some y => _ | none => _
    rw [hg r]
    refine ⟨rfl, ev_eqn (v_P (x_f2 (a := rowD1 r) (b := .int k) (x_var ?_) x_C (x_ixT (hg r))) ⟨rfl, rfl⟩)⟩
    show ((ρ.set i .junk).set i (.val (rowD1 r)))[i]? = _
    rw [List.getElem?_set_self (by rw [List.length_set]; exact hi)]
  · unfold rowsD
    rw [fm_map (f := rowD1) (g := g) _ _ (fun r _ => hg r)]
theorem sp_L_join {c num : Int} (I : K32I o rows n) (hn : n < 100) (hne : rows ≠ []) (hnum : num = o.book.next) (h : Has S (o.cells ++ [(hl, .lst (rowsD rows))])) : Ev (f_L_join [.loc o.loc, .loc hl, .int num, .int c] S) (StepQ o rows n) E := by
  have hS : S[hl]? = some (.lst (rowsD rows)) := h.at_ _ _ (by simp)
  have hr4 := I.len
  obtain ⟨kk, hkk⟩ : ∃ kk : Int, kk = rows.length := ⟨_, rfl⟩
  have nx1 := I.ok.nx1
  have nx2 := I.ok.nx2
  refine ev_def rfl ?_
  obtain ⟨ct, hct⟩ : ∃ ct : Nat, 2 + c % 3 = ct := ⟨(2 + c % 3).toNat, by omega⟩
  have hct2 : 2 ≤ ct ∧ ct ≤ 4 := by omega
  refine vs_seq (vs_asg (v_P (d := .int ct) (x_f2 x_C (x_f2 (x_L (x_cons (x_var rfl) x_nil) x_int) x_C (x_mod (by decide))) (by rw [x_add, hct])) ⟨_, rfl, then_nx ?_⟩))
  have hlen : gLen [view S (.loc hl)] = some (.int kk) := by rw [view_at hS, x_lenL, rowsD_len, hkk]
  have t0 : mtB (m2 gLt (mL gLen (mCons (mP (fVar 1)) mNil)) (mP (fVar 4))) ((rho0 N_L_join [.loc o.loc, .loc hl, .int num, .int c]).set 4 (.val (.int ct))) S = some (.ok (decide (kk < ct)), S) :=
    ev_eqn (vt_B (v_2 (v_L (v_cons (v_P rfl (v_nil ⟨.int kk, hlen, rfl, v_P rfl ⟨.bool (decide (kk < ct)), x_lt, rfl, _, rfl, rfl, rfl⟩⟩))))))
  refine vs_seq (vs_if (Ev.ok t0 ?_))
  by_cases hk : kk < ct
  · rw [decide_eq_true hk]
    exact iteT (vs_ret (v_P rfl ⟨hl, rows, o, rfl, rfl, I.up hn, rfl, hne, h⟩))
  rw [decide_eq_false hk]
  refine iteF (vs_nil (then_nx ?_))
  obtain ⟨pl, hpl⟩ : ∃ pl : Nat, (c / 3) % (kk - ct + 1) = pl := ⟨((c / 3) % (kk - ct + 1)).toNat, by have := Int.emod_nonneg (c / 3) (b := kk - ct + 1) (by omega); omega⟩
  have hpl2 : pl + ct ≤ rows.length := by
    have := Int.emod_lt_of_pos (c / 3) (b := kk - ct + 1) (by omega)
    omega
  have e0 : m2 gMod (mP (f2 gDiv (fL gInt (fCons (fVar 3) fNil)) (fC (.int 3)))) (m2 gAdd (m2 gSub (mL gLen (mCons (mP (fVar 1)) mNil)) (mP (fVar 4))) (mP (fC (.int 1)))) ((rho0 N_L_join [.loc o.loc, .loc hl, .int num, .int c]).set 4 (.val (.int ct))) S = some (.ok (.int pl), S) := by
    refine ev_eqn (v_2 (v_P (x_f2 (x_L (x_cons (x_var rfl) x_nil) x_int) x_C (x_div (by decide) (by decide))) (v_2 (v_2 (v_L (v_cons (v_P rfl (v_nil ⟨.int kk, hlen, rfl, v_P rfl ⟨.int (kk - ct), x_sub, rfl, v_P rfl ⟨.int (kk - ct + 1), x_add, rfl, .int pl, ?_, rfl, rfl, rfl⟩⟩⟩))))))))
    show gMod (.int (c / 3)) (.int (kk - ct + 1)) = _
    rw [x_mod (by omega), hpl]
  refine vs_seq (vs_asg (Ev.ok e0 ⟨_, rfl, then_nx ?_⟩))
  -- the rows that are joined
  generalize hP : rows.take pl = P
  generalize hM : (rows.drop pl).take ct = M
  generalize hQ : rows.drop (pl + ct) = Q
  have hrows : rows = P ++ M ++ Q := by
    rw [← hP, ← hM, ← hQ, List.append_assoc, ← List.drop_drop, List.take_append_drop, List.take_append_drop]
  have hMl : M.length = ct := by rw [← hM, List.length_take, List.length_drop]; omega
  have hM2 : ((rowsD rows).drop pl).take (pl + ct - pl) = rowsD M := by
    rw [← hM]
    unfold rowsD
    rw [List.map_take, List.map_drop, Nat.add_sub_cancel_left]
  have e1 : mSl (mP (fVar 1)) (moE (mP (fVar 5))) (moE (mP (f2 gAdd (fVar 5) (fVar 4)))) (((rho0 N_L_join [.loc o.loc, .loc hl, .int num, .int c]).set 4 (.val (.int ct))).set 5 (.val (.int pl))) S = some (.ok (.loc S.length), S ++ [.lst (rowsD M)]) := by
    refine ev_eqn (v_slL (v_P rfl (v_oE (v_P rfl ⟨pl, rfl, v_oE (v_P (d := .int ((pl : Int) + ct)) (x_f2 (x_var rfl) (x_var rfl) x_add) ⟨_, rfl, hl, _, rfl, hS, rfl, ?_⟩)⟩))))
    have : ((pl : Int) + ct) = ((pl + ct : Nat) : Int) := by omega
    rw [this, cut_mid _ _ _ (by omega) (by rw [rowsD_len]; omega), hM2]
  refine vs_seq (vs_asg (Ev.ok e1 ⟨_, rfl, then_nx ?_⟩))
  have h1 := h.new (.lst (rowsD M))
  generalize S.length = m1 at h1 ⊢
  generalize S ++ [Cell.lst (rowsD M)] = S1 at h1 ⊢
  have hS1 : S1[m1]? = some (.lst (rowsD M)) := h1.hd
  have e2 : ∀ c1 c2 : Sl, mLc (miL (mP (fVar 6))) (st1 8) mtYes (mP (f2 gIx (fVar 8) (fC (.int 0)))) [8] [.val (.loc o.loc), .val (.loc hl), .val (.int num), .val (.int c), .val (.int ct), .val (.int pl), .val (.loc m1), c1, c2] S1 = some (.ok (.loc S1.length), S1 ++ [.lst (M.map fun r => .str r.1)]) := fun c1 c2 =>
    ev_col (j := 6) (i := 8) (k := 0) rfl (by simp) hS1 (by omega) fun r => atI_0
  have h2 := h1.new (.lst (M.map fun r => .str r.1))
  generalize hm2 : S1.length = mt2 at h2 e2
  generalize hS2 : S1 ++ [Cell.lst (M.map fun r => D.str r.1)] = S2 at h2 e2
  obtain ⟨xs, hxs, hx⟩ := I.ents M (fun r hr => by rw [hrows]; simp [hr])
  have hxl : xs.length = ct := by rw [← hMl, ← hxs, List.length_map]
  have hM1 : M.map (·.1) = xs.map (·.e.thing) := by rw [← hxs, List.map_map]; rfl
  have hMq : M.map (·.2) = xs.map (·.e.quantity) := by rw [← hxs, List.map_map]; rfl
  have hMd : (M.map fun r => D.str r.1) = xs.map fun x => D.str x.e.thing := by rw [← hxs, List.map_map]; rfl
  have hoff := I.off
  have hrnd := I.rnd
  rw [hMd] at h2
  have h2p : Has S2 (o.cells ++ ([(m1, .lst (rowsD M)), (mt2, .lst (xs.map fun x => D.str x.e.thing)), (hl, .lst (rowsD rows))])) := h2.perm (by
    exact (((List.Perm.swap _ _ _)).trans ((List.perm_append_comm_assoc [_, _] o.cells [_]))))
  have hlines := I.lines
  have hn4 := I.n100
  have htot := I.tot
  have tj := t_join (S := S2) (o := o) (E := fun _ _ => False) (R := [(m1, .lst (rowsD M)), (mt2, .lst (xs.map fun x => D.str x.e.thing)), (hl, .lst (rowsD rows))]) (m := mt2) (xs := xs) (hs := ash) I.ok I.kn h2p (by simp) (by omega)
    (fun x hxm => by
      obtain ⟨q1, q2⟩ := hx x hxm
      have hxe := (findE_some q1).1
      have sx := I.std x hxe
      exact ⟨q1, q2, sx.rcl, sx.home, by rw [sx.held q2]; simp, by have := (I.thing hxe).1; omega⟩)
    (by
      rw [← hM1]
      rw [hrows] at hrnd
      refine hrnd.sublist ?_
      rw [List.map_append, List.map_append]
      exact (List.sublist_append_right _ _).trans (List.sublist_append_left _ _)) (by omega) (by omega)
    (by
      rw [← hMq]
      have : ∀ L : List (Str × Int), (∀ r ∈ L, 1 ≤ r.2) → 0 ≤ (L.map (·.2)).sum := fun L hL => by
        induction L with
        | nil => simp
        | cons a L ih =>
          rw [List.map_cons, List.sum_cons]
          have := hL a (by simp)
          have := ih fun x hx => hL x (List.mem_cons_of_mem _ hx)
          omega
      have p1 := this P fun r hr => I.pos r (by rw [hrows]; simp [hr])
      have p2 := this Q fun r hr => I.pos r (by rw [hrows]; simp [hr])
      rw [hrows] at htot
      simp only [List.map_append, List.sum_append] at htot
      omega)
    (by
      have := I.fresh 0 (by decide)
      rw [hoff]
      simpa using this)
  rw [hoff] at tj
  refine vs_seq (vs_asg (v_meth (v_P rfl ⟨_, _, rfl, (off_at h1.tail).1, rfl, v_cons (Ev.ok (e2 _ _) (v_nil ?_))⟩)))
  refine tj.mono (fun d S3 hd => ?_) (fun _ _ q => q.elim)
  clear tj
  obtain ⟨rfl, w, b', ⟨l, cc, hb'⟩, h3⟩ := hd
  refine ⟨_, rfl, then_nx ?_⟩
  rw [hrows] at I
  obtain ⟨I2, hsum2⟩ := I.joins hn (w := w) (l := l) (c := cc) (by omega)
  rw [hM1, hMq, ← hb'] at I2
  rw [← hMq] at I2
  have hstr : gStr [.int num] = some (.str (Str.ofString (toString o.book.next))) := by
    rw [hnum]
    refine x_str ?_
    have : o.book.next.natAbs ≤ 1000000000 := by omega
    exact Nat.lt_of_lt_of_le ((Nat.log2_lt (by omega)).mpr (show o.book.next.natAbs < 2 ^ 30 by omega)) (by decide)
  have hl10 : (Str.ofString (toString o.book.next)).length ≤ 10 := by
    obtain ⟨mm, hmm⟩ : ∃ mm : Nat, o.book.next = mm := ⟨o.book.next.toNat, by omega⟩
    rw [hmm]
    exact (gd_num (by omega)).1
  have hadd : gAdd (.str ("ash-" : Str)) (.str (Str.ofString (toString o.book.next))) = some (.str (idOf ash o.book.next)) := by
    rw [← dash_idOf]
    have : ("ash-" : Str).length = 4 := by decide +kernel
    exact x_addS (by rw [this, sizeLine_eq]; omega)
  refine vs_seq (vs_if (vt_P (b := false) (x_tB (x_f2 (x_var rfl) (x_f2 x_C (x_L (x_cons (x_var rfl) x_nil) hstr) hadd) (by rw [strne]; simp))) (iteF (vs_nil (then_nx ?_)))))
  -- the entries
  have hS3m : S3[m1]? = some (.lst (rowsD M)) := h3.at_ _ _ (by simp)
  refine vs_seq (vs_for (v_iL (v_P rfl ⟨m1, _, rfl, hS3m, ?_⟩)))
  refine go_inv (P := fun lft ρ S' => S' = S3 ∧ (∃ todo : List (Str × Int), lft = rowsD todo ∧ ∀ r ∈ todo, r ∈ M) ∧ ∃ c8, ρ = [.val (.loc o.loc), .val (.loc hl), .val (.int num), .val (.int c), .val (.int ct), .val (.int pl), .val (.loc m1), .val (.str (idOf ash o.book.next)), c8]) (fun _ _ _ hh => by rw [hh.1]; exact hS3m) (fun ρ S' hh => ?_) (fun d lft ρ S' hh => ?_) _ _ _ ⟨rfl, ⟨M, rfl, fun r hr => hr⟩, _, rfl⟩
  rotate_left
  · obtain ⟨rfl, ⟨todo, e3, e4⟩, c8, rfl⟩ := hh
    cases todo with
    | nil => cases e3
    | cons r todo =>
      cases e3
      have hr := e4 r (by simp)
      have hr' : r ∈ xs.map rowE := by rw [hxs]; exact hr
      obtain ⟨x, hxm, hxr⟩ := List.mem_map.mp hr'
      obtain ⟨q1, q2⟩ := hx x hxm
      have hxt : x.e.thing = r.1 := by rw [← hxr]; rfl
      have hxq : x.e.quantity = r.2 := by rw [← hxr]; rfl
      have hxe : findE r.1 (o.wrote w b').book.es = some (joinedE (idOf ash o.book.next) x) := by
        have hmem : joinedE (idOf ash o.book.next) x ∈ (o.wrote w b').book.es := by
          rw [hb']
          refine List.mem_append_left _ ?_
          unfold joinES
          refine List.mem_map.mpr ⟨x, (findE_some q1).1, ?_⟩
          rw [if_pos (List.mem_map.mpr ⟨x, hxm, rfl⟩)]
        have := findE_self I2.kn _ hmem
        have e4 : (joinedE (idOf ash o.book.next) x).e.thing = r.1 := hxt
        rw [e4] at this
        exact this
      have xo := (I.thing (findE_some q1).1).2
      show EG (gIf _ _ _ [.val (.loc o.loc), .val (.loc hl), .val (.int num), .val (.int c), .val (.int ct), .val (.int pl), .val (.loc m1), .val (.str (idOf ash o.book.next)), .val (rowD1 r)] S') _
      have t1 : mtB (m2 gNe (mMeth "Office" "entry" f_Office_entry (mP (fVar 0)) (mCons (mP (f2 gIx (fVar 8) (fC (.int 0)))) mNil)) (mP (fL gTupD (fCons (f2 gIx (fVar 8) (fC (.int 0))) (fCons (fC (.str "ash")) (fCons (f2 gIx (fVar 8) (fC (.int 1))) (fCons (fC (.int 1)) (fCons (fC (.str "joined")) (fCons (fC .non) (fCons (fC (.bool false)) fNil)))))))))) [.val (.loc o.loc), .val (.loc hl), .val (.int num), .val (.int c), .val (.int ct), .val (.int pl), .val (.loc m1), .val (.str (idOf ash o.book.next)), .val (rowD1 r)] S' = some (.ok false, S') :=
        ev_entry (o := o.wrote w b') (R := [(m1, .lst (rowsD M)), (mt2, .lst (xs.map fun x => D.str x.e.thing)), (hl, .lst (rowsD rows))]) (nx := (o.wrote w b').book.next) h3 (.inl rfl) hxe (I2.std _ (findE_some hxe).1) (st := "joined") rfl hxq hxt (by rw [← hxt]; exact xo) (by decide +kernel) rfl (ev_eqn (v_cons (v_P (x_f2 (x_var rfl) x_C (x_ixT atI_0)) (v_nil ⟨rfl, rfl⟩)))) (x_L (x_cons (x_f2 (x_var rfl) x_C (x_ixT atI_0)) (x_cons x_C (x_cons (x_f2 (x_var rfl) x_C (x_ixT atI_1)) (x_cons x_C (x_cons x_C (x_cons x_C (x_cons x_C x_nil))))))) (x_tupD (by rw [sizeLine_eq]; simp)))
      exact vs_if (Ev.ok t1 (iteF (vs_nil ⟨rfl, ⟨todo, rfl, fun r' hr' => e4 r' (List.mem_cons_of_mem _ hr')⟩, _, rfl⟩)))
  obtain ⟨rfl, -, c8, rfl⟩ := hh
  refine then_nx ?_
  -- the new list
  have hS3 : S'[hl]? = some (.lst (rowsD rows)) := h3.at_ _ _ (by simp)
  have hP2 : (rowsD rows).take pl = rowsD P := by rw [← hP]; unfold rowsD; rw [List.map_take]
  have hQ2 : (rowsD rows).drop (pl + ct) = rowsD Q := by rw [← hQ]; unfold rowsD; rw [List.map_drop]
  generalize hρ : ([.val (.loc o.loc), .val (.loc hl), .val (.int num), .val (.int c), .val (.int ct), .val (.int pl), .val (.loc m1), .val (.str (idOf ash o.book.next)), c8] : Rho) = ρ
  have r1 : ρ[1]? = some (.val (.loc hl)) := by rw [← hρ]; rfl
  have r4 : ρ[4]? = some (.val (.int ct)) := by rw [← hρ]; rfl
  have r5 : ρ[5]? = some (.val (.int pl)) := by rw [← hρ]; rfl
  have r6 : ρ[6]? = some (.val (.loc m1)) := by rw [← hρ]; rfl
  have r7 : ρ[7]? = some (.val (.str (idOf ash o.book.next))) := by rw [← hρ]; rfl
  have rl : 8 < ρ.length := by rw [← hρ]; simp
  have s1 : mSl (mP (fVar 1)) moNo (moE (mP (fVar 5))) ρ S' = some (.ok (.loc S'.length), S' ++ [.lst (rowsD P)]) := by
    refine ev_eqn (v_slL (v_P (x_var r1) (v_oNo (v_oE (v_P (x_var r5) ⟨_, rfl, hl, _, rfl, hS3, rfl, ?_⟩)))))
    rw [cut_to _ _ (by rw [rowsD_len]; omega), hP2]
  have k1 := h3.ext [.lst (rowsD P)]
  have s2 : mSl (mP (fVar 1)) (moE (mP (f2 gAdd (fVar 5) (fVar 4)))) moNo ρ (S' ++ [.lst (rowsD P)]) = some (.ok (.loc (S' ++ [Cell.lst (rowsD P)]).length), S' ++ [.lst (rowsD P)] ++ [.lst (rowsD Q)]) := by
    refine ev_eqn (v_slL (v_P (x_var r1) (v_oE (v_P (d := .int ((pl : Int) + ct)) (x_f2 (x_var r5) (x_var r4) x_add) ⟨_, rfl, v_oNo ⟨hl, rowsD rows, rfl, k1.at_ _ _ (by simp), rfl, ?_⟩⟩))))
    have : ((pl : Int) + ct) = ((pl + ct : Nat) : Int) := by omega
    rw [this, cut_from _ _ (by rw [rowsD_len]; omega), hQ2]
  have g1 : (S' ++ [Cell.lst (rowsD P)] ++ [Cell.lst (rowsD Q)])[S'.length]? = some (.lst (rowsD P)) := by
    rw [List.getElem?_append_left (by simp)]
    exact get_end
  have hPQ : rowsD P ++ rowsD Q = rowsD (P ++ Q) := by unfold rowsD; rw [List.map_append]
  have hPl : P.length ≤ 400 := by rw [← hP, List.length_take]; omega
  have hQl : Q.length ≤ 400 := by rw [← hQ, List.length_drop]; omega
  have s3 : mCat (mSl (mP (fVar 1)) moNo (moE (mP (fVar 5)))) (mSl (mP (fVar 1)) (moE (mP (f2 gAdd (fVar 5) (fVar 4)))) moNo) ρ S' = some (.ok (.loc (S' ++ [Cell.lst (rowsD P)] ++ [Cell.lst (rowsD Q)]).length), S' ++ [.lst (rowsD P)] ++ [.lst (rowsD Q)] ++ [.lst (rowsD (P ++ Q))]) := by
    refine ev_eqn (v_cat (Ev.ok s1 (Ev.ok s2 ⟨rowsD P, rowsD Q, view_at g1, view_at get_end, by rw [rowsD_len, rowsD_len, sizeLine_eq]; omega, rfl, by rw [hPQ]⟩)))
  have k2 := (k1.ext [.lst (rowsD Q)]).ext [.lst (rowsD (P ++ Q))]
  generalize hS4 : S' ++ [Cell.lst (rowsD P)] ++ [Cell.lst (rowsD Q)] ++ [Cell.lst (rowsD (P ++ Q))] = S4 at s3 k2
  generalize hl4 : (S' ++ [Cell.lst (rowsD P)] ++ [Cell.lst (rowsD Q)]).length = l4 at s3
  have g4 : S4[l4]? = some (.lst (rowsD (P ++ Q))) := by rw [← hS4, ← hl4]; exact get_end
  have s4 : mLc (miL (mP (fVar 6))) (st1 8) mtYes (mP (f2 gIx (fVar 8) (fC (.int 1)))) [8] ρ S4 = some (.ok (.loc S4.length), S4 ++ [.lst (M.map fun r => .int r.2)]) :=
    ev_col (j := 6) (i := 8) (k := 1) r6 rl (k2.at_ _ _ (by simp)) (by omega) fun r => atI_1
  have hMi : (M.map fun r => D.int r.2) = (M.map (·.2)).map D.int := by rw [List.map_map]; rfl
  have s5 : mDisp (mCons (mTup (mCons (mP (fVar 7)) (mCons (mL gSum (mCons (mLc (miL (mP (fVar 6))) (st1 8) mtYes (mP (f2 gIx (fVar 8) (fC (.int 1)))) [8]) mNil)) mNil))) mNil) ρ S4 = some (.ok (.loc (S4 ++ [Cell.lst (M.map fun r => D.int r.2)]).length), S4 ++ [.lst (M.map fun r => .int r.2)] ++ [.lst [rowD1 (idOf ash o.book.next, (M.map (·.2)).sum)]]) := by
    refine ev_eqn (v_disp (v_cons (v_tup (v_cons (v_P (x_var r7) (v_cons (v_L (v_cons (Ev.ok s4 (v_nil ⟨.int (M.map (·.2)).sum, ?_, rfl, v_nil ⟨by rw [sizeLine_eq]; simp, v_nil ⟨by rw [sizeLine_eq]; simp, rfl, rfl⟩⟩⟩))))))))))
    show gSum [view _ (.loc S4.length)] = _
    rw [view_at get_end, hMi, gSum_of]
  have g5 : (S4 ++ [Cell.lst (M.map fun r => D.int r.2)] ++ [Cell.lst [rowD1 (idOf ash o.book.next, (M.map (·.2)).sum)]])[l4]? = some (.lst (rowsD (P ++ Q))) := by
    have hlt := get_lt g4
    rw [List.getElem?_append_left (by rw [List.length_append]; omega), List.getElem?_append_left hlt]
    exact g4
  refine vs_ret (v_cat (Ev.ok s3 (Ev.ok s5 ⟨rowsD (P ++ Q), _, view_at g5, view_at get_end, ?_, ?_⟩)))
  · rw [rowsD_len, List.length_append, sizeLine_eq]
    simp
    omega
  · have e8 : rowsD (P ++ Q) ++ [rowD1 (idOf ash o.book.next, (M.map (·.2)).sum)] = rowsD (P ++ Q ++ [(idOf ash o.book.next, (M.map (·.2)).sum)]) := by
      unfold rowsD
      rw [List.map_append (l₁ := P ++ Q)]
      rfl
    rw [e8]
    refine ⟨_, _, o.wrote w b', rfl, rfl, I2, by rw [hsum2, ← hrows], by simp, ?_⟩
    exact Has.fin (L := []) ((k2.ext [.lst (M.map fun r => .int r.2)]).ext [.lst [rowD1 (idOf ash o.book.next, (M.map (·.2)).sum)]])
end

theorem cutN_len (ns : List Int) (a b : Nat) : (Pd.cutN ns (some (a : Int)) (some (b : Int))).length ≤ b - a := by
  unfold Pd.cutN
  rw [HT.sIx_nat, HT.sIx_nat, List.length_take]
  omega
theorem cutN_to (ns : List Int) (b : Nat) : (Pd.cutN ns none (some (b : Int))).length ≤ b := by
  unfold Pd.cutN
  rw [HT.sIx_none, HT.sIx_nat, List.length_take]
  omega
section
variable {S : Store} {o : OfG} {rows : List (Str × Int)} {n hl : Nat} {E : Exn → Store → Prop}
theorem heldE_row (I : K32I o rows n) : (heldE o.book.es).Perm (rows.map (·.1)) := by
  have := I.perm.map (·.1)
  rw [List.map_map] at this
  exact this
theorem mem_heldE (I : K32I o rows n) {t : Str} (h : t ∈ heldE o.book.es) : PyData.strOk t = true := by
  unfold heldE at h
  obtain ⟨x, hx, rfl⟩ := List.mem_map.mp h
  exact (I.thing (List.mem_filter.mp hx).1).2
/-- sorted(office.held()) is sorted([row[0] for row in held]) -/
theorem ev_sorted {ρ : Rho} (I : K32I o rows n) (h : Has S (o.cells ++ [(hl, .lst (rowsD rows))])) (h1 : ρ[1]? = some (.val (.loc o.loc))) (h2 : ρ[2]? = some (.val (.loc hl))) (hl6 : 6 < ρ.length) :
    Ev (mtB (m2 gNe (mSortS (mMeth "Office" "held" f_Office_held (mP (fVar 1)) mNil)) (mSortS (mLc (miL (mP (fVar 2))) (st1 6) mtYes (mP (f2 gIx (fVar 6) (fC (.int 0)))) [6]))) ρ S) (fun b S' => b = false ∧ Has S' (o.cells ++ [(hl, .lst (rowsD rows))])) E := by
  have z2 := I.num
  have z4 := I.n100
  have e1 := t_held (o := o) (R := [(hl, .lst (rowsD rows))]) I.kn (by omega) h
  have a1 : mSortS (mMeth "Office" "held" f_Office_held (mP (fVar 1)) mNil) ρ S = some (.ok (.loc (S ++ [Cell.lst (o.book.es.map fun x => .str x.e.thing), .lst ((heldE o.book.es).map .str)]).length), S ++ [.lst (o.book.es.map fun x => .str x.e.thing), .lst ((heldE o.book.es).map .str)] ++ [.lst ((sortS (heldE o.book.es)).map .str)]) := by
    refine ev_eqn (v_sortS (v_meth (v_P (x_var h1) ⟨_, _, rfl, (off_at h).1, rfl, v_nil (Ev.ok e1 ⟨S.length + 1, rfl, ?_, rfl, rfl⟩)⟩)))
    rw [List.getElem?_append_right (by omega), Nat.add_sub_cancel_left]
    rfl
  have k1 := (h.ext [.lst (o.book.es.map fun x => .str x.e.thing), .lst ((heldE o.book.es).map .str)]).ext [.lst ((sortS (heldE o.book.es)).map .str)]
  have g0 := get_end (S := S ++ [Cell.lst (o.book.es.map fun x => .str x.e.thing), .lst ((heldE o.book.es).map .str)]) (c := .lst ((sortS (heldE o.book.es)).map .str))
  generalize (S ++ [Cell.lst (o.book.es.map fun x => D.str x.e.thing), Cell.lst ((heldE o.book.es).map D.str)]).length = la at a1 g0
  generalize S ++ [Cell.lst (o.book.es.map fun x => D.str x.e.thing), Cell.lst ((heldE o.book.es).map D.str)] ++ [Cell.lst ((sortS (heldE o.book.es)).map D.str)] = S1 at a1 k1 g0
  have e2 := ev_col (S := S1) (ρ := ρ) (M := rows) (j := 2) (i := 6) (k := 0) (g := fun r => .str r.1) h2 hl6 (k1.at_ hl (.lst (rowsD rows)) (by simp)) (by have := I.len; omega) fun r => atI_0
  have e3 : (rows.map fun r => D.str r.1) = (rows.map (·.1)).map D.str := by rw [List.map_map]; rfl
  rw [e3] at e2
  have a2 : mSortS (mLc (miL (mP (fVar 2))) (st1 6) mtYes (mP (f2 gIx (fVar 6) (fC (.int 0)))) [6]) ρ S1 = some (.ok (.loc (S1 ++ [Cell.lst ((rows.map (·.1)).map D.str)]).length), S1 ++ [.lst ((rows.map (·.1)).map .str)] ++ [.lst ((sortS (rows.map (·.1))).map .str)]) :=
    ev_eqn (v_sortS (Ev.ok e2 ⟨_, rfl, get_end, rfl, rfl⟩))
  have k2 := (k1.ext [.lst ((rows.map (·.1)).map .str)]).ext [.lst ((sortS (rows.map (·.1))).map .str)]
  have g1 : (S1 ++ [Cell.lst ((rows.map (·.1)).map D.str)] ++ [.lst ((sortS (rows.map (·.1))).map .str)])[la]? = some (.lst ((sortS (heldE o.book.es)).map .str)) := by
    have hlt := get_lt g0
    rw [List.getElem?_append_left (by rw [List.length_append]; omega), List.getElem?_append_left hlt]
    exact g0
  refine vt_B (v_2 (Ev.ok a1 (Ev.ok a2 ⟨.bool false, ?_, rfl, false, rfl, rfl, k2⟩)))
  rw [view_at g1, view_at get_end, sortS_eq (heldE_row I)]
  refine lst_self ?_
  rw [List.all_map]
  refine List.all_eq_true.mpr fun t ht => ?_
  exact mem_heldE I ((heldE_row I).mem_iff.mpr ((sortS_perm _).mem_iff.mp ht))
/-- sum([row[1] for row in held]) -/
theorem ev_sum {ρ : Rho} (I : K32I o rows n) (h : Has S (o.cells ++ [(hl, .lst (rowsD rows))])) (h2 : ρ[2]? = some (.val (.loc hl))) (hl6 : 6 < ρ.length) :
    mL gSum (mCons (mLc (miL (mP (fVar 2))) (st1 6) mtYes (mP (f2 gIx (fVar 6) (fC (.int 1)))) [6]) mNil) ρ S = some (.ok (.int (rows.map (·.2)).sum), S ++ [.lst ((rows.map (·.2)).map .int)]) := by
  have e2 := ev_col (S := S) (ρ := ρ) (M := rows) (j := 2) (i := 6) (k := 1) (g := fun r => .int r.2) h2 hl6 (h.at_ hl (.lst (rowsD rows)) (by simp)) (by have := I.len; omega) fun r => atI_1
  have e3 : (rows.map fun r => D.int r.2) = (rows.map (·.2)).map D.int := by rw [List.map_map]; rfl
  rw [e3] at e2
  refine ev_eqn (v_L (v_cons (Ev.ok e2 (v_nil ⟨.int (rows.map (·.2)).sum, ?_, rfl, rfl, rfl⟩))))
  show gSum [view _ (.loc S.length)] = _
  rw [view_at get_end, gSum_of]
/-- the entries of all that is held -/
theorem sp_entries {ns : List Int} {c3 c6 c7 c8 : Sl} {T num : Int} {QG : Fx → Store → Prop} (I : K32I o rows n) (h : Has S (o.cells ++ [(hl, .lst (rowsD rows))])) (k : ∀ c7 c8, QG (.nx [.val (.scr ns), .val (.loc o.loc), .val (.loc hl), c3, .val (.int T), .val (.int num), c6, c7, c8]) S) :
    EG (gFor (miL (mP (fVar 2))) (st2 7 8) (gIf (mtB (m2 gNe (mMeth "Office" "entry" f_Office_entry (mP (fVar 1)) (mCons (mP (fVar 7)) mNil)) (mP (fL gTupD (fCons (fVar 7) (fCons (fC (.str "ash")) (fCons (fVar 8) (fCons (fC (.int 1)) (fCons (fC (.str "held")) (fCons (fC .non) (fCons (fC (.bool false)) fNil))))))))))) (gRet (mP (fC (.bool false)))) gNil) [.val (.scr ns), .val (.loc o.loc), .val (.loc hl), c3, .val (.int T), .val (.int num), c6, c7, c8] S) QG := by
  have hS : S[hl]? = some (.lst (rowsD rows)) := h.at_ _ _ (by simp)
  refine vs_for (v_iL (v_P rfl ⟨hl, _, rfl, hS, ?_⟩))
  refine go_inv (P := fun lft ρ S' => S' = S ∧ (∃ todo : List (Str × Int), lft = rowsD todo ∧ ∀ r ∈ todo, r ∈ rows) ∧ ∃ a b, ρ = [.val (.scr ns), .val (.loc o.loc), .val (.loc hl), c3, .val (.int T), .val (.int num), c6, a, b]) (fun _ _ _ hh => by rw [hh.1]; exact hS) (fun ρ S' hh => ?_) (fun d lft ρ S' hh => ?_) _ _ _ ⟨rfl, ⟨rows, rfl, fun r hr => hr⟩, _, _, rfl⟩
  · obtain ⟨rfl, -, a, b, rfl⟩ := hh
    exact k a b
  · obtain ⟨rfl, ⟨todo, e3, e4⟩, a, b, rfl⟩ := hh
    cases todo with
    | nil => cases e3
    | cons r todo =>
      cases e3
      obtain ⟨x, hx1, hx2, hx3, hx4⟩ := I.row (e4 r (by simp))
      have hxt : x.e.thing = r.1 := by rw [← hx3]; rfl
      have hxq : x.e.quantity = r.2 := by rw [← hx3]; rfl
      show EG (gIf _ _ _ [.val (.scr ns), .val (.loc o.loc), .val (.loc hl), c3, .val (.int T), .val (.int num), c6, .val (.str r.1), .val (.int r.2)] S') _
      have t1 : mtB (m2 gNe (mMeth "Office" "entry" f_Office_entry (mP (fVar 1)) (mCons (mP (fVar 7)) mNil)) (mP (fL gTupD (fCons (fVar 7) (fCons (fC (.str "ash")) (fCons (fVar 8) (fCons (fC (.int 1)) (fCons (fC (.str "held")) (fCons (fC .non) (fCons (fC (.bool false)) fNil)))))))))) [.val (.scr ns), .val (.loc o.loc), .val (.loc hl), c3, .val (.int T), .val (.int num), c6, .val (.str r.1), .val (.int r.2)] S' = some (.ok false, S') :=
        ev_entry (o := o) (R := [(hl, .lst (rowsD rows))]) (nx := o.book.next) h (.inr rfl) hx4 (I.std _ hx1) hx2 hxq hxt (by rw [← hxt]; exact (I.thing hx1).2) (by decide +kernel) rfl (ev_eqn (v_cons (v_P rfl (v_nil ⟨rfl, rfl⟩)))) (x_L (x_cons (x_var rfl) (x_cons x_C (x_cons (x_var rfl) (x_cons x_C (x_cons x_C (x_cons x_C (x_cons x_C x_nil))))))) (x_tupD (by rw [sizeLine_eq]; simp)))
      exact vs_if (Ev.ok t1 (iteF (vs_nil ⟨rfl, ⟨todo, rfl, fun r' hr' => e4 r' (List.mem_cons_of_mem _ hr')⟩, _, _, rfl⟩)))
end
theorem has_nil : Has [] [] := ⟨List.nodup_nil, fun _ _ h => by cases h⟩
theorem law_true : ∀ ns : List Int, ns.length ≤ 63 → ∃ S, f_law [.scr ns] [] = some (.ok (.bool true), S) := by
  intro ns hns
  suffices h : Ev (f_law [.scr ns] []) (fun d S => d = .bool true) (fun _ _ => False) by
    cases q : f_law [.scr ns] [] with
    | none => rw [q] at h; exact h.elim
    | some p =>
      obtain ⟨r, S⟩ := p
      rw [q] at h
      cases r with
      | ok d => exact ⟨S, by rw [show d = .bool true from h]⟩
      | er x => exact (h : False).elim
  refine ev_def rfl ?_
  have hash : isOff (tl ash) = true := by decide +kernel
  refine vs_seq (vs_asg (v_make (v_cons (v_P rfl (v_nil ?_)))))
  refine (t_offinit0 (E := fun _ _ => False) (nm := ash) hash (by rw [len_ash]; decide) (has_nil.new (.ins "Office" []))).mono (fun d S1 hd => ?_) (fun _ _ q => q.elim)
  obtain ⟨hd0, o, ho, hln, hof, hes, -, -, hnx, h1⟩ := hd
  refine ⟨hd0, _, rfl, then_nx ?_⟩
  rw [← ho]
  refine vs_seq (vs_asg (v_disp (v_nil ⟨Nat.zero_le _, _, rfl, then_nx ?_⟩)))
  have I0 : K32I o [] 0 := ⟨hof, by rw [hnx, hes]; rfl, by rw [hes]; simp, by rw [hes]; exact List.nodup_nil, by rw [hes]; exact List.Perm.refl _, by simp, by rw [hln]; simp, by rw [hes]; simp, by decide, by simp⟩
  have h2 : Has (S1 ++ [.lst []]) (o.cells ++ [(S1.length, .lst (rowsD []))]) := Has.fin (L := []) h1
  generalize S1.length = hl at h2 ⊢
  generalize S1 ++ [Cell.lst []] = S2 at h2 ⊢
  have L1 := cutN_to ns 8
  generalize hN1 : Pd.cutN ns none (some ((8 : Nat) : Int)) = N1 at L1
  have L2 := cutN_len ns 8 48
  generalize hN2 : Pd.cutN ns (some ((8 : Nat) : Int)) (some ((48 : Nat) : Int)) = N2 at L2
  clear hd0 hln hof hes hnx h1
  generalize hol : o.loc = ol
  -- the things are made
  have hf1 : ∀ c1 c2 c3 c4 c5 c6 c7 c8 : Sl, fI itL (fSl (fVar 0) foNo (foE (fC (.int 8)))) [.val (.scr ns), c1, c2, c3, c4, c5, c6, c7, c8] = some (N1.map D.int) := fun c1 c2 c3 c4 c5 c6 c7 c8 => x_I (x_sl (x_var rfl) x_no (x_oE x_C) (show gSl (.scr ns) none (some 8) = some (.lst (N1.map D.int)) by rw [← hN1]; rfl)) rfl
  refine vs_seq (vs_for (v_iP (hf1 _ _ _ _ _ _ _ _) ?_))
  refine go_inv (P := fun lft ρ S' => ∃ (todo : List Int) (k : Nat) (o' : OfG) (rows : List (Str × Int)) (c3 : Sl), lft = todo.map D.int ∧ (k + todo.length ≤ 8 ∧ o'.book.es.length = rows.length) ∧ o'.loc = ol ∧ K32I o' rows k ∧ (rows.map (·.2)).sum ≤ 40 * k ∧ Has S' (o'.cells ++ [(hl, .lst (rowsD rows))]) ∧
    ρ = [.val (.scr ns), .val (.loc ol), .val (.loc hl), c3, .junk, .junk, .junk, .junk, .junk]) (fun _ _ _ _ => trivial) (fun ρ S' hh => ?_) (fun d lft ρ S' hh => ?_) _ _ _ ⟨N1, 0, o, [], .junk, rfl, ⟨by omega, by have := I0.num; simp at this; simp [this]⟩, hol, I0, by simp, h2, rfl⟩
  rotate_left
  · obtain ⟨todo, k, o', rows, c3, e1, e2, rfl, I, e3, e4, rfl⟩ := hh
    cases todo with
    | nil => cases e1
    | cons z todo =>
      cases e1
      obtain ⟨e2, ee⟩ := e2
      rw [List.length_cons] at e2
      have q1 := Int.emod_nonneg z (b := 40) (by decide)
      have q2 := Int.emod_lt_of_pos z (b := 40) (by decide)
      have hq : f2 gAdd (fC (.int 1)) (f2 gMod (fL gInt (fCons (fVar 3) fNil)) (fC (.int 40))) [.val (.scr ns), .val (.loc o'.loc), .val (.loc hl), .val (.int z), .junk, .junk, .junk, .junk, .junk] = some (.int (1 + z % 40)) := x_f2 x_C (x_f2 (x_L (x_cons (x_var rfl) x_nil) x_int) x_C (x_mod (by decide))) x_add
      have hf := I.fresh 0 (by decide)
      simp only [Int.natCast_zero, Int.add_zero, Int.ofNat_zero] at hf
      have z3 := I.lines
      have tc := t_create (S := S') (o := o') (R := [(hl, .lst (rowsD rows))]) (E := fun _ _ => False) (q := 1 + z % 40) I.ok e4 (by omega) (by omega) (by omega) (by rw [I.off]; exact hf)
      rw [I.off] at tc
      show EG (gDrop _ [.val (.scr ns), .val (.loc o'.loc), .val (.loc hl), .val (.int z), .junk, .junk, .junk, .junk, .junk] S') _
      refine vs_drop (v_app (v_P rfl ⟨hl, _, rfl, e4.at_ hl (.lst (rowsD rows)) (by simp), v_tup (v_cons (v_meth (v_P rfl ⟨_, _, rfl, (off_at e4).1, rfl, v_cons (v_P hq (v_nil ?_))⟩)))⟩))
      refine tc.mono (fun d S3 hd => ?_) (fun _ _ q => q.elim)
      obtain ⟨rfl, w, b', ⟨l, cc, hb'⟩, h3⟩ := hd
      have I2 := I.made (by omega) (w := w) (q := 1 + z % 40) (l := l) (c := cc) (by omega) (by omega)
      rw [← hb'] at I2
      have hS3 : S3[hl]? = some (.lst (rowsD rows)) := h3.at_ _ _ (by simp)
      have hrl := I.len
      refine v_cons (v_P hq (v_nil ⟨by rw [sizeLine_eq]; simp, rowsD rows, hS3, by rw [rowsD_len, sizeLine_eq]; omega, ?_⟩))
      refine ⟨todo, k + 1, o'.wrote w b', _, _, rfl, ⟨by omega, by rw [hb']; show (o'.book.es ++ [_]).length = _; rw [List.length_append, List.length_append, ee]; rfl⟩, rfl, I2, by rw [List.map_append, List.sum_append]; simp; omega, ?_, rfl⟩
      have h4 := Has.setM (X := (o'.wrote w b').cells) h3 (.lst (rowsD rows ++ [.tup [.str (idOf ash o'.book.next), .int (1 + z % 40)]]))
      have e5 : rowsD (rows ++ [(idOf ash o'.book.next, 1 + z % 40)]) = rowsD rows ++ [.tup [.str (idOf ash o'.book.next), .int (1 + z % 40)]] := by unfold rowsD; rw [List.map_append]; rfl
      rw [e5]
      exact h4
  obtain ⟨todo, k, o', rows, c3, e1, e2, e5, I, e3, e4, rfl⟩ := hh
  obtain ⟨e2, ee⟩ := e2
  have hk8 : k ≤ 8 := by omega
  clear e1 e2 todo I0 h2
  refine then_nx ?_
  refine vs_seq (vs_asg (Ev.ok (ev_sum I e4 rfl (by simp)) ⟨_, rfl, then_nx ?_⟩))
  have h5 := e4.ext [.lst ((rows.map (·.2)).map .int)]
  generalize S' ++ [Cell.lst ((rows.map (·.2)).map D.int)] = S3 at h5 ⊢
  generalize hT : (rows.map (·.2)).sum = T
  obtain ⟨num, hnum⟩ : ∃ num : Int, num = rows.length := ⟨_, rfl⟩
  have hS3 : S3[hl]? = some (.lst (rowsD rows)) := h5.at_ _ _ (by simp)
  have a5 : m2 gAdd (mL gLen (mCons (mP (fVar 2)) mNil)) (mP (fC (.int 1))) [.val (.scr ns), .val (.loc ol), .val (.loc hl), c3, .val (.int T), .junk, .junk, .junk, .junk] S3 = some (.ok (.int (num + 1)), S3) := by
    refine ev_eqn (v_2 (v_L (v_cons (v_P rfl (v_nil ⟨.int num, ?_, rfl, v_P rfl ⟨.int (num + 1), x_add, rfl, rfl, rfl⟩⟩)))))
    show gLen [view S3 (.loc hl)] = _
    rw [view_at hS3, x_lenL, rowsD_len, hnum]
  refine vs_seq (vs_asg (Ev.ok a5 ⟨_, rfl, then_nx ?_⟩))
  have hnx : num + 1 = o'.book.next := by rw [I.next, ee, hnum]
  rw [hnx]
  have I8 : K32I o' rows 8 := ⟨I.off, I.next, I.std, I.kn, I.perm, I.pos, by have := I.lines; omega, by have := I.num; omega, by omega, I.tot⟩
  clear a5 hS3 e4 e3 I hnum hnx ee num
  have hf2 : ∀ c1 c2 c3 c4 c5 c6 c7 c8 : Sl, fI itL (fSl (fVar 0) (foE (fC (.int 8))) (foE (fC (.int 48)))) [.val (.scr ns), c1, c2, c3, c4, c5, c6, c7, c8] = some (N2.map D.int) := fun c1 c2 c3 c4 c5 c6 c7 c8 => x_I (x_sl (x_var rfl) (x_oE x_C) (x_oE x_C) (show gSl (.scr ns) (some 8) (some 48) = some (.lst (N2.map D.int)) by rw [← hN2]; rfl)) rfl
  refine vs_seq (vs_for (v_iP (hf2 _ _ _ _ _ _ _ _) ?_))
  refine go_inv (P := fun lft ρ S' => ∃ (todo : List Int) (k : Nat) (o' : OfG) (rows : List (Str × Int)) (hl : Nat) (c3 c6 c7 c8 : Sl), lft = todo.map D.int ∧ k + todo.length ≤ 48 ∧ o'.loc = ol ∧ K32I o' rows k ∧ (rows.map (·.2)).sum = T ∧ Has S' (o'.cells ++ [(hl, .lst (rowsD rows))]) ∧
    ρ = [.val (.scr ns), .val (.loc ol), .val (.loc hl), c3, .val (.int T), .val (.int o'.book.next), c6, c7, c8]) (fun _ _ _ _ => trivial) (fun ρ S' hh => ?_) (fun d lft ρ S' hh => ?_) _ _ _ ⟨N2, 8, o', rows, hl, _, _, _, _, rfl, by omega, e5, I8, hT, h5, rfl⟩
  · obtain ⟨todo, k, o', rows, hl, c3, c6, c7, c8, e1, e2, e5, I, e3, e4, rfl⟩ := hh
    exact then_nx (vs_ret (v_P rfl rfl))
  obtain ⟨todo, k, o1, rows, hl, c3, c6, c7, c8, e1, e2, rfl, I, e3, e4, rfl⟩ := hh
  cases todo with
  | nil => cases e1
  | cons z todo =>
    cases e1
    rw [List.length_cons] at e2
    have hS4 : S'[hl]? = some (.lst (rowsD rows)) := e4.at_ _ _ (by simp)
    show EG (gIf _ _ _ [.val (.scr ns), .val (.loc o1.loc), .val (.loc hl), .val (.int z), .val (.int T), .val (.int o1.book.next), c6, c7, c8] S') _
    by_cases hne : rows = []
    · refine vs_if (vt_V (v_P rfl ⟨false, ?_, iteF (vs_nil ⟨todo, k, o1, rows, hl, _, _, _, _, rfl, by omega, rfl, I, e3, e4, rfl⟩)⟩))
      rw [view_at hS4, hne]
      rfl
    refine vs_if (vt_V (v_P rfl ⟨true, ?_, iteT ?_⟩))
    · rw [view_at hS4]
      cases rows with
      | nil => exact absurd rfl hne
      | cons r rows => rfl
    have hstep : EG (gIf (mtP (ftB (f2 gEq (f2 gMod (fL gInt (fCons (fVar 3) fNil)) (fC (.int 2))) (fC (.int 0))))) (gAsg (st1 2) (mCall f_L_split (mCons (mP (fVar 1)) (mCons (mP (fVar 2)) (mCons (mP (fVar 5)) (mCons (mP (f2 gDiv (fVar 3) (fC (.int 2)))) mNil)))))) (gAsg (st1 2) (mCall f_L_join (mCons (mP (fVar 1)) (mCons (mP (fVar 2)) (mCons (mP (fVar 5)) (mCons (mP (f2 gDiv (fVar 3) (fC (.int 2)))) mNil)))))) [.val (.scr ns), .val (.loc o1.loc), .val (.loc hl), .val (.int z), .val (.int T), .val (.int o1.book.next), c6, c7, c8] S')
        (fun fl S1 => ∃ hl', fl = .nx [.val (.scr ns), .val (.loc o1.loc), .val (.loc hl'), .val (.int z), .val (.int T), .val (.int o1.book.next), c6, c7, c8] ∧ StepQ o1 rows k (.loc hl') S1) := by
      have hdiv : f2 gDiv (fVar 3) (fC (.int 2)) [.val (.scr ns), .val (.loc o1.loc), .val (.loc hl), .val (.int z), .val (.int T), .val (.int o1.book.next), c6, c7, c8] = some (.int (z / 2)) := x_f2 (x_var rfl) x_C (x_div (by decide) (by decide))
      have fin : ∀ d S1, StepQ o1 rows k d S1 → ∃ ρ', st1 2 d [.val (.scr ns), .val (.loc o1.loc), .val (.loc hl), .val (.int z), .val (.int T), .val (.int o1.book.next), c6, c7, c8] = some ρ' ∧ ∃ hl', Fx.nx ρ' = .nx [.val (.scr ns), .val (.loc o1.loc), .val (.loc hl'), .val (.int z), .val (.int T), .val (.int o1.book.next), c6, c7, c8] ∧ StepQ o1 rows k (.loc hl') S1 := fun d S1 hq => by
        obtain ⟨hl', rows', o2, rfl, hq2⟩ := hq
        exact ⟨_, rfl, hl', rfl, hl', rows', o2, rfl, hq2⟩
      have hsp := (sp_L_split (E := fun _ _ => False) (c := z / 2) I (by omega) hne rfl e4).mono (Q' := fun d S1 => ∃ ρ', st1 2 d [.val (.scr ns), .val (.loc o1.loc), .val (.loc hl), .val (.int z), .val (.int T), .val (.int o1.book.next), c6, c7, c8] = some ρ' ∧ ∃ hl', Fx.nx ρ' = .nx [.val (.scr ns), .val (.loc o1.loc), .val (.loc hl'), .val (.int z), .val (.int T), .val (.int o1.book.next), c6, c7, c8] ∧ StepQ o1 rows k (.loc hl') S1) (E' := fun _ _ => False) fin (fun _ _ q => q)
      have hjn := (sp_L_join (E := fun _ _ => False) (c := z / 2) I (by omega) hne rfl e4).mono (Q' := fun d S1 => ∃ ρ', st1 2 d [.val (.scr ns), .val (.loc o1.loc), .val (.loc hl), .val (.int z), .val (.int T), .val (.int o1.book.next), c6, c7, c8] = some ρ' ∧ ∃ hl', Fx.nx ρ' = .nx [.val (.scr ns), .val (.loc o1.loc), .val (.loc hl'), .val (.int z), .val (.int T), .val (.int o1.book.next), c6, c7, c8] ∧ StepQ o1 rows k (.loc hl') S1) (E' := fun _ _ => False) fin (fun _ _ q => q)
      refine vs_if (vt_P (b := decide (z % 2 = 0)) (x_tB (x_f2 (x_f2 (x_L (x_cons (x_var rfl) x_nil) x_int) x_C (x_mod (by decide))) x_C x_eqI)) ?_)
      by_cases hz : z % 2 = 0
      · rw [decide_eq_true hz]
        refine iteT (vs_asg (v_call (v_cons (v_P rfl (v_cons (v_P rfl (v_cons (v_P rfl (v_cons (v_P hdiv (v_nil ?_)))))))))))
        exact hsp.mono (fun _ _ q => q) (fun _ _ q => q.elim)
      · rw [decide_eq_false hz]
        refine iteF (vs_asg (v_call (v_cons (v_P rfl (v_cons (v_P rfl (v_cons (v_P rfl (v_cons (v_P hdiv (v_nil ?_)))))))))))
        exact hjn.mono (fun _ _ q => q) (fun _ _ q => q.elim)
    refine vs_seq (hstep.mono fun fl S5 hq => ?_)
    obtain ⟨hl2, rfl, hl2', rows2, o2, hle, ho2, I2, hs2, hne2, h6⟩ := hq
    cases hle
    refine then_nx ?_
    clear hstep hS4 e4
    -- the sum
    have hS5 : S5[hl2]? = some (.lst (rowsD rows2)) := h6.at_ _ _ (by simp)
    have t1 : mtB (m2 gIsN (mP (fVar 2)) (mP (fC .non))) [.val (.scr ns), .val (.loc o1.loc), .val (.loc hl2), .val (.int z), .val (.int T), .val (.int o1.book.next), c6, c7, c8] S5 = some (.ok false, S5) := by
      refine ev_eqn (vt_B (v_2 (v_P rfl (v_P rfl ⟨.bool false, ?_, rfl, false, rfl, rfl, rfl⟩))))
      rw [view_at hS5]
      rfl
    have t2 : mtB (m2 gNe (mL gSum (mCons (mLc (miL (mP (fVar 2))) (st1 6) mtYes (mP (f2 gIx (fVar 6) (fC (.int 1)))) [6]) mNil)) (mP (fVar 4))) [.val (.scr ns), .val (.loc o1.loc), .val (.loc hl2), .val (.int z), .val (.int T), .val (.int o1.book.next), c6, c7, c8] S5 = some (.ok false, S5 ++ [.lst ((rows2.map (·.2)).map .int)]) := by
      refine ev_eqn (vt_B (v_2 (Ev.ok (ev_sum I2 h6 rfl (by simp)) (v_P rfl ⟨.bool false, ?_, rfl, false, rfl, rfl, rfl⟩))))
      show gNe (.int (rows2.map (·.2)).sum) (.int T) = _
      rw [x_neI, hs2, e3]
      simp
    refine vs_seq (vs_if (vt_or (Ev.ok t1 (iteF (Ev.ok t2 (iteF (vs_nil (then_nx ?_))))))))
    have h7 := h6.ext [.lst ((rows2.map (·.2)).map .int)]
    generalize S5 ++ [Cell.lst ((rows2.map (·.2)).map D.int)] = S6 at h7 ⊢
    -- the number
    obtain ⟨ne, hne'⟩ : ∃ ne : Int, ne = o2.book.es.length := ⟨_, rfl⟩
    have t3 : m2 gAdd (mL gLen (mCons (mMeth "Office" "known" f_Office_known (mP (fVar 1)) mNil) mNil)) (mP (fC (.int 1))) [.val (.scr ns), .val (.loc o1.loc), .val (.loc hl2), .val (.int z), .val (.int T), .val (.int o1.book.next), c6, c7, c8] S6 = some (.ok (.int (ne + 1)), S6 ++ [.lst (o2.book.es.map fun x => .str x.e.thing)]) := by
      have hk := t_known h7
      rw [ho2] at hk
      have hoff := (off_at h7).1
      rw [ho2] at hoff
      refine ev_eqn (v_2 (v_L (v_cons (v_meth (v_P rfl ⟨_, _, rfl, hoff, rfl, v_nil (Ev.ok hk (v_nil ⟨.int ne, ?_, rfl, v_P rfl ⟨.int (ne + 1), x_add, rfl, rfl, rfl⟩⟩))⟩)))))
      show gLen [view _ (.loc S6.length)] = _
      rw [view_at get_end, x_lenL, List.length_map, hne']
    refine vs_seq (vs_asg (Ev.ok t3 ⟨_, rfl, then_nx ?_⟩))
    have h8 := h7.ext [.lst (o2.book.es.map fun x => .str x.e.thing)]
    generalize S6 ++ [Cell.lst (o2.book.es.map fun x => D.str x.e.thing)] = S7 at h8 ⊢
    have hnx : ne + 1 = o2.book.next := by rw [I2.next, hne']
    rw [hnx]
    show EG (gSeq _ _ [.val (.scr ns), .val (.loc o1.loc), .val (.loc hl2), .val (.int z), .val (.int T), .val (.int o2.book.next), c6, c7, c8] S7) _
    rw [← ho2]
    refine vs_seq (vs_if ((ev_sorted (E := fun _ _ => False) I2 h8 rfl rfl (by simp)).mono (fun bb S8 hq => ?_) fun _ _ q => q.elim))
    obtain ⟨rfl, h9⟩ := hq
    refine iteF (vs_nil (then_nx ?_))
    exact sp_entries I2 h9 fun c7 c8 => ⟨todo, k + 1, o2, rows2, hl2, _, _, _, _, rfl, by omega, rfl, I2, by rw [hs2, e3], h9, rfl⟩
end Lh

namespace Lh
open PySem PySem.Spec L2 SkE Pd
open PyProof.Rows hiding St
theorem all_mk {l : PySem.W.OpenLaw} {w : World} {K : PySem.W.Frag} {h : Heap} {mg : Str → Option Value} {fa : Addr} (X : K.In h) (G : h.Ns mainGlobals mg) (hfa : mg "law" = some (.ref fa))
    {KEntry : Addr}
    (a_Entry : PySem.W.nsIn K mainGlobals "Entry" = some (some (.ref KEntry)))
    (pg_Entry : PySem.W.plainGet K KEntry Str.empty = true)
    (hd_Entry : PySem.W.hasDictIn K KEntry = true)
    (po_Entry : PySem.W.plainOver K KEntry = true)
    (sa_Entry : PySem.W.findIn K (.ref KEntry) "__setattr__" = some (some (.builtin "object.__setattr__")))
    (mk_Entry : PySem.W.makesIn K KEntry = true)
    (kc_Entry : PySem.W.keepIn K (.ref KEntry) = true)
    {KBook : Addr}
    (a_Book : PySem.W.nsIn K mainGlobals "Book" = some (some (.ref KBook)))
    (pg_Book : PySem.W.plainGet K KBook Str.empty = true)
    (hd_Book : PySem.W.hasDictIn K KBook = true)
    (po_Book : PySem.W.plainOver K KBook = true)
    (sa_Book : PySem.W.findIn K (.ref KBook) "__setattr__" = some (some (.builtin "object.__setattr__")))
    (mk_Book : PySem.W.makesIn K KBook = true)
    (kc_Book : PySem.W.keepIn K (.ref KBook) = true)
    {KOffice : Addr}
    (a_Office : PySem.W.nsIn K mainGlobals "Office" = some (some (.ref KOffice)))
    (pg_Office : PySem.W.plainGet K KOffice Str.empty = true)
    (hd_Office : PySem.W.hasDictIn K KOffice = true)
    (po_Office : PySem.W.plainOver K KOffice = true)
    (sa_Office : PySem.W.findIn K (.ref KOffice) "__setattr__" = some (some (.builtin "object.__setattr__")))
    (mk_Office : PySem.W.makesIn K KOffice = true)
    (kc_Office : PySem.W.keepIn K (.ref KOffice) = true)
    (n_Entry_is_recalled : PySem.W.findIn K (.ref KEntry) "is_recalled" = some none)
    (n_Entry_receiver : PySem.W.findIn K (.ref KEntry) "receiver" = some none)
    (n_Entry_state : PySem.W.findIn K (.ref KEntry) "state" = some none)
    (n_Entry_epoch : PySem.W.findIn K (.ref KEntry) "epoch" = some none)
    (n_Entry_quantity : PySem.W.findIn K (.ref KEntry) "quantity" = some none)
    (n_Entry_home : PySem.W.findIn K (.ref KEntry) "home" = some none)
    (n_Entry_thing : PySem.W.findIn K (.ref KEntry) "thing" = some none)
    (n_Book_entries : PySem.W.findIn K (.ref KBook) "entries" = some none)
    (n_Office_book : PySem.W.findIn K (.ref KOffice) "_book" = some none)
    (n_Entry_is_paid : PySem.W.findIn K (.ref KEntry) "is_paid" = some none)
    (n_Entry_is_noted : PySem.W.findIn K (.ref KEntry) "is_noted" = some none)
    (n_Entry_is_received : PySem.W.findIn K (.ref KEntry) "is_received" = some none)
    (n_Entry_children : PySem.W.findIn K (.ref KEntry) "children" = some none)
    (n_Book_next_number : PySem.W.findIn K (.ref KBook) "next_number" = some none)
    (n_Book_office : PySem.W.findIn K (.ref KBook) "office" = some none)
    (n_Office_lines : PySem.W.findIn K (.ref KOffice) "_lines" = some none)
    (n_Book_credit : PySem.W.findIn K (.ref KBook) "credit" = some none)
    (n_Book_payments : PySem.W.findIn K (.ref KBook) "payments" = some none)
    (n_Office_name : PySem.W.findIn K (.ref KOffice) "name" = some none)
    {KInvalidLine : Addr}
    (a_InvalidLine : PySem.W.nsIn K mainGlobals "InvalidLine" = some (some (.ref KInvalidLine)))
    (b_InvalidLine : PySem.W.subIn K (.ref KInvalidLine) (.type "BaseException") = some true)
    (t_InvalidLine : PySem.W.typeIn K (.ref KInvalidLine) = some (.type "type"))
    {nm_InvalidLine q_InvalidLine fi_InvalidLine : Str} {N_InvalidLine fx_InvalidLine ca_InvalidLine cc_InvalidLine : Addr} {bs_InvalidLine bm_InvalidLine sub_InvalidLine : List Value} {sn_InvalidLine : List Str} {ab_InvalidLine : Bool} {col_InvalidLine : Option Bool} {dd_InvalidLine xod_InvalidLine xan_InvalidLine xcd_InvalidLine xld_InvalidLine : Option Addr} {u0_InvalidLine u1_InvalidLine u2_InvalidLine u3_InvalidLine u5_InvalidLine : Option Value} {xoc_InvalidLine xkV_InvalidLine xdc_InvalidLine xpm_InvalidLine xct_InvalidLine xcc_InvalidLine xcl_InvalidLine : Value} {xsl_InvalidLine xcs_InvalidLine xls_InvalidLine : Array (Option Value)} {vs_InvalidLine : Array Value} {tf_InvalidLine : Tok}
    (lx_InvalidLine : K.lookup KInvalidLine = some (excClassObj nm_InvalidLine q_InvalidLine KInvalidLine N_InvalidLine bs_InvalidLine bm_InvalidLine true sn_InvalidLine sub_InvalidLine ab_InvalidLine col_InvalidLine dd_InvalidLine u0_InvalidLine u1_InvalidLine u2_InvalidLine u3_InvalidLine u5_InvalidLine "ValueError.__new__"))
    (rv_InvalidLine : PySem.HandSPX.refsVE bm_InvalidLine = true)
    (sa_InvalidLine : PySem.W.findIn K (.ref KInvalidLine) "__setattr__" = some (some (.builtin "object.__setattr__")))
    (kp_InvalidLine : PySem.W.keepIn K (.ref KInvalidLine) = true)
    (su_InvalidLine : PySem.W.ks_superIn K KInvalidLine KInvalidLine "__init__" = some (some (.builtin "ValueError.__init__")))
    (ve_InvalidLine : PySem.W.subIn K (.ref KInvalidLine) (.type "ValueError") = some true)
    (se_InvalidLine : PySem.W.mroIn K KInvalidLine (.ref KInvalidLine) = some true)
    (fl_InvalidLine : PySem.W.findIn K (.ref KInvalidLine) "line" = some none)
    (in_InvalidLine : PySem.W.findIn K (.ref KInvalidLine) "__init__" = some (some (.ref fx_InvalidLine)))
    (ty_InvalidLine : PySem.W.typeIn K (.ref fx_InvalidLine) = some (.type "function"))
    (lf_InvalidLine : K.lookup fx_InvalidLine = some ⟨xoc_InvalidLine, xod_InvalidLine, .func (PySem.W.ksFn "__init__" "InvalidLine.__init__" (defArgs s_XInvalidLine) (defBody s_XInvalidLine) (defScope s_XInvalidLine) .none xkV_InvalidLine xdc_InvalidLine xpm_InvalidLine xan_InvalidLine (.ref ca_InvalidLine) xct_InvalidLine cc_InvalidLine), xsl_InvalidLine⟩)
    (cd_InvalidLine : PySem.W.codeIn K (.ref ca_InvalidLine) "InvalidLine.__init__" = true)
    (lc_InvalidLine : K.lookup ca_InvalidLine = some ⟨xcc_InvalidLine, xcd_InvalidLine, .fields vs_InvalidLine, xcs_InvalidLine⟩)
    (vf_InvalidLine : vs_InvalidLine[2]? = some (.str fi_InvalidLine tf_InvalidLine))
    (hf_InvalidLine : ((l.prog.main.file : Str) == fi_InvalidLine) = true)
    (ce_InvalidLine : K.lookup cc_InvalidLine = some ⟨xcl_InvalidLine, xld_InvalidLine, .cell (some (.ref KInvalidLine)), xls_InvalidLine⟩)
    {KBrokenJournal : Addr}
    (a_BrokenJournal : PySem.W.nsIn K mainGlobals "BrokenJournal" = some (some (.ref KBrokenJournal)))
    (b_BrokenJournal : PySem.W.subIn K (.ref KBrokenJournal) (.type "BaseException") = some true)
    (t_BrokenJournal : PySem.W.typeIn K (.ref KBrokenJournal) = some (.type "type"))
    {nm_BrokenJournal q_BrokenJournal fi_BrokenJournal : Str} {N_BrokenJournal fx_BrokenJournal ca_BrokenJournal cc_BrokenJournal : Addr} {bs_BrokenJournal bm_BrokenJournal sub_BrokenJournal : List Value} {sn_BrokenJournal : List Str} {ab_BrokenJournal : Bool} {col_BrokenJournal : Option Bool} {dd_BrokenJournal xod_BrokenJournal xan_BrokenJournal xcd_BrokenJournal xld_BrokenJournal : Option Addr} {u0_BrokenJournal u1_BrokenJournal u2_BrokenJournal u3_BrokenJournal u5_BrokenJournal : Option Value} {xoc_BrokenJournal xkV_BrokenJournal xdc_BrokenJournal xpm_BrokenJournal xct_BrokenJournal xcc_BrokenJournal xcl_BrokenJournal : Value} {xsl_BrokenJournal xcs_BrokenJournal xls_BrokenJournal : Array (Option Value)} {vs_BrokenJournal : Array Value} {tf_BrokenJournal : Tok}
    (lx_BrokenJournal : K.lookup KBrokenJournal = some (excClassObj nm_BrokenJournal q_BrokenJournal KBrokenJournal N_BrokenJournal bs_BrokenJournal bm_BrokenJournal true sn_BrokenJournal sub_BrokenJournal ab_BrokenJournal col_BrokenJournal dd_BrokenJournal u0_BrokenJournal u1_BrokenJournal u2_BrokenJournal u3_BrokenJournal u5_BrokenJournal "ValueError.__new__"))
    (rv_BrokenJournal : PySem.HandSPX.refsVE bm_BrokenJournal = true)
    (sa_BrokenJournal : PySem.W.findIn K (.ref KBrokenJournal) "__setattr__" = some (some (.builtin "object.__setattr__")))
    (kp_BrokenJournal : PySem.W.keepIn K (.ref KBrokenJournal) = true)
    (su_BrokenJournal : PySem.W.ks_superIn K KBrokenJournal KBrokenJournal "__init__" = some (some (.builtin "ValueError.__init__")))
    (ve_BrokenJournal : PySem.W.subIn K (.ref KBrokenJournal) (.type "ValueError") = some true)
    (se_BrokenJournal : PySem.W.mroIn K KBrokenJournal (.ref KBrokenJournal) = some true)
    (fl_BrokenJournal : PySem.W.findIn K (.ref KBrokenJournal) "line" = some none)
    (in_BrokenJournal : PySem.W.findIn K (.ref KBrokenJournal) "__init__" = some (some (.ref fx_BrokenJournal)))
    (ty_BrokenJournal : PySem.W.typeIn K (.ref fx_BrokenJournal) = some (.type "function"))
    (lf_BrokenJournal : K.lookup fx_BrokenJournal = some ⟨xoc_BrokenJournal, xod_BrokenJournal, .func (PySem.W.ksFn "__init__" "BrokenJournal.__init__" (defArgs s_XBrokenJournal) (defBody s_XBrokenJournal) (defScope s_XBrokenJournal) .none xkV_BrokenJournal xdc_BrokenJournal xpm_BrokenJournal xan_BrokenJournal (.ref ca_BrokenJournal) xct_BrokenJournal cc_BrokenJournal), xsl_BrokenJournal⟩)
    (cd_BrokenJournal : PySem.W.codeIn K (.ref ca_BrokenJournal) "BrokenJournal.__init__" = true)
    (lc_BrokenJournal : K.lookup ca_BrokenJournal = some ⟨xcc_BrokenJournal, xcd_BrokenJournal, .fields vs_BrokenJournal, xcs_BrokenJournal⟩)
    (vf_BrokenJournal : vs_BrokenJournal[2]? = some (.str fi_BrokenJournal tf_BrokenJournal))
    (hf_BrokenJournal : ((l.prog.main.file : Str) == fi_BrokenJournal) = true)
    (ce_BrokenJournal : K.lookup cc_BrokenJournal = some ⟨xcl_BrokenJournal, xld_BrokenJournal, .cell (some (.ref KBrokenJournal)), xls_BrokenJournal⟩)
    {KInvalidQuantity : Addr}
    (a_InvalidQuantity : PySem.W.nsIn K mainGlobals "InvalidQuantity" = some (some (.ref KInvalidQuantity)))
    (b_InvalidQuantity : PySem.W.subIn K (.ref KInvalidQuantity) (.type "BaseException") = some true)
    (t_InvalidQuantity : PySem.W.typeIn K (.ref KInvalidQuantity) = some (.type "type"))
    (x_InvalidQuantity : PySem.W.excIn K KInvalidQuantity [.type "ValueError", .type "Exception", .type "BaseException", .type "object"] "ValueError.__new__" = true)
    (kp_InvalidQuantity : PySem.W.keepIn K (.ref KInvalidQuantity) = true)
    {KFrozen : Addr}
    (a_Frozen : PySem.W.nsIn K mainGlobals "Frozen" = some (some (.ref KFrozen)))
    (b_Frozen : PySem.W.subIn K (.ref KFrozen) (.type "BaseException") = some true)
    (t_Frozen : PySem.W.typeIn K (.ref KFrozen) = some (.type "type"))
    (x_Frozen : PySem.W.excIn K KFrozen [.type "ValueError", .type "Exception", .type "BaseException", .type "object"] "ValueError.__new__" = true)
    (kp_Frozen : PySem.W.keepIn K (.ref KFrozen) = true)
    {KNotHeld : Addr}
    (a_NotHeld : PySem.W.nsIn K mainGlobals "NotHeld" = some (some (.ref KNotHeld)))
    (b_NotHeld : PySem.W.subIn K (.ref KNotHeld) (.type "BaseException") = some true)
    (t_NotHeld : PySem.W.typeIn K (.ref KNotHeld) = some (.type "type"))
    (x_NotHeld : PySem.W.excIn K KNotHeld [.type "ValueError", .type "Exception", .type "BaseException", .type "object"] "ValueError.__new__" = true)
    (kp_NotHeld : PySem.W.keepIn K (.ref KNotHeld) = true)
    {KInvalidThings : Addr}
    (a_InvalidThings : PySem.W.nsIn K mainGlobals "InvalidThings" = some (some (.ref KInvalidThings)))
    (b_InvalidThings : PySem.W.subIn K (.ref KInvalidThings) (.type "BaseException") = some true)
    (t_InvalidThings : PySem.W.typeIn K (.ref KInvalidThings) = some (.type "type"))
    (x_InvalidThings : PySem.W.excIn K KInvalidThings [.type "ValueError", .type "Exception", .type "BaseException", .type "object"] "ValueError.__new__" = true)
    (kp_InvalidThings : PySem.W.keepIn K (.ref KInvalidThings) = true)
    {KInvalidOffice : Addr}
    (a_InvalidOffice : PySem.W.nsIn K mainGlobals "InvalidOffice" = some (some (.ref KInvalidOffice)))
    (b_InvalidOffice : PySem.W.subIn K (.ref KInvalidOffice) (.type "BaseException") = some true)
    (t_InvalidOffice : PySem.W.typeIn K (.ref KInvalidOffice) = some (.type "type"))
    (x_InvalidOffice : PySem.W.excIn K KInvalidOffice [.type "ValueError", .type "Exception", .type "BaseException", .type "object"] "ValueError.__new__" = true)
    (kp_InvalidOffice : PySem.W.keepIn K (.ref KInvalidOffice) = true)
    (z_super : PySem.W.nsIn K mainGlobals "super" = some none)
    (op_x : PySem.W.nsIn K cStatics "thirdparty.any" = some none)
    (tp_x : (l.prog.main.scope.names.lookup ("super" : Str)).isSome = false)
    {f0 : Addr} {od0 an0 : Option Addr} {sl0 : Array (Option Value)} {oc0 kV0 dc0 pm0 cd0 ct0 : Value}
    (a0 : PySem.W.nsIn K mainGlobals "_law_cut" = some (some (.ref f0)))
    (l0 : K.lookup f0 = some ⟨oc0, od0, .func (PySem.W.fnOf "_law_cut" "_law_cut" (defArgs s_L_cut) (defBody s_L_cut) (defScope s_L_cut) .none kV0 dc0 pm0 an0 cd0 ct0), sl0⟩)
    (c0 : PySem.W.codeIn K cd0 "_law_cut" = true)
    (k0 : PySem.W.keepIn K (.ref f0) = true)
    {f1 : Addr} {od1 an1 : Option Addr} {sl1 : Array (Option Value)} {oc1 kV1 dc1 pm1 cd1 ct1 : Value}
    (a1 : PySem.W.findIn K (.ref KEntry) "told" = some (some (.ref f1)))
    (i1 : PySem.W.isFn K (.ref f1) = true)
    (l1 : K.lookup f1 = some ⟨oc1, od1, .func (PySem.W.fnOf "told" "Entry.told" (defArgs s_Entry_told) (defBody s_Entry_told) (defScope s_Entry_told) .none kV1 dc1 pm1 an1 cd1 ct1), sl1⟩)
    (c1 : PySem.W.codeIn K cd1 "Entry.told" = true)
    (k1 : PySem.W.keepIn K (.ref f1) = true)
    {f2 : Addr} {od2 an2 : Option Addr} {sl2 : Array (Option Value)} {oc2 kV2 dc2 pm2 cd2 ct2 : Value}
    (a2 : PySem.W.findIn K (.ref KBook) "entry" = some (some (.ref f2)))
    (i2 : PySem.W.isFn K (.ref f2) = true)
    (l2 : K.lookup f2 = some ⟨oc2, od2, .func (PySem.W.fnOf "entry" "Book.entry" (defArgs s_Book_entry) (defBody s_Book_entry) (defScope s_Book_entry) .none kV2 dc2 pm2 an2 cd2 ct2), sl2⟩)
    (c2 : PySem.W.codeIn K cd2 "Book.entry" = true)
    (k2 : PySem.W.keepIn K (.ref f2) = true)
    {f3 : Addr} {od3 an3 : Option Addr} {sl3 : Array (Option Value)} {oc3 kV3 dc3 pm3 cd3 ct3 : Value}
    (a3 : PySem.W.findIn K (.ref KOffice) "entry" = some (some (.ref f3)))
    (i3 : PySem.W.isFn K (.ref f3) = true)
    (l3 : K.lookup f3 = some ⟨oc3, od3, .func (PySem.W.fnOf "entry" "Office.entry" (defArgs s_Office_entry) (defBody s_Office_entry) (defScope s_Office_entry) .none kV3 dc3 pm3 an3 cd3 ct3), sl3⟩)
    (c3 : PySem.W.codeIn K cd3 "Office.entry" = true)
    (k3 : PySem.W.keepIn K (.ref f3) = true)
    {f4 : Addr} {od4 an4 : Option Addr} {sl4 : Array (Option Value)} {oc4 kV4 dc4 pm4 cd4 ct4 : Value}
    (a4 : PySem.W.nsIn K mainGlobals "check_quantity" = some (some (.ref f4)))
    (l4 : K.lookup f4 = some ⟨oc4, od4, .func (PySem.W.fnOf "check_quantity" "check_quantity" (defArgs s_check_quantity) (defBody s_check_quantity) (defScope s_check_quantity) .none kV4 dc4 pm4 an4 cd4 ct4), sl4⟩)
    (c4 : PySem.W.codeIn K cd4 "check_quantity" = true)
    (k4 : PySem.W.keepIn K (.ref f4) = true)
    {f5 : Addr} {od5 an5 : Option Addr} {sl5 : Array (Option Value)} {oc5 kV5 dc5 pm5 cd5 ct5 : Value}
    (a5 : PySem.W.nsIn K mainGlobals "format_line" = some (some (.ref f5)))
    (l5 : K.lookup f5 = some ⟨oc5, od5, .func (PySem.W.fnOf "format_line" "format_line" (defArgs s_format_line) (defBody s_format_line) (defScope s_format_line) .none kV5 dc5 pm5 an5 cd5 ct5), sl5⟩)
    (c5 : PySem.W.codeIn K cd5 "format_line" = true)
    (k5 : PySem.W.keepIn K (.ref f5) = true)
    {f6 : Addr} {od6 an6 : Option Addr} {sl6 : Array (Option Value)} {oc6 kV6 dc6 pm6 cd6 ct6 : Value}
    (a6 : PySem.W.findIn K (.ref KEntry) "begin" = some (some (.ref f6)))
    (i6 : PySem.W.isFn K (.ref f6) = true)
    (l6 : K.lookup f6 = some ⟨oc6, od6, .func (PySem.W.fnOf "begin" "Entry.begin" (defArgs s_Entry_begin) (defBody s_Entry_begin) (defScope s_Entry_begin) .none kV6 dc6 pm6 an6 cd6 ct6), sl6⟩)
    (c6 : PySem.W.codeIn K cd6 "Entry.begin" = true)
    (k6 : PySem.W.keepIn K (.ref f6) = true)
    {f7 : Addr} {od7 an7 : Option Addr} {sl7 : Array (Option Value)} {oc7 kV7 dc7 pm7 cd7 ct7 : Value}
    (a7 : PySem.W.findIn K (.ref KEntry) "__init__" = some (some (.ref f7)))
    (i7 : PySem.W.isFn K (.ref f7) = true)
    (l7 : K.lookup f7 = some ⟨oc7, od7, .func (PySem.W.fnOf "__init__" "Entry.__init__" (defArgs s_Entry_init) (defBody s_Entry_init) (defScope s_Entry_init) .none kV7 dc7 pm7 an7 cd7 ct7), sl7⟩)
    (c7 : PySem.W.codeIn K cd7 "Entry.__init__" = true)
    (k7 : PySem.W.keepIn K (.ref f7) = true)
    {f8 : Addr} {od8 an8 : Option Addr} {sl8 : Array (Option Value)} {oc8 kV8 dc8 pm8 cd8 ct8 : Value}
    (a8 : PySem.W.findIn K (.ref KBook) "_begin" = some (some (.ref f8)))
    (i8 : PySem.W.isFn K (.ref f8) = true)
    (l8 : K.lookup f8 = some ⟨oc8, od8, .func (PySem.W.fnOf "_begin" "Book._begin" (defArgs s_Book_pbegin) (defBody s_Book_pbegin) (defScope s_Book_pbegin) .none kV8 dc8 pm8 an8 cd8 ct8), sl8⟩)
    (c8 : PySem.W.codeIn K cd8 "Book._begin" = true)
    (k8 : PySem.W.keepIn K (.ref f8) = true)
    {f9 : Addr} {od9 an9 : Option Addr} {sl9 : Array (Option Value)} {oc9 kV9 dc9 pm9 cd9 ct9 : Value}
    (a9 : PySem.W.findIn K (.ref KBook) "_give" = some (some (.ref f9)))
    (i9 : PySem.W.isFn K (.ref f9) = true)
    (l9 : K.lookup f9 = some ⟨oc9, od9, .func (PySem.W.fnOf "_give" "Book._give" (defArgs s_Book_pgive) (defBody s_Book_pgive) (defScope s_Book_pgive) .none kV9 dc9 pm9 an9 cd9 ct9), sl9⟩)
    (c9 : PySem.W.codeIn K cd9 "Book._give" = true)
    (k9 : PySem.W.keepIn K (.ref f9) = true)
    {f10 : Addr} {od10 an10 : Option Addr} {sl10 : Array (Option Value)} {oc10 kV10 dc10 pm10 cd10 ct10 : Value}
    (a10 : PySem.W.findIn K (.ref KBook) "_got" = some (some (.ref f10)))
    (i10 : PySem.W.isFn K (.ref f10) = true)
    (l10 : K.lookup f10 = some ⟨oc10, od10, .func (PySem.W.fnOf "_got" "Book._got" (defArgs s_Book_pgot) (defBody s_Book_pgot) (defScope s_Book_pgot) .none kV10 dc10 pm10 an10 cd10 ct10), sl10⟩)
    (c10 : PySem.W.codeIn K cd10 "Book._got" = true)
    (k10 : PySem.W.keepIn K (.ref f10) = true)
    {f11 : Addr} {od11 an11 : Option Addr} {sl11 : Array (Option Value)} {oc11 kV11 dc11 pm11 cd11 ct11 : Value}
    (a11 : PySem.W.findIn K (.ref KBook) "_split" = some (some (.ref f11)))
    (i11 : PySem.W.isFn K (.ref f11) = true)
    (l11 : K.lookup f11 = some ⟨oc11, od11, .func (PySem.W.fnOf "_split" "Book._split" (defArgs s_Book_psplit) (defBody s_Book_psplit) (defScope s_Book_psplit) .none kV11 dc11 pm11 an11 cd11 ct11), sl11⟩)
    (c11 : PySem.W.codeIn K cd11 "Book._split" = true)
    (k11 : PySem.W.keepIn K (.ref f11) = true)
    {f12 : Addr} {od12 an12 : Option Addr} {sl12 : Array (Option Value)} {oc12 kV12 dc12 pm12 cd12 ct12 : Value}
    (a12 : PySem.W.findIn K (.ref KBook) "_join" = some (some (.ref f12)))
    (i12 : PySem.W.isFn K (.ref f12) = true)
    (l12 : K.lookup f12 = some ⟨oc12, od12, .func (PySem.W.fnOf "_join" "Book._join" (defArgs s_Book_pjoin) (defBody s_Book_pjoin) (defScope s_Book_pjoin) .none kV12 dc12 pm12 an12 cd12 ct12), sl12⟩)
    (c12 : PySem.W.codeIn K cd12 "Book._join" = true)
    (k12 : PySem.W.keepIn K (.ref f12) = true)
    {f13 : Addr} {od13 an13 : Option Addr} {sl13 : Array (Option Value)} {oc13 kV13 dc13 pm13 cd13 ct13 : Value}
    (a13 : PySem.W.findIn K (.ref KBook) "_mark" = some (some (.ref f13)))
    (i13 : PySem.W.isFn K (.ref f13) = true)
    (l13 : K.lookup f13 = some ⟨oc13, od13, .func (PySem.W.fnOf "_mark" "Book._mark" (defArgs s_Book_pmark) (defBody s_Book_pmark) (defScope s_Book_pmark) .none kV13 dc13 pm13 an13 cd13 ct13), sl13⟩)
    (c13 : PySem.W.codeIn K cd13 "Book._mark" = true)
    (k13 : PySem.W.keepIn K (.ref f13) = true)
    {f14 : Addr} {od14 an14 : Option Addr} {sl14 : Array (Option Value)} {oc14 kV14 dc14 pm14 cd14 ct14 : Value}
    (a14 : PySem.W.findIn K (.ref KBook) "_answer" = some (some (.ref f14)))
    (i14 : PySem.W.isFn K (.ref f14) = true)
    (l14 : K.lookup f14 = some ⟨oc14, od14, .func (PySem.W.fnOf "_answer" "Book._answer" (defArgs s_Book_panswer) (defBody s_Book_panswer) (defScope s_Book_panswer) .none kV14 dc14 pm14 an14 cd14 ct14), sl14⟩)
    (c14 : PySem.W.codeIn K cd14 "Book._answer" = true)
    (k14 : PySem.W.keepIn K (.ref f14) = true)
    {f15 : Addr} {od15 an15 : Option Addr} {sl15 : Array (Option Value)} {oc15 kV15 dc15 pm15 cd15 ct15 : Value}
    (a15 : PySem.W.findIn K (.ref KBook) "apply" = some (some (.ref f15)))
    (i15 : PySem.W.isFn K (.ref f15) = true)
    (l15 : K.lookup f15 = some ⟨oc15, od15, .func (PySem.W.fnOf "apply" "Book.apply" (defArgs s_Book_apply) (defBody s_Book_apply) (defScope s_Book_apply) .none kV15 dc15 pm15 an15 cd15 ct15), sl15⟩)
    (c15 : PySem.W.codeIn K cd15 "Book.apply" = true)
    (k15 : PySem.W.keepIn K (.ref f15) = true)
    {f16 : Addr} {od16 an16 : Option Addr} {sl16 : Array (Option Value)} {oc16 kV16 dc16 pm16 cd16 ct16 : Value}
    (a16 : PySem.W.findIn K (.ref KOffice) "_write" = some (some (.ref f16)))
    (i16 : PySem.W.isFn K (.ref f16) = true)
    (l16 : K.lookup f16 = some ⟨oc16, od16, .func (PySem.W.fnOf "_write" "Office._write" (defArgs s_Office_pwrite) (defBody s_Office_pwrite) (defScope s_Office_pwrite) .none kV16 dc16 pm16 an16 cd16 ct16), sl16⟩)
    (c16 : PySem.W.codeIn K cd16 "Office._write" = true)
    (k16 : PySem.W.keepIn K (.ref f16) = true)
    {f17 : Addr} {od17 an17 : Option Addr} {sl17 : Array (Option Value)} {oc17 kV17 dc17 pm17 cd17 ct17 : Value}
    (a17 : PySem.W.nsIn K mainGlobals "id_of" = some (some (.ref f17)))
    (l17 : K.lookup f17 = some ⟨oc17, od17, .func (PySem.W.fnOf "id_of" "id_of" (defArgs s_id_of) (defBody s_id_of) (defScope s_id_of) .none kV17 dc17 pm17 an17 cd17 ct17), sl17⟩)
    (c17 : PySem.W.codeIn K cd17 "id_of" = true)
    (k17 : PySem.W.keepIn K (.ref f17) = true)
    {f18 : Addr} {od18 an18 : Option Addr} {sl18 : Array (Option Value)} {oc18 kV18 dc18 pm18 cd18 ct18 : Value}
    (a18 : PySem.W.findIn K (.ref KBook) "new_ids" = some (some (.ref f18)))
    (i18 : PySem.W.isFn K (.ref f18) = true)
    (l18 : K.lookup f18 = some ⟨oc18, od18, .func (PySem.W.fnOf "new_ids" "Book.new_ids" (defArgs s_Book_new_ids) (defBody s_Book_new_ids) (defScope s_Book_new_ids) .none kV18 dc18 pm18 an18 cd18 ct18), sl18⟩)
    (c18 : PySem.W.codeIn K cd18 "Book.new_ids" = true)
    (k18 : PySem.W.keepIn K (.ref f18) = true)
    {f19 : Addr} {od19 an19 : Option Addr} {sl19 : Array (Option Value)} {oc19 kV19 dc19 pm19 cd19 ct19 : Value}
    (a19 : PySem.W.findIn K (.ref KOffice) "_free" = some (some (.ref f19)))
    (i19 : PySem.W.isFn K (.ref f19) = true)
    (l19 : K.lookup f19 = some ⟨oc19, od19, .func (PySem.W.fnOf "_free" "Office._free" (defArgs s_Office_pfree) (defBody s_Office_pfree) (defScope s_Office_pfree) .none kV19 dc19 pm19 an19 cd19 ct19), sl19⟩)
    (c19 : PySem.W.codeIn K cd19 "Office._free" = true)
    (k19 : PySem.W.keepIn K (.ref f19) = true)
    {f20 : Addr} {od20 an20 : Option Addr} {sl20 : Array (Option Value)} {oc20 kV20 dc20 pm20 cd20 ct20 : Value}
    (a20 : PySem.W.findIn K (.ref KOffice) "split" = some (some (.ref f20)))
    (i20 : PySem.W.isFn K (.ref f20) = true)
    (l20 : K.lookup f20 = some ⟨oc20, od20, .func (PySem.W.fnOf "split" "Office.split" (defArgs s_Office_split) (defBody s_Office_split) (defScope s_Office_split) .none kV20 dc20 pm20 an20 cd20 ct20), sl20⟩)
    (c20 : PySem.W.codeIn K cd20 "Office.split" = true)
    (k20 : PySem.W.keepIn K (.ref f20) = true)
    {f21 : Addr} {od21 an21 : Option Addr} {sl21 : Array (Option Value)} {oc21 kV21 dc21 pm21 cd21 ct21 : Value}
    (a21 : PySem.W.nsIn K mainGlobals "_law_split" = some (some (.ref f21)))
    (l21 : K.lookup f21 = some ⟨oc21, od21, .func (PySem.W.fnOf "_law_split" "_law_split" (defArgs s_L_split) (defBody s_L_split) (defScope s_L_split) .none kV21 dc21 pm21 an21 cd21 ct21), sl21⟩)
    (c21 : PySem.W.codeIn K cd21 "_law_split" = true)
    (k21 : PySem.W.keepIn K (.ref f21) = true)
    {f22 : Addr} {od22 an22 : Option Addr} {sl22 : Array (Option Value)} {oc22 kV22 dc22 pm22 cd22 ct22 : Value}
    (a22 : PySem.W.findIn K (.ref KOffice) "join" = some (some (.ref f22)))
    (i22 : PySem.W.isFn K (.ref f22) = true)
    (l22 : K.lookup f22 = some ⟨oc22, od22, .func (PySem.W.fnOf "join" "Office.join" (defArgs s_Office_join) (defBody s_Office_join) (defScope s_Office_join) .none kV22 dc22 pm22 an22 cd22 ct22), sl22⟩)
    (c22 : PySem.W.codeIn K cd22 "Office.join" = true)
    (k22 : PySem.W.keepIn K (.ref f22) = true)
    {f23 : Addr} {od23 an23 : Option Addr} {sl23 : Array (Option Value)} {oc23 kV23 dc23 pm23 cd23 ct23 : Value}
    (a23 : PySem.W.nsIn K mainGlobals "_law_join" = some (some (.ref f23)))
    (l23 : K.lookup f23 = some ⟨oc23, od23, .func (PySem.W.fnOf "_law_join" "_law_join" (defArgs s_L_join) (defBody s_L_join) (defScope s_L_join) .none kV23 dc23 pm23 an23 cd23 ct23), sl23⟩)
    (c23 : PySem.W.codeIn K cd23 "_law_join" = true)
    (k23 : PySem.W.keepIn K (.ref f23) = true)
    {f24 : Addr} {od24 an24 : Option Addr} {sl24 : Array (Option Value)} {oc24 kV24 dc24 pm24 cd24 ct24 : Value}
    (a24 : PySem.W.findIn K (.ref KOffice) "known" = some (some (.ref f24)))
    (i24 : PySem.W.isFn K (.ref f24) = true)
    (l24 : K.lookup f24 = some ⟨oc24, od24, .func (PySem.W.fnOf "known" "Office.known" (defArgs s_Office_known) (defBody s_Office_known) (defScope s_Office_known) .none kV24 dc24 pm24 an24 cd24 ct24), sl24⟩)
    (c24 : PySem.W.codeIn K cd24 "Office.known" = true)
    (k24 : PySem.W.keepIn K (.ref f24) = true)
    {f25 : Addr} {od25 an25 : Option Addr} {sl25 : Array (Option Value)} {oc25 kV25 dc25 pm25 cd25 ct25 : Value}
    (a25 : PySem.W.findIn K (.ref KOffice) "held" = some (some (.ref f25)))
    (i25 : PySem.W.isFn K (.ref f25) = true)
    (l25 : K.lookup f25 = some ⟨oc25, od25, .func (PySem.W.fnOf "held" "Office.held" (defArgs s_Office_held) (defBody s_Office_held) (defScope s_Office_held) .none kV25 dc25 pm25 an25 cd25 ct25), sl25⟩)
    (c25 : PySem.W.codeIn K cd25 "Office.held" = true)
    (k25 : PySem.W.keepIn K (.ref f25) = true)
    {f26 : Addr} {od26 an26 : Option Addr} {sl26 : Array (Option Value)} {oc26 kV26 dc26 pm26 cd26 ct26 : Value}
    (a26 : PySem.W.findIn K (.ref KOffice) "create" = some (some (.ref f26)))
    (i26 : PySem.W.isFn K (.ref f26) = true)
    (l26 : K.lookup f26 = some ⟨oc26, od26, .func (PySem.W.fnOf "create" "Office.create" (defArgs s_Office_create) (defBody s_Office_create) (defScope s_Office_create) .none kV26 dc26 pm26 an26 cd26 ct26), sl26⟩)
    (c26 : PySem.W.codeIn K cd26 "Office.create" = true)
    (k26 : PySem.W.keepIn K (.ref f26) = true)
    {f27 : Addr} {od27 an27 : Option Addr} {sl27 : Array (Option Value)} {oc27 kV27 dc27 pm27 cd27 ct27 : Value}
    (a27 : PySem.W.nsIn K mainGlobals "is_office" = some (some (.ref f27)))
    (l27 : K.lookup f27 = some ⟨oc27, od27, .func (PySem.W.fnOf "is_office" "is_office" (defArgs s_is_office) (defBody s_is_office) (defScope s_is_office) .none kV27 dc27 pm27 an27 cd27 ct27), sl27⟩)
    (c27 : PySem.W.codeIn K cd27 "is_office" = true)
    (k27 : PySem.W.keepIn K (.ref f27) = true)
    {f28 : Addr} {od28 an28 : Option Addr} {sl28 : Array (Option Value)} {oc28 kV28 dc28 pm28 cd28 ct28 : Value}
    (a28 : PySem.W.nsIn K mainGlobals "whole_lines" = some (some (.ref f28)))
    (l28 : K.lookup f28 = some ⟨oc28, od28, .func (PySem.W.fnOf "whole_lines" "whole_lines" (defArgs s_whole_lines) (defBody s_whole_lines) (defScope s_whole_lines) .none kV28 dc28 pm28 an28 cd28 ct28), sl28⟩)
    (c28 : PySem.W.codeIn K cd28 "whole_lines" = true)
    (k28 : PySem.W.keepIn K (.ref f28) = true)
    {f29 : Addr} {od29 an29 : Option Addr} {sl29 : Array (Option Value)} {oc29 kV29 dc29 pm29 cd29 ct29 : Value}
    (a29 : PySem.W.nsIn K mainGlobals "number_of" = some (some (.ref f29)))
    (l29 : K.lookup f29 = some ⟨oc29, od29, .func (PySem.W.fnOf "number_of" "number_of" (defArgs s_number_of) (defBody s_number_of) (defScope s_number_of) .none kV29 dc29 pm29 an29 cd29 ct29), sl29⟩)
    (c29 : PySem.W.codeIn K cd29 "number_of" = true)
    (k29 : PySem.W.keepIn K (.ref f29) = true)
    {f30 : Addr} {od30 an30 : Option Addr} {sl30 : Array (Option Value)} {oc30 kV30 dc30 pm30 cd30 ct30 : Value}
    (a30 : PySem.W.nsIn K mainGlobals "is_thing" = some (some (.ref f30)))
    (l30 : K.lookup f30 = some ⟨oc30, od30, .func (PySem.W.fnOf "is_thing" "is_thing" (defArgs s_is_thing) (defBody s_is_thing) (defScope s_is_thing) .none kV30 dc30 pm30 an30 cd30 ct30), sl30⟩)
    (c30 : PySem.W.codeIn K cd30 "is_thing" = true)
    (k30 : PySem.W.keepIn K (.ref f30) = true)
    {f31 : Addr} {od31 an31 : Option Addr} {sl31 : Array (Option Value)} {oc31 kV31 dc31 pm31 cd31 ct31 : Value}
    (a31 : PySem.W.nsIn K mainGlobals "value_of" = some (some (.ref f31)))
    (l31 : K.lookup f31 = some ⟨oc31, od31, .func (PySem.W.fnOf "value_of" "value_of" (defArgs s_value_of) (defBody s_value_of) (defScope s_value_of) .none kV31 dc31 pm31 an31 cd31 ct31), sl31⟩)
    (c31 : PySem.W.codeIn K cd31 "value_of" = true)
    (k31 : PySem.W.keepIn K (.ref f31) = true)
    {f32 : Addr} {od32 an32 : Option Addr} {sl32 : Array (Option Value)} {oc32 kV32 dc32 pm32 cd32 ct32 : Value}
    (a32 : PySem.W.nsIn K mainGlobals "values_of" = some (some (.ref f32)))
    (l32 : K.lookup f32 = some ⟨oc32, od32, .func (PySem.W.fnOf "values_of" "values_of" (defArgs s_values_of) (defBody s_values_of) (defScope s_values_of) .none kV32 dc32 pm32 an32 cd32 ct32), sl32⟩)
    (c32 : PySem.W.codeIn K cd32 "values_of" = true)
    (k32 : PySem.W.keepIn K (.ref f32) = true)
    {f33 : Addr} {od33 an33 : Option Addr} {sl33 : Array (Option Value)} {oc33 kV33 dc33 pm33 cd33 ct33 : Value}
    (a33 : PySem.W.nsIn K mainGlobals "parse_join" = some (some (.ref f33)))
    (l33 : K.lookup f33 = some ⟨oc33, od33, .func (PySem.W.fnOf "parse_join" "parse_join" (defArgs s_parse_join) (defBody s_parse_join) (defScope s_parse_join) .none kV33 dc33 pm33 an33 cd33 ct33), sl33⟩)
    (c33 : PySem.W.codeIn K cd33 "parse_join" = true)
    (k33 : PySem.W.keepIn K (.ref f33) = true)
    {f34 : Addr} {od34 an34 : Option Addr} {sl34 : Array (Option Value)} {oc34 kV34 dc34 pm34 cd34 ct34 : Value}
    (a34 : PySem.W.nsIn K mainGlobals "parse_split" = some (some (.ref f34)))
    (l34 : K.lookup f34 = some ⟨oc34, od34, .func (PySem.W.fnOf "parse_split" "parse_split" (defArgs s_parse_split) (defBody s_parse_split) (defScope s_parse_split) .none kV34 dc34 pm34 an34 cd34 ct34), sl34⟩)
    (c34 : PySem.W.codeIn K cd34 "parse_split" = true)
    (k34 : PySem.W.keepIn K (.ref f34) = true)
    {f35 : Addr} {od35 an35 : Option Addr} {sl35 : Array (Option Value)} {oc35 kV35 dc35 pm35 cd35 ct35 : Value}
    (a35 : PySem.W.nsIn K mainGlobals "row_of" = some (some (.ref f35)))
    (l35 : K.lookup f35 = some ⟨oc35, od35, .func (PySem.W.fnOf "row_of" "row_of" (defArgs s_row_of) (defBody s_row_of) (defScope s_row_of) .none kV35 dc35 pm35 an35 cd35 ct35), sl35⟩)
    (c35 : PySem.W.codeIn K cd35 "row_of" = true)
    (k35 : PySem.W.keepIn K (.ref f35) = true)
    {f36 : Addr} {od36 an36 : Option Addr} {sl36 : Array (Option Value)} {oc36 kV36 dc36 pm36 cd36 ct36 : Value}
    (a36 : PySem.W.nsIn K mainGlobals "parse_journal" = some (some (.ref f36)))
    (l36 : K.lookup f36 = some ⟨oc36, od36, .func (PySem.W.fnOf "parse_journal" "parse_journal" (defArgs s_parse_journal) (defBody s_parse_journal) (defScope s_parse_journal) .none kV36 dc36 pm36 an36 cd36 ct36), sl36⟩)
    (c36 : PySem.W.codeIn K cd36 "parse_journal" = true)
    (k36 : PySem.W.keepIn K (.ref f36) = true)
    {f37 : Addr} {od37 an37 : Option Addr} {sl37 : Array (Option Value)} {oc37 kV37 dc37 pm37 cd37 ct37 : Value}
    (a37 : PySem.W.findIn K (.ref KBook) "fits" = some (some (.ref f37)))
    (i37 : PySem.W.isFn K (.ref f37) = true)
    (l37 : K.lookup f37 = some ⟨oc37, od37, .func (PySem.W.fnOf "fits" "Book.fits" (defArgs s_Book_fits) (defBody s_Book_fits) (defScope s_Book_fits) .none kV37 dc37 pm37 an37 cd37 ct37), sl37⟩)
    (c37 : PySem.W.codeIn K cd37 "Book.fits" = true)
    (k37 : PySem.W.keepIn K (.ref f37) = true)
    {f38 : Addr} {od38 an38 : Option Addr} {sl38 : Array (Option Value)} {oc38 kV38 dc38 pm38 cd38 ct38 : Value}
    (a38 : PySem.W.findIn K (.ref KBook) "__init__" = some (some (.ref f38)))
    (i38 : PySem.W.isFn K (.ref f38) = true)
    (l38 : K.lookup f38 = some ⟨oc38, od38, .func (PySem.W.fnOf "__init__" "Book.__init__" (defArgs s_Book_init) (defBody s_Book_init) (defScope s_Book_init) .none kV38 dc38 pm38 an38 cd38 ct38), sl38⟩)
    (c38 : PySem.W.codeIn K cd38 "Book.__init__" = true)
    (k38 : PySem.W.keepIn K (.ref f38) = true)
    {f39 : Addr} {od39 an39 : Option Addr} {sl39 : Array (Option Value)} {oc39 kV39 dc39 pm39 cd39 ct39 : Value}
    (a39 : PySem.W.findIn K (.ref KOffice) "__init__" = some (some (.ref f39)))
    (i39 : PySem.W.isFn K (.ref f39) = true)
    {dT39 : Addr} {dcl39 : Value} {dod39 : Option Addr} {dtk39 : Tok} {dn39 : Nat} {dsl39 : Array (Option Value)}
    (l39 : K.lookup f39 = some ⟨oc39, od39, .func (PySem.W.fnOf "__init__" "Office.__init__" (defArgs s_Office_init) (defBody s_Office_init) (defScope s_Office_init) (.ref dT39) kV39 dc39 pm39 an39 cd39 ct39), sl39⟩)
    (dl39 : K.lookup dT39 = some ⟨dcl39, dod39, .seq #[.str "" dtk39] dn39, dsl39⟩)
    (c39 : PySem.W.codeIn K cd39 "Office.__init__" = true)
    (k39 : PySem.W.keepIn K (.ref f39) = true)
    {f40 : Addr} {od40 an40 : Option Addr} {sl40 : Array (Option Value)} {oc40 kV40 dc40 pm40 cd40 ct40 : Value}
    (a40 : PySem.W.nsIn K mainGlobals "law" = some (some (.ref f40)))
    (l40 : K.lookup f40 = some ⟨oc40, od40, .func (PySem.W.fnOf "law" "law" (defArgs s_law) (defBody s_law) (defScope s_law) .none kV40 dc40 pm40 an40 cd40 ct40), sl40⟩)
    (c40 : PySem.W.codeIn K cd40 "law" = true)
    (k40 : PySem.W.keepIn K (.ref f40) = true)
    (z_range : PySem.W.nsIn K mainGlobals "range" = some none)
    (z_int : PySem.W.nsIn K mainGlobals "int" = some none)
    (z_max : PySem.W.nsIn K mainGlobals "max" = some none)
    (z_isinstance : PySem.W.nsIn K mainGlobals "isinstance" = some none)
    (z_bool : PySem.W.nsIn K mainGlobals "bool" = some none)
    (z_str : PySem.W.nsIn K mainGlobals "str" = some none)
    (z_zip : PySem.W.nsIn K mainGlobals "zip" = some none)
    (z_tuple : PySem.W.nsIn K mainGlobals "tuple" = some none)
    (z_len : PySem.W.nsIn K mainGlobals "len" = some none)
    (z_sum : PySem.W.nsIn K mainGlobals "sum" = some none)
    (z_list : PySem.W.nsIn K mainGlobals "list" = some none)
    (z_enumerate : PySem.W.nsIn K mainGlobals "enumerate" = some none)
    (z_sorted : PySem.W.nsIn K mainGlobals "sorted" = some none)
    {t_MOST : Tok}
    (z_MOST : PySem.W.nsIn K mainGlobals "MOST" = some (some (.int 1000000000 t_MOST)))
    {t_LETTERS : Tok}
    (z_LETTERS : PySem.W.nsIn K mainGlobals "LETTERS" = some (some (.str "abcdefghijklmnopqrstuvwxyz" t_LETTERS)))
    {t_GREATEST : Tok}
    (z_GREATEST : PySem.W.nsIn K mainGlobals "GREATEST" = some (some (.int 1000000000 t_GREATEST)))
    {t_DIGITS : Tok}
    (z_DIGITS : PySem.W.nsIn K mainGlobals "DIGITS" = some (some (.str "0123456789" t_DIGITS)))
    {d_LINES : Addr} {n_LINES : Nat} {h_LINES0 h_LINES1 h_LINES2 h_LINES3 h_LINES4 h_LINES5 h_LINES6 h_LINES7 h_LINES8 h_LINES9 : Int} {t_LINES0 u_LINES0 t_LINES1 u_LINES1 t_LINES2 u_LINES2 t_LINES3 u_LINES3 t_LINES4 u_LINES4 t_LINES5 u_LINES5 t_LINES6 u_LINES6 t_LINES7 u_LINES7 t_LINES8 u_LINES8 t_LINES9 u_LINES9 : Tok}
    (a_LINES : PySem.W.nsIn K mainGlobals "LINES" = some (some (.ref d_LINES)))
    (l_LINES : K.lookup d_LINES = some ⟨.type "dict", none, .dict #[⟨h_LINES0, .str "register" t_LINES0, .str "in" u_LINES0⟩, ⟨h_LINES1, .str "give" t_LINES1, .str "ino" u_LINES1⟩, ⟨h_LINES2, .str "got" t_LINES2, .str "ionno" u_LINES2⟩, ⟨h_LINES3, .str "use" t_LINES3, .str "i" u_LINES3⟩, ⟨h_LINES4, .str "recall" t_LINES4, .str "i" u_LINES4⟩, ⟨h_LINES5, .str "notice" t_LINES5, .str "io" u_LINES5⟩, ⟨h_LINES6, .str "receipt" t_LINES6, .str "in" u_LINES6⟩, ⟨h_LINES7, .str "noted" t_LINES7, .str "io" u_LINES7⟩, ⟨h_LINES8, .str "pay" t_LINES8, .str "ion" u_LINES8⟩, ⟨h_LINES9, .str "paid" t_LINES9, .str "in" u_LINES9⟩] n_LINES, #[]⟩)
    (y_LINES : PySem.W.KeysLit w.params [⟨h_LINES0, .str "register" t_LINES0, .str "in" u_LINES0⟩, ⟨h_LINES1, .str "give" t_LINES1, .str "ino" u_LINES1⟩, ⟨h_LINES2, .str "got" t_LINES2, .str "ionno" u_LINES2⟩, ⟨h_LINES3, .str "use" t_LINES3, .str "i" u_LINES3⟩, ⟨h_LINES4, .str "recall" t_LINES4, .str "i" u_LINES4⟩, ⟨h_LINES5, .str "notice" t_LINES5, .str "io" u_LINES5⟩, ⟨h_LINES6, .str "receipt" t_LINES6, .str "in" u_LINES6⟩, ⟨h_LINES7, .str "noted" t_LINES7, .str "io" u_LINES7⟩, ⟨h_LINES8, .str "pay" t_LINES8, .str "ion" u_LINES8⟩, ⟨h_LINES9, .str "paid" t_LINES9, .str "in" u_LINES9⟩])
    (o_LINES : (d_LINES == sysModules) = false)
    : ∃ fd : FuncData, (∀ (s : Shared) (v : Value), BindsTo s fd ⟨[v], []⟩ [("_law_script", v)]) ∧ ∀ base : Heap, K.In base → base.Ns mainGlobals mg → FnOk l.prog w K mg base (L2.CX l.prog w) 10 fa fd P_law (spL K) := by
  have e := hfa.symm.trans (PySem.W.mg_of X G a40)
  cases e
  have cl_Entry : Cls K KEntry := ⟨pg_Entry, hd_Entry, po_Entry, sa_Entry⟩
  have cl_Book : Cls K KBook := ⟨pg_Book, hd_Book, po_Book, sa_Book⟩
  have cl_Office : Cls K KOffice := ⟨pg_Office, hd_Office, po_Office, sa_Office⟩
  have T : Txt K w mg := ⟨⟨d_LINES, _, n_LINES, PySem.W.mg_of X G a_LINES, ⟨l_LINES, y_LINES, o_LINES⟩, kt_of (l := [(h_LINES0, "register", t_LINES0, "in", u_LINES0), (h_LINES1, "give", t_LINES1, "ino", u_LINES1), (h_LINES2, "got", t_LINES2, "ionno", u_LINES2), (h_LINES3, "use", t_LINES3, "i", u_LINES3), (h_LINES4, "recall", t_LINES4, "i", u_LINES4), (h_LINES5, "notice", t_LINES5, "io", u_LINES5), (h_LINES6, "receipt", t_LINES6, "in", u_LINES6), (h_LINES7, "noted", t_LINES7, "io", u_LINES7), (h_LINES8, "pay", t_LINES8, "ion", u_LINES8), (h_LINES9, "paid", t_LINES9, "in", u_LINES9)]) l_LINES⟩, PySem.W.mg_none_of X G z_range, PySem.W.mg_none_of X G z_int, PySem.W.mg_none_of X G z_max, PySem.W.mg_none_of X G z_isinstance, PySem.W.mg_none_of X G z_bool, PySem.W.mg_none_of X G z_str, PySem.W.mg_none_of X G z_zip, PySem.W.mg_none_of X G z_tuple, PySem.W.mg_none_of X G z_len, PySem.W.mg_none_of X G z_sum, PySem.W.mg_none_of X G z_list, PySem.W.mg_none_of X G z_enumerate, PySem.W.mg_none_of X G z_sorted, ⟨_, PySem.W.mg_of X G z_MOST⟩, ⟨_, PySem.W.mg_of X G z_LETTERS⟩, ⟨_, PySem.W.mg_of X G z_GREATEST⟩, ⟨_, PySem.W.mg_of X G z_DIGITS⟩, ⟨KEntry, PySem.W.mg_of X G a_Entry, cl_Entry⟩, ⟨KBook, PySem.W.mg_of X G a_Book, cl_Book⟩, ⟨KOffice, PySem.W.mg_of X G a_Office, cl_Office⟩, ⟨fun C hC => by rw [PySem.W.mg_of X G a_Entry] at hC; cases hC; exact n_Entry_is_recalled⟩, ⟨fun C hC => by rw [PySem.W.mg_of X G a_Entry] at hC; cases hC; exact n_Entry_receiver⟩, ⟨fun C hC => by rw [PySem.W.mg_of X G a_Entry] at hC; cases hC; exact n_Entry_state⟩, ⟨fun C hC => by rw [PySem.W.mg_of X G a_Entry] at hC; cases hC; exact n_Entry_epoch⟩, ⟨fun C hC => by rw [PySem.W.mg_of X G a_Entry] at hC; cases hC; exact n_Entry_quantity⟩, ⟨fun C hC => by rw [PySem.W.mg_of X G a_Entry] at hC; cases hC; exact n_Entry_home⟩, ⟨fun C hC => by rw [PySem.W.mg_of X G a_Entry] at hC; cases hC; exact n_Entry_thing⟩, ⟨fun C hC => by rw [PySem.W.mg_of X G a_Book] at hC; cases hC; exact n_Book_entries⟩, ⟨fun C hC => by rw [PySem.W.mg_of X G a_Office] at hC; cases hC; exact n_Office_book⟩, ⟨fun C hC => by rw [PySem.W.mg_of X G a_Entry] at hC; cases hC; exact n_Entry_is_paid⟩, ⟨fun C hC => by rw [PySem.W.mg_of X G a_Entry] at hC; cases hC; exact n_Entry_is_noted⟩, ⟨fun C hC => by rw [PySem.W.mg_of X G a_Entry] at hC; cases hC; exact n_Entry_is_received⟩, ⟨fun C hC => by rw [PySem.W.mg_of X G a_Entry] at hC; cases hC; exact n_Entry_children⟩, ⟨fun C hC => by rw [PySem.W.mg_of X G a_Book] at hC; cases hC; exact n_Book_next_number⟩, ⟨fun C hC => by rw [PySem.W.mg_of X G a_Book] at hC; cases hC; exact n_Book_office⟩, ⟨fun C hC => by rw [PySem.W.mg_of X G a_Office] at hC; cases hC; exact n_Office_lines⟩, ⟨fun C hC => by rw [PySem.W.mg_of X G a_Book] at hC; cases hC; exact n_Book_credit⟩, ⟨fun C hC => by rw [PySem.W.mg_of X G a_Book] at hC; cases hC; exact n_Book_payments⟩, ⟨fun C hC => by rw [PySem.W.mg_of X G a_Office] at hC; cases hC; exact n_Office_name⟩, ⟨KInvalidQuantity, PySem.W.mg_of X G a_InvalidQuantity, x_InvalidQuantity, kp_InvalidQuantity, b_InvalidQuantity, t_InvalidQuantity⟩, ⟨KFrozen, PySem.W.mg_of X G a_Frozen, x_Frozen, kp_Frozen, b_Frozen, t_Frozen⟩, ⟨KNotHeld, PySem.W.mg_of X G a_NotHeld, x_NotHeld, kp_NotHeld, b_NotHeld, t_NotHeld⟩, ⟨KInvalidThings, PySem.W.mg_of X G a_InvalidThings, x_InvalidThings, kp_InvalidThings, b_InvalidThings, t_InvalidThings⟩, ⟨KInvalidOffice, PySem.W.mg_of X G a_InvalidOffice, x_InvalidOffice, kp_InvalidOffice, b_InvalidOffice, t_InvalidOffice⟩, trivial⟩
  have XC_InvalidLine : Xs.XiC K KInvalidLine "line" := ⟨⟨⟨_, _, _, _, _, _, _, _, _, _, _, _, _, _, _, lx_InvalidLine, rv_InvalidLine⟩, sa_InvalidLine, b_InvalidLine, t_InvalidLine, kp_InvalidLine⟩, su_InvalidLine, ve_InvalidLine, se_InvalidLine, fl_InvalidLine, op_x⟩
  have XJ_InvalidLine : ∀ base : Heap, Xki l.prog w K mg base 1 "InvalidLine" "line" := fun base => ⟨KInvalidLine, fx_InvalidLine, _, _, PySem.W.mg_of X G a_InvalidLine, XC_InvalidLine, in_InvalidLine, ty_InvalidLine, Binds.all (ps := ["self", "line"]) (fun us hl => match us, hl with | [_, _], _ => rfl), xi_InvalidLine XC_InvalidLine lf_InvalidLine cd_InvalidLine lc_InvalidLine vf_InvalidLine hf_InvalidLine ce_InvalidLine (PySem.W.mg_none_of X G z_super) tp_x⟩
  have XC_BrokenJournal : Xs.XiC K KBrokenJournal "line" := ⟨⟨⟨_, _, _, _, _, _, _, _, _, _, _, _, _, _, _, lx_BrokenJournal, rv_BrokenJournal⟩, sa_BrokenJournal, b_BrokenJournal, t_BrokenJournal, kp_BrokenJournal⟩, su_BrokenJournal, ve_BrokenJournal, se_BrokenJournal, fl_BrokenJournal, op_x⟩
  have XJ_BrokenJournal : ∀ base : Heap, Xki l.prog w K mg base 1 "BrokenJournal" "line" := fun base => ⟨KBrokenJournal, fx_BrokenJournal, _, _, PySem.W.mg_of X G a_BrokenJournal, XC_BrokenJournal, in_BrokenJournal, ty_BrokenJournal, Binds.all (ps := ["self", "line"]) (fun us hl => match us, hl with | [_, _], _ => rfl), xi_BrokenJournal XC_BrokenJournal lf_BrokenJournal cd_BrokenJournal lc_BrokenJournal vf_BrokenJournal hf_BrokenJournal ce_BrokenJournal (PySem.W.mg_none_of X G z_super) tp_x⟩
  have F0 := fun_mk (st := s_L_cut) l0 c0 k0
  have b0 := F0.binds (ps := P_L_cut) fun _ _ _ _ _ _ us hl => match us, hl with | [_, _], _ => rfl
  have F1 := fun_mk (st := s_Entry_told) l1 c1 k1
  have b1 := F1.binds (ps := P_Entry_told) fun _ _ _ _ _ _ us hl => match us, hl with | [_], _ => rfl
  have F2 := fun_mk (st := s_Book_entry) l2 c2 k2
  have b2 := F2.binds (ps := P_Book_entry) fun _ _ _ _ _ _ us hl => match us, hl with | [_, _], _ => rfl
  have F3 := fun_mk (st := s_Office_entry) l3 c3 k3
  have b3 := F3.binds (ps := P_Office_entry) fun _ _ _ _ _ _ us hl => match us, hl with | [_, _], _ => rfl
  have F4 := fun_mk (st := s_check_quantity) l4 c4 k4
  have b4 := F4.binds (ps := P_check_quantity) fun _ _ _ _ _ _ us hl => match us, hl with | [_], _ => rfl
  have F5 := fun_mk (st := s_format_line) l5 c5 k5
  have b5 := F5.binds (ps := P_format_line) fun _ _ _ _ _ _ us hl => match us, hl with | [_], _ => rfl
  have F6 := fun_mk (st := s_Entry_begin) l6 c6 k6
  have b6 := F6.binds (ps := P_Entry_begin) fun _ _ _ _ _ _ us hl => match us, hl with | [_, _, _, _], _ => rfl
  have F7 := fun_mk (st := s_Entry_init) l7 c7 k7
  have b7 := F7.binds (ps := P_Entry_init) fun _ _ _ _ _ _ us hl => match us, hl with | [_, _], _ => rfl
  have F8 := fun_mk (st := s_Book_pbegin) l8 c8 k8
  have b8 := F8.binds (ps := P_Book_pbegin) fun _ _ _ _ _ _ us hl => match us, hl with | [_, _, _, _], _ => rfl
  have F9 := fun_mk (st := s_Book_pgive) l9 c9 k9
  have b9 := F9.binds (ps := P_Book_pgive) fun _ _ _ _ _ _ us hl => match us, hl with | [_, _, _, _], _ => rfl
  have F10 := fun_mk (st := s_Book_pgot) l10 c10 k10
  have b10 := F10.binds (ps := P_Book_pgot) fun _ _ _ _ _ _ us hl => match us, hl with | [_, _], _ => rfl
  have F11 := fun_mk (st := s_Book_psplit) l11 c11 k11
  have b11 := F11.binds (ps := P_Book_psplit) fun _ _ _ _ _ _ us hl => match us, hl with | [_, _], _ => rfl
  have F12 := fun_mk (st := s_Book_pjoin) l12 c12 k12
  have b12 := F12.binds (ps := P_Book_pjoin) fun _ _ _ _ _ _ us hl => match us, hl with | [_, _], _ => rfl
  have F13 := fun_mk (st := s_Book_pmark) l13 c13 k13
  have b13 := F13.binds (ps := P_Book_pmark) fun _ _ _ _ _ _ us hl => match us, hl with | [_, _], _ => rfl
  have F14 := fun_mk (st := s_Book_panswer) l14 c14 k14
  have b14 := F14.binds (ps := P_Book_panswer) fun _ _ _ _ _ _ us hl => match us, hl with | [_, _], _ => rfl
  have F15 := fun_mk (st := s_Book_apply) l15 c15 k15
  have b15 := F15.binds (ps := P_Book_apply) fun _ _ _ _ _ _ us hl => match us, hl with | [_, _], _ => rfl
  have F16 := fun_mk (st := s_Office_pwrite) l16 c16 k16
  have b16 := F16.binds (ps := P_Office_pwrite) fun _ _ _ _ _ _ us hl => match us, hl with | [_, _], _ => rfl
  have F17 := fun_mk (st := s_id_of) l17 c17 k17
  have b17 := F17.binds (ps := P_id_of) fun _ _ _ _ _ _ us hl => match us, hl with | [_, _], _ => rfl
  have F18 := fun_mk (st := s_Book_new_ids) l18 c18 k18
  have b18 := F18.binds (ps := P_Book_new_ids) fun _ _ _ _ _ _ us hl => match us, hl with | [_, _], _ => rfl
  have F19 := fun_mk (st := s_Office_pfree) l19 c19 k19
  have b19 := F19.binds (ps := P_Office_pfree) fun _ _ _ _ _ _ us hl => match us, hl with | [_, _], _ => rfl
  have F20 := fun_mk (st := s_Office_split) l20 c20 k20
  have b20 := F20.binds (ps := P_Office_split) fun _ _ _ _ _ _ us hl => match us, hl with | [_, _, _], _ => rfl
  have F21 := fun_mk (st := s_L_split) l21 c21 k21
  have b21 := F21.binds (ps := P_L_split) fun _ _ _ _ _ _ us hl => match us, hl with | [_, _, _, _], _ => rfl
  have F22 := fun_mk (st := s_Office_join) l22 c22 k22
  have b22 := F22.binds (ps := P_Office_join) fun _ _ _ _ _ _ us hl => match us, hl with | [_, _], _ => rfl
  have F23 := fun_mk (st := s_L_join) l23 c23 k23
  have b23 := F23.binds (ps := P_L_join) fun _ _ _ _ _ _ us hl => match us, hl with | [_, _, _, _], _ => rfl
  have F24 := fun_mk (st := s_Office_known) l24 c24 k24
  have b24 := F24.binds (ps := P_Office_known) fun _ _ _ _ _ _ us hl => match us, hl with | [_], _ => rfl
  have F25 := fun_mk (st := s_Office_held) l25 c25 k25
  have b25 := F25.binds (ps := P_Office_held) fun _ _ _ _ _ _ us hl => match us, hl with | [_], _ => rfl
  have F26 := fun_mk (st := s_Office_create) l26 c26 k26
  have b26 := F26.binds (ps := P_Office_create) fun _ _ _ _ _ _ us hl => match us, hl with | [_, _], _ => rfl
  have F27 := fun_mk (st := s_is_office) l27 c27 k27
  have b27 := F27.binds (ps := P_is_office) fun _ _ _ _ _ _ us hl => match us, hl with | [_], _ => rfl
  have F28 := fun_mk (st := s_whole_lines) l28 c28 k28
  have b28 := F28.binds (ps := P_whole_lines) fun _ _ _ _ _ _ us hl => match us, hl with | [_], _ => rfl
  have F29 := fun_mk (st := s_number_of) l29 c29 k29
  have b29 := F29.binds (ps := P_number_of) fun _ _ _ _ _ _ us hl => match us, hl with | [_], _ => rfl
  have F30 := fun_mk (st := s_is_thing) l30 c30 k30
  have b30 := F30.binds (ps := P_is_thing) fun _ _ _ _ _ _ us hl => match us, hl with | [_], _ => rfl
  have F31 := fun_mk (st := s_value_of) l31 c31 k31
  have b31 := F31.binds (ps := P_value_of) fun _ _ _ _ _ _ us hl => match us, hl with | [_, _], _ => rfl
  have F32 := fun_mk (st := s_values_of) l32 c32 k32
  have b32 := F32.binds (ps := P_values_of) fun _ _ _ _ _ _ us hl => match us, hl with | [_, _], _ => rfl
  have F33 := fun_mk (st := s_parse_join) l33 c33 k33
  have b33 := F33.binds (ps := P_parse_join) fun _ _ _ _ _ _ us hl => match us, hl with | [_], _ => rfl
  have F34 := fun_mk (st := s_parse_split) l34 c34 k34
  have b34 := F34.binds (ps := P_parse_split) fun _ _ _ _ _ _ us hl => match us, hl with | [_], _ => rfl
  have F35 := fun_mk (st := s_row_of) l35 c35 k35
  have b35 := F35.binds (ps := P_row_of) fun _ _ _ _ _ _ us hl => match us, hl with | [_], _ => rfl
  have F36 := fun_mk (st := s_parse_journal) l36 c36 k36
  have b36 := F36.binds (ps := P_parse_journal) fun _ _ _ _ _ _ us hl => match us, hl with | [_], _ => rfl
  have F37 := fun_mk (st := s_Book_fits) l37 c37 k37
  have b37 := F37.binds (ps := P_Book_fits) fun _ _ _ _ _ _ us hl => match us, hl with | [_, _], _ => rfl
  have F38 := fun_mk (st := s_Book_init) l38 c38 k38
  have b38 := F38.binds (ps := P_Book_init) fun _ _ _ _ _ _ us hl => match us, hl with | [_, _], _ => rfl
  have F39 := funD_mk (st := s_Office_init) l39 c39 k39 dl39
  have bD39 := F39.binds1 (ps := P_Office_init) 2 0 (by simp) rfl fun _ _ _ _ _ _ _ us its hu hi => match us, its, hu, hi with | [_, _], [_], _, _ => ⟨_, rfl, rfl⟩
  have bA39 := F39.binds1 (ps := P_Office_init) 3 1 (by simp) rfl fun _ _ _ _ _ _ _ us its hu hi => match us, its, hu, hi with | [_, _, _], [_], _, _ => ⟨_, rfl, rfl⟩
  have F40 := fun_mk (st := s_law) l40 c40 k40
  refine ⟨PySem.W.fnOf "law" "law" (defArgs s_law) (defBody s_law) (defScope s_law) .none kV40 dc40 pm40 an40 cd40 ct40, fun s v => .of_eq rfl, fun base _ _ => ?_⟩
  have C0 : Df l.prog w K mg base 1 "_law_cut" P_L_cut f_L_cut := ⟨f0, _, (ok_L_cut (base := base) T F0), PySem.W.mg_of X G a0, k0, b0⟩
  have C1 : Mm l.prog w K mg base 1 "Entry" "told" P_Entry_told f_Entry_told := ⟨KEntry, f1, _, PySem.W.mg_of X G a_Entry, cl_Entry, ⟨a1, i1, k1⟩, (ok_Entry_told (base := base) T F1), b1⟩
  have C2 : Mm l.prog w K mg base 1 "Book" "entry" P_Book_entry f_Book_entry := ⟨KBook, f2, _, PySem.W.mg_of X G a_Book, cl_Book, ⟨a2, i2, k2⟩, (ok_Book_entry (base := base) T F2), b2⟩
  have C3 : Mm l.prog w K mg base 2 "Office" "entry" P_Office_entry f_Office_entry := ⟨KOffice, f3, _, PySem.W.mg_of X G a_Office, cl_Office, ⟨a3, i3, k3⟩, (ok_Office_entry (base := base) T C1 C2 F3), b3⟩
  have C4 : Dm l.prog w K mg base 1 "check_quantity" P_check_quantity f_check_quantity := ⟨f4, _, (ok_check_quantity (base := base) T F4), PySem.W.mg_of X G a4, k4, b4⟩
  have C5 : Df l.prog w K mg base 1 "format_line" P_format_line f_format_line := ⟨f5, _, (ok_format_line (base := base) T F5), PySem.W.mg_of X G a5, k5, b5⟩
  have C6 : Mm l.prog w K mg base 1 "Entry" "begin" P_Entry_begin f_Entry_begin := ⟨KEntry, f6, _, PySem.W.mg_of X G a_Entry, cl_Entry, ⟨a6, i6, k6⟩, (ok_Entry_begin (base := base) T F6), b6⟩
  have C7 : Mi l.prog w K mg base 1 "Entry" P_Entry_init f_Entry_init := ⟨KEntry, f7, _, PySem.W.mg_of X G a_Entry, ⟨mk_Entry, a7, i7, kc_Entry⟩, (ok_Entry_init (base := base) T F7), b7⟩
  have C8 : Mm l.prog w K mg base 3 "Book" "_begin" P_Book_pbegin f_Book_pbegin := ⟨KBook, f8, _, PySem.W.mg_of X G a_Book, cl_Book, ⟨a8, i8, k8⟩, (ok_Book_pbegin (base := base) T C6 C7 F8), b8⟩
  have C9 : Mm l.prog w K mg base 1 "Book" "_give" P_Book_pgive f_Book_pgive := ⟨KBook, f9, _, PySem.W.mg_of X G a_Book, cl_Book, ⟨a9, i9, k9⟩, (ok_Book_pgive (base := base) T F9), b9⟩
  have C10 : Mm l.prog w K mg base 1 "Book" "_got" P_Book_pgot f_Book_pgot := ⟨KBook, f10, _, PySem.W.mg_of X G a_Book, cl_Book, ⟨a10, i10, k10⟩, (ok_Book_pgot (base := base) T F10), b10⟩
  have C11 : Mm l.prog w K mg base 4 "Book" "_split" P_Book_psplit f_Book_psplit := ⟨KBook, f11, _, PySem.W.mg_of X G a_Book, cl_Book, ⟨a11, i11, k11⟩, (ok_Book_psplit (base := base) T C8 F11), b11⟩
  have C12 : Mm l.prog w K mg base 4 "Book" "_join" P_Book_pjoin f_Book_pjoin := ⟨KBook, f12, _, PySem.W.mg_of X G a_Book, cl_Book, ⟨a12, i12, k12⟩, (ok_Book_pjoin (base := base) T C8 F12), b12⟩
  have C13 : Mm l.prog w K mg base 1 "Book" "_mark" P_Book_pmark f_Book_pmark := ⟨KBook, f13, _, PySem.W.mg_of X G a_Book, cl_Book, ⟨a13, i13, k13⟩, (ok_Book_pmark (base := base) T F13), b13⟩
  have C14 : Mm l.prog w K mg base 1 "Book" "_answer" P_Book_panswer f_Book_panswer := ⟨KBook, f14, _, PySem.W.mg_of X G a_Book, cl_Book, ⟨a14, i14, k14⟩, (ok_Book_panswer (base := base) T F14), b14⟩
  have C15 : Mm l.prog w K mg base 5 "Book" "apply" P_Book_apply f_Book_apply := ⟨KBook, f15, _, PySem.W.mg_of X G a_Book, cl_Book, ⟨a15, i15, k15⟩, (ok_Book_apply (base := base) T C8 C9 C10 C11 C12 C13 C14 F15), b15⟩
  have C16 : Mm l.prog w K mg base 6 "Office" "_write" P_Office_pwrite f_Office_pwrite := ⟨KOffice, f16, _, PySem.W.mg_of X G a_Office, cl_Office, ⟨a16, i16, k16⟩, (ok_Office_pwrite (base := base) T C5 C15 F16), b16⟩
  have C17 : Df l.prog w K mg base 1 "id_of" P_id_of f_id_of := ⟨f17, _, (ok_id_of (base := base) T F17), PySem.W.mg_of X G a17, k17, b17⟩
  have C18 : Mm l.prog w K mg base 2 "Book" "new_ids" P_Book_new_ids f_Book_new_ids := ⟨KBook, f18, _, PySem.W.mg_of X G a_Book, cl_Book, ⟨a18, i18, k18⟩, (ok_Book_new_ids (base := base) T C17 F18), b18⟩
  have C19 : Mm l.prog w K mg base 2 "Office" "_free" P_Office_pfree f_Office_pfree := ⟨KOffice, f19, _, PySem.W.mg_of X G a_Office, cl_Office, ⟨a19, i19, k19⟩, (ok_Office_pfree (base := base) T C2 F19), b19⟩
  have C20 : Mm l.prog w K mg base 7 "Office" "split" P_Office_split f_Office_split := ⟨KOffice, f20, _, PySem.W.mg_of X G a_Office, cl_Office, ⟨a20, i20, k20⟩, (ok_Office_split (base := base) T C4 C16 C18 C19 F20), b20⟩
  have C21 : Dm l.prog w K mg base 8 "_law_split" P_L_split f_L_split := ⟨f21, _, (ok_L_split (base := base) T C0 C3 C20 F21), PySem.W.mg_of X G a21, k21, b21⟩
  have C22 : Mm l.prog w K mg base 7 "Office" "join" P_Office_join f_Office_join := ⟨KOffice, f22, _, PySem.W.mg_of X G a_Office, cl_Office, ⟨a22, i22, k22⟩, (ok_Office_join (base := base) T C16 C18 C19 F22), b22⟩
  have C23 : Dm l.prog w K mg base 8 "_law_join" P_L_join f_L_join := ⟨f23, _, (ok_L_join (base := base) T C3 C22 F23), PySem.W.mg_of X G a23, k23, b23⟩
  have C24 : Mm l.prog w K mg base 1 "Office" "known" P_Office_known f_Office_known := ⟨KOffice, f24, _, PySem.W.mg_of X G a_Office, cl_Office, ⟨a24, i24, k24⟩, (ok_Office_known (base := base) T F24), b24⟩
  have C25 : Mm l.prog w K mg base 2 "Office" "held" P_Office_held f_Office_held := ⟨KOffice, f25, _, PySem.W.mg_of X G a_Office, cl_Office, ⟨a25, i25, k25⟩, (ok_Office_held (base := base) T C24 F25), b25⟩
  have C26 : Mm l.prog w K mg base 7 "Office" "create" P_Office_create f_Office_create := ⟨KOffice, f26, _, PySem.W.mg_of X G a_Office, cl_Office, ⟨a26, i26, k26⟩, (ok_Office_create (base := base) T C4 C16 C18 F26), b26⟩
  have C27 : Df l.prog w K mg base 1 "is_office" P_is_office f_is_office := ⟨f27, _, (ok_is_office (base := base) T F27), PySem.W.mg_of X G a27, k27, b27⟩
  have C28 : Df l.prog w K mg base 1 "whole_lines" P_whole_lines f_whole_lines := ⟨f28, _, (ok_whole_lines (base := base) T F28), PySem.W.mg_of X G a28, k28, b28⟩
  have C29 : Df l.prog w K mg base 1 "number_of" P_number_of f_number_of := ⟨f29, _, (ok_number_of (base := base) T F29), PySem.W.mg_of X G a29, k29, b29⟩
  have C30 : Df l.prog w K mg base 2 "is_thing" P_is_thing f_is_thing := ⟨f30, _, (ok_is_thing (base := base) T C29 C27 F30), PySem.W.mg_of X G a30, k30, b30⟩
  have C31 : Df l.prog w K mg base 3 "value_of" P_value_of f_value_of := ⟨f31, _, (ok_value_of (base := base) T C30 C27 C29 F31), PySem.W.mg_of X G a31, k31, b31⟩
  have C32 : Df l.prog w K mg base 4 "values_of" P_values_of f_values_of := ⟨f32, _, (ok_values_of (base := base) T C31 F32), PySem.W.mg_of X G a32, k32, b32⟩
  have C33 : Df l.prog w K mg base 5 "parse_join" P_parse_join f_parse_join := ⟨f33, _, (ok_parse_join (base := base) T C32 F33), PySem.W.mg_of X G a33, k33, b33⟩
  have C34 : Df l.prog w K mg base 5 "parse_split" P_parse_split f_parse_split := ⟨f34, _, (ok_parse_split (base := base) T C32 F34), PySem.W.mg_of X G a34, k34, b34⟩
  have C35 : Df l.prog w K mg base 6 "row_of" P_row_of f_row_of := ⟨f35, _, (ok_row_of (base := base) T C32 C33 C34 F35), PySem.W.mg_of X G a35, k35, b35⟩
  have C36 : Dm l.prog w K mg base 7 "parse_journal" P_parse_journal f_parse_journal := ⟨f36, _, (ok_parse_journal (base := base) T C28 C35 (XJ_InvalidLine base) F36), PySem.W.mg_of X G a36, k36, b36⟩
  have C37 : Mm l.prog w K mg base 1 "Book" "fits" P_Book_fits f_Book_fits := ⟨KBook, f37, _, PySem.W.mg_of X G a_Book, cl_Book, ⟨a37, i37, k37⟩, (ok_Book_fits (base := base) T F37), b37⟩
  have C38 : Mi l.prog w K mg base 1 "Book" P_Book_init f_Book_init := ⟨KBook, f38, _, PySem.W.mg_of X G a_Book, ⟨mk_Book, a38, i38, kc_Book⟩, (ok_Book_init (base := base) T F38), b38⟩
  have C39 : Mi l.prog w K mg base 8 "Office" P_Office_init f_Office_init := mi_D (PySem.W.mg_of X G a_Office) ⟨mk_Office, a39, i39, kc_Office⟩ (ok_Office_init (base := base) T C27 C36 C16 C37 (XJ_BrokenJournal base) C38 F39) bA39
  have CD39 : Md l.prog w K mg base 8 "Office" P_Office_init "" f_Office_init := md_D (PySem.W.mg_of X G a_Office) ⟨mk_Office, a39, i39, kc_Office⟩ (ok_Office_init (base := base) T C27 C36 C16 C37 (XJ_BrokenJournal base) C38 F39) bD39
  exact FnOk.imp (ok_law (base := base) T C21 C23 C3 C25 C24 C26 CD39 F40) (law_spM law_true)
theorem walk {l : PySem.W.OpenLaw} {q : Program} {loose : List Str} {XP : (Str → Option Value) → Heap → Prop} {YP : World → Heap → Prop} {d : DefRec} {K : Params → PySem.W.Frag} (hn : l.most = some 63) (hdf : d.params.defaults = [])
    (hY : ∀ (w : World) (h : Heap), YP w h → (K w.params).In h)
    (F : ∀ (w : World) (mg : Str → Option Value) (fa : Addr) (h : Heap), (K w.params).In h → h.Ns mainGlobals mg → mg d.name = some (.ref fa) →
      ∃ fd : FuncData, (∀ (s : Shared) (u : Value), BindsTo s fd ⟨[u], []⟩ [("_law_script", u)]) ∧ ∀ base : Heap, (K w.params).In base → base.Ns mainGlobals mg → FnOk l.prog w (K w.params) mg base (L2.CX l.prog w) 10 fa fd P_law (spL (K w.params))) :
    PySem.W.WalkO q loose XP YP l.row.toRowW d [] (fun f vs => PySem.call f vs) :=
  L2.walk_of (n := 63) (k := 10) (x := "_law_script") (CX := fun w => L2.CX l.prog w) (sp := fun w => spL (K w.params)) hn (by decide) hdf ⟨rfl, by decide, by decide⟩ hY F (fun w H a ns hl _ hS => spL_of H a ns hl hS) fun _ _ _ _ _ z => cx_none z
end Lh
open PySem PySem.W PyProof.Rows in
set_option maxRecDepth 100000 in
set_option maxHeartbeats 0 in
theorem PySem.Challenge.cw_letterheld_k32_splitting_and_joining_holds : PySem.Challenge.rw_letterheld_k32_splitting_and_joining.Holds := by
  w_on; o_law; k_head; (case hw => w_witness2)
  k_fill
  refine Lh.walk (l := PySem.Challenge.rw_letterheld_k32_splitting_and_joining) rfl rfl (fun w h Y => PySem.W.kIn_of Y) ?F
  case F =>
    intro w mg fa h KX G hmg
    refine' Lh.all_mk KX G hmg ?a_Entry ?pg_Entry ?hd_Entry ?po_Entry ?sa_Entry ?mk_Entry ?kc_Entry ?a_Book ?pg_Book ?hd_Book ?po_Book ?sa_Book ?mk_Book ?kc_Book ?a_Office ?pg_Office ?hd_Office ?po_Office ?sa_Office ?mk_Office ?kc_Office ?n_Entry_is_recalled ?n_Entry_receiver ?n_Entry_state ?n_Entry_epoch ?n_Entry_quantity ?n_Entry_home ?n_Entry_thing ?n_Book_entries ?n_Office_book ?n_Entry_is_paid ?n_Entry_is_noted ?n_Entry_is_received ?n_Entry_children ?n_Book_next_number ?n_Book_office ?n_Office_lines ?n_Book_credit ?n_Book_payments ?n_Office_name ?a_InvalidLine ?b_InvalidLine ?t_InvalidLine ?lx_InvalidLine ?rv_InvalidLine ?sa_InvalidLine ?kp_InvalidLine ?su_InvalidLine ?ve_InvalidLine ?se_InvalidLine ?fl_InvalidLine ?in_InvalidLine ?ty_InvalidLine ?lf_InvalidLine ?cd_InvalidLine ?lc_InvalidLine ?vf_InvalidLine ?hf_InvalidLine ?ce_InvalidLine ?a_BrokenJournal ?b_BrokenJournal ?t_BrokenJournal ?lx_BrokenJournal ?rv_BrokenJournal ?sa_BrokenJournal ?kp_BrokenJournal ?su_BrokenJournal ?ve_BrokenJournal ?se_BrokenJournal ?fl_BrokenJournal ?in_BrokenJournal ?ty_BrokenJournal ?lf_BrokenJournal ?cd_BrokenJournal ?lc_BrokenJournal ?vf_BrokenJournal ?hf_BrokenJournal ?ce_BrokenJournal ?a_InvalidQuantity ?b_InvalidQuantity ?t_InvalidQuantity ?x_InvalidQuantity ?kp_InvalidQuantity ?a_Frozen ?b_Frozen ?t_Frozen ?x_Frozen ?kp_Frozen ?a_NotHeld ?b_NotHeld ?t_NotHeld ?x_NotHeld ?kp_NotHeld ?a_InvalidThings ?b_InvalidThings ?t_InvalidThings ?x_InvalidThings ?kp_InvalidThings ?a_InvalidOffice ?b_InvalidOffice ?t_InvalidOffice ?x_InvalidOffice ?kp_InvalidOffice ?z_super ?op_x ?tp_x ?a0 ?l0 ?c0 ?k0 ?a1 ?i1 ?l1 ?c1 ?k1 ?a2 ?i2 ?l2 ?c2 ?k2 ?a3 ?i3 ?l3 ?c3 ?k3 ?a4 ?l4 ?c4 ?k4 ?a5 ?l5 ?c5 ?k5 ?a6 ?i6 ?l6 ?c6 ?k6 ?a7 ?i7 ?l7 ?c7 ?k7 ?a8 ?i8 ?l8 ?c8 ?k8 ?a9 ?i9 ?l9 ?c9 ?k9 ?a10 ?i10 ?l10 ?c10 ?k10 ?a11 ?i11 ?l11 ?c11 ?k11 ?a12 ?i12 ?l12 ?c12 ?k12 ?a13 ?i13 ?l13 ?c13 ?k13 ?a14 ?i14 ?l14 ?c14 ?k14 ?a15 ?i15 ?l15 ?c15 ?k15 ?a16 ?i16 ?l16 ?c16 ?k16 ?a17 ?l17 ?c17 ?k17 ?a18 ?i18 ?l18 ?c18 ?k18 ?a19 ?i19 ?l19 ?c19 ?k19 ?a20 ?i20 ?l20 ?c20 ?k20 ?a21 ?l21 ?c21 ?k21 ?a22 ?i22 ?l22 ?c22 ?k22 ?a23 ?l23 ?c23 ?k23 ?a24 ?i24 ?l24 ?c24 ?k24 ?a25 ?i25 ?l25 ?c25 ?k25 ?a26 ?i26 ?l26 ?c26 ?k26 ?a27 ?l27 ?c27 ?k27 ?a28 ?l28 ?c28 ?k28 ?a29 ?l29 ?c29 ?k29 ?a30 ?l30 ?c30 ?k30 ?a31 ?l31 ?c31 ?k31 ?a32 ?l32 ?c32 ?k32 ?a33 ?l33 ?c33 ?k33 ?a34 ?l34 ?c34 ?k34 ?a35 ?l35 ?c35 ?k35 ?a36 ?l36 ?c36 ?k36 ?a37 ?i37 ?l37 ?c37 ?k37 ?a38 ?i38 ?l38 ?c38 ?k38 ?a39 ?i39 ?l39 ?dl39 ?c39 ?k39 ?a40 ?l40 ?c40 ?k40 ?z_range ?z_int ?z_max ?z_isinstance ?z_bool ?z_str ?z_zip ?z_tuple ?z_len ?z_sum ?z_list ?z_enumerate ?z_sorted ?z_MOST ?z_LETTERS ?z_GREATEST ?z_DIGITS ?a_LINES ?l_LINES ?y_LINES ?o_LINES
    (case a_Entry => k_is)
    (case pg_Entry => k_is)
    (case hd_Entry => k_is)
    (case po_Entry => k_is)
    (case sa_Entry => k_is)
    (case mk_Entry => k_is)
    (case kc_Entry => k_is)
    (case a_Book => k_is)
    (case pg_Book => k_is)
    (case hd_Book => k_is)
    (case po_Book => k_is)
    (case sa_Book => k_is)
    (case mk_Book => k_is)
    (case kc_Book => k_is)
    (case a_Office => k_is)
    (case pg_Office => k_is)
    (case hd_Office => k_is)
    (case po_Office => k_is)
    (case sa_Office => k_is)
    (case mk_Office => k_is)
    (case kc_Office => k_is)
    (case n_Entry_is_recalled => k_is)
    (case n_Entry_receiver => k_is)
    (case n_Entry_state => k_is)
    (case n_Entry_epoch => k_is)
    (case n_Entry_quantity => k_is)
    (case n_Entry_home => k_is)
    (case n_Entry_thing => k_is)
    (case n_Book_entries => k_is)
    (case n_Office_book => k_is)
    (case n_Entry_is_paid => k_is)
    (case n_Entry_is_noted => k_is)
    (case n_Entry_is_received => k_is)
    (case n_Entry_children => k_is)
    (case n_Book_next_number => k_is)
    (case n_Book_office => k_is)
    (case n_Office_lines => k_is)
    (case n_Book_credit => k_is)
    (case n_Book_payments => k_is)
    (case n_Office_name => k_is)
    (case a_InvalidLine => k_is)
    (case b_InvalidLine => k_is)
    (case t_InvalidLine => k_is)
    (case lx_InvalidLine => k_is)
    (case rv_InvalidLine => decide +kernel)
    (case sa_InvalidLine => k_is)
    (case kp_InvalidLine => k_is)
    (case su_InvalidLine => ks_is)
    (case ve_InvalidLine => k_is)
    (case se_InvalidLine => k_is)
    (case fl_InvalidLine => k_is)
    (case in_InvalidLine => k_is)
    (case ty_InvalidLine => k_is)
    (case lf_InvalidLine => k_is)
    (case cd_InvalidLine => k_is)
    (case lc_InvalidLine => k_is)
    (case vf_InvalidLine => rfl)
    (case hf_InvalidLine => first | rfl | decide +kernel)
    (case ce_InvalidLine => k_is)
    (case a_BrokenJournal => k_is)
    (case b_BrokenJournal => k_is)
    (case t_BrokenJournal => k_is)
    (case lx_BrokenJournal => k_is)
    (case rv_BrokenJournal => decide +kernel)
    (case sa_BrokenJournal => k_is)
    (case kp_BrokenJournal => k_is)
    (case su_BrokenJournal => ks_is)
    (case ve_BrokenJournal => k_is)
    (case se_BrokenJournal => k_is)
    (case fl_BrokenJournal => k_is)
    (case in_BrokenJournal => k_is)
    (case ty_BrokenJournal => k_is)
    (case lf_BrokenJournal => k_is)
    (case cd_BrokenJournal => k_is)
    (case lc_BrokenJournal => k_is)
    (case vf_BrokenJournal => rfl)
    (case hf_BrokenJournal => first | rfl | decide +kernel)
    (case ce_BrokenJournal => k_is)
    (case a_InvalidQuantity => k_is)
    (case b_InvalidQuantity => k_is)
    (case t_InvalidQuantity => k_is)
    (case x_InvalidQuantity => k_exc)
    (case kp_InvalidQuantity => k_is)
    (case a_Frozen => k_is)
    (case b_Frozen => k_is)
    (case t_Frozen => k_is)
    (case x_Frozen => k_exc)
    (case kp_Frozen => k_is)
    (case a_NotHeld => k_is)
    (case b_NotHeld => k_is)
    (case t_NotHeld => k_is)
    (case x_NotHeld => k_exc)
    (case kp_NotHeld => k_is)
    (case a_InvalidThings => k_is)
    (case b_InvalidThings => k_is)
    (case t_InvalidThings => k_is)
    (case x_InvalidThings => k_exc)
    (case kp_InvalidThings => k_is)
    (case a_InvalidOffice => k_is)
    (case b_InvalidOffice => k_is)
    (case t_InvalidOffice => k_is)
    (case x_InvalidOffice => k_exc)
    (case kp_InvalidOffice => k_is)
    (case z_super => k_is)
    (case op_x => k_is)
    (case tp_x => first | rfl | decide +kernel)
    (case a0 => k_is)
    (case l0 => k_is)
    (case c0 => k_is)
    (case k0 => k_is)
    (case a1 => k_is)
    (case i1 => k_is)
    (case l1 => k_is)
    (case c1 => k_is)
    (case k1 => k_is)
    (case a2 => k_is)
    (case i2 => k_is)
    (case l2 => k_is)
    (case c2 => k_is)
    (case k2 => k_is)
    (case a3 => k_is)
    (case i3 => k_is)
    (case l3 => k_is)
    (case c3 => k_is)
    (case k3 => k_is)
    (case a4 => k_is)
    (case l4 => k_is)
    (case c4 => k_is)
    (case k4 => k_is)
    (case a5 => k_is)
    (case l5 => k_is)
    (case c5 => k_is)
    (case k5 => k_is)
    (case a6 => k_is)
    (case i6 => k_is)
    (case l6 => k_is)
    (case c6 => k_is)
    (case k6 => k_is)
    (case a7 => k_is)
    (case i7 => k_is)
    (case l7 => k_is)
    (case c7 => k_is)
    (case k7 => k_is)
    (case a8 => k_is)
    (case i8 => k_is)
    (case l8 => k_is)
    (case c8 => k_is)
    (case k8 => k_is)
    (case a9 => k_is)
    (case i9 => k_is)
    (case l9 => k_is)
    (case c9 => k_is)
    (case k9 => k_is)
    (case a10 => k_is)
    (case i10 => k_is)
    (case l10 => k_is)
    (case c10 => k_is)
    (case k10 => k_is)
    (case a11 => k_is)
    (case i11 => k_is)
    (case l11 => k_is)
    (case c11 => k_is)
    (case k11 => k_is)
    (case a12 => k_is)
    (case i12 => k_is)
    (case l12 => k_is)
    (case c12 => k_is)
    (case k12 => k_is)
    (case a13 => k_is)
    (case i13 => k_is)
    (case l13 => k_is)
    (case c13 => k_is)
    (case k13 => k_is)
    (case a14 => k_is)
    (case i14 => k_is)
    (case l14 => k_is)
    (case c14 => k_is)
    (case k14 => k_is)
    (case a15 => k_is)
    (case i15 => k_is)
    (case l15 => k_is)
    (case c15 => k_is)
    (case k15 => k_is)
    (case a16 => k_is)
    (case i16 => k_is)
    (case l16 => k_is)
    (case c16 => k_is)
    (case k16 => k_is)
    (case a17 => k_is)
    (case l17 => k_is)
    (case c17 => k_is)
    (case k17 => k_is)
    (case a18 => k_is)
    (case i18 => k_is)
    (case l18 => k_is)
    (case c18 => k_is)
    (case k18 => k_is)
    (case a19 => k_is)
    (case i19 => k_is)
    (case l19 => k_is)
    (case c19 => k_is)
    (case k19 => k_is)
    (case a20 => k_is)
    (case i20 => k_is)
    (case l20 => k_is)
    (case c20 => k_is)
    (case k20 => k_is)
    (case a21 => k_is)
    (case l21 => k_is)
    (case c21 => k_is)
    (case k21 => k_is)
    (case a22 => k_is)
    (case i22 => k_is)
    (case l22 => k_is)
    (case c22 => k_is)
    (case k22 => k_is)
    (case a23 => k_is)
    (case l23 => k_is)
    (case c23 => k_is)
    (case k23 => k_is)
    (case a24 => k_is)
    (case i24 => k_is)
    (case l24 => k_is)
    (case c24 => k_is)
    (case k24 => k_is)
    (case a25 => k_is)
    (case i25 => k_is)
    (case l25 => k_is)
    (case c25 => k_is)
    (case k25 => k_is)
    (case a26 => k_is)
    (case i26 => k_is)
    (case l26 => k_is)
    (case c26 => k_is)
    (case k26 => k_is)
    (case a27 => k_is)
    (case l27 => k_is)
    (case c27 => k_is)
    (case k27 => k_is)
    (case a28 => k_is)
    (case l28 => k_is)
    (case c28 => k_is)
    (case k28 => k_is)
    (case a29 => k_is)
    (case l29 => k_is)
    (case c29 => k_is)
    (case k29 => k_is)
    (case a30 => k_is)
    (case l30 => k_is)
    (case c30 => k_is)
    (case k30 => k_is)
    (case a31 => k_is)
    (case l31 => k_is)
    (case c31 => k_is)
    (case k31 => k_is)
    (case a32 => k_is)
    (case l32 => k_is)
    (case c32 => k_is)
    (case k32 => k_is)
    (case a33 => k_is)
    (case l33 => k_is)
    (case c33 => k_is)
    (case k33 => k_is)
    (case a34 => k_is)
    (case l34 => k_is)
    (case c34 => k_is)
    (case k34 => k_is)
    (case a35 => k_is)
    (case l35 => k_is)
    (case c35 => k_is)
    (case k35 => k_is)
    (case a36 => k_is)
    (case l36 => k_is)
    (case c36 => k_is)
    (case k36 => k_is)
    (case a37 => k_is)
    (case i37 => k_is)
    (case l37 => k_is)
    (case c37 => k_is)
    (case k37 => k_is)
    (case a38 => k_is)
    (case i38 => k_is)
    (case l38 => k_is)
    (case c38 => k_is)
    (case k38 => k_is)
    (case a39 => k_is)
    (case i39 => k_is)
    (case l39 => k_is)
    (case dl39 => k_is)
    (case c39 => k_is)
    (case k39 => k_is)
    (case a40 => k_is)
    (case l40 => k_is)
    (case c40 => k_is)
    (case k40 => k_is)
    (case z_range => k_is)
    (case z_int => k_is)
    (case z_max => k_is)
    (case z_isinstance => k_is)
    (case z_bool => k_is)
    (case z_str => k_is)
    (case z_zip => k_is)
    (case z_tuple => k_is)
    (case z_len => k_is)
    (case z_sum => k_is)
    (case z_list => k_is)
    (case z_enumerate => k_is)
    (case z_sorted => k_is)
    (case z_MOST => k_is)
    (case z_LETTERS => k_is)
    (case z_GREATEST => k_is)
    (case z_DIGITS => k_is)
    (case a_LINES => k_is)
    (case l_LINES => k_is)
    (case y_LINES => k_keys)
    (case o_LINES => decide)
#print axioms PySem.Challenge.cw_letterheld_k32_splitting_and_joining_holds

