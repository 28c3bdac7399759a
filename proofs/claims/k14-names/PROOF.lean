import PyProof.Rows.All
import Wide.All
import OpenK.AllK
import Wide.FinOn
import HandS.ForMost
import HandS.ForExc
import HandS.Flow
import HandS.StrMore
import HandS.NoneIn
import HandS.TupAny
import HandS.IsInst
import HandS.Deep
import HandS.RaiseMore
import PySem.Challenge.RW_letterheld_k14_names_and_ids
set_option Elab.async false
set_option linter.all false
set_option maxRecDepth 100000
set_option maxHeartbeats 4000000
/-! Pd: pure defs over data. A def's body is read as a function of its slots; what it makes stands in new objects. -/
namespace Pd
open PySem PySem.Spec L2
open PyProof.Rows hiding St

/-- data -/
inductive D where
  | non | bool (b : Bool) | int (i : Int) | str (x : Str) | lst (xs : List D) | tup (xs : List D) | scr (ns : List Int)

mutual
/-- the value v is the data d, as the heap Hs has it -/
inductive Rp (K : PySem.W.Frag) (H : Hp) : V → D → Prop
  | non : Rp K H .non .non
  | bool (b : Bool) : Rp K H (.bl b) (.bool b)
  | int (i : Int) : Rp K H (.int i) (.int i)
  | str (x : Str) : Rp K H (.str x) (.str x)
  | lst {a : Addr} {xs : List V} {ds : List D} : H a = some (.lst xs) → RpA K H xs ds → Rp K H (.ref a) (.lst ds)
  | tup {a : Addr} {xs : List V} {ds : List D} : SqT K H a xs → RpA K H xs ds → Rp K H (.ref a) (.tup ds)
  | scr {a : Addr} {ns : List Int} : SqL K H a (ns.map V.int) → Rp K H (.ref a) (.scr ns)
inductive RpA (K : PySem.W.Frag) (H : Hp) : List V → List D → Prop
  | nil : RpA K H [] []
  | cons {v : V} {vs : List V} {d : D} {ds : List D} : Rp K H v d → RpA K H vs ds → RpA K H (v :: vs) (d :: ds)
end

theorem sqT_mono {K : PySem.W.Frag} {H H' : Hp} {a : Addr} {xs : List V} (e : Same H H') (h : SqT K H a xs) : SqT K H' a xs := by
  rcases h with (h | ⟨o, h⟩) | h
  · exact .inl (.inl (e _ _ h))
  · exact .inl (.inr ⟨o, e _ _ h⟩)
  · exact .inr h
section
variable {K : PySem.W.Frag} {H H' : Hp}
mutual
theorem Rp.mono (e : Same H H') : ∀ (d : D) (v : V), Rp K H v d → Rp K H' v d
  | .non, _, h => by cases h; exact .non
  | .bool b, _, h => by cases h; exact .bool _
  | .int i, _, h => by cases h; exact .int _
  | .str x, _, h => by cases h; exact .str _
  | .lst ds, _, h => by
    cases h with
    | lst h1 h2 => exact .lst (e _ _ h1) (RpA.mono e _ _ h2)
  | .tup ds, _, h => by
    cases h with
    | tup h1 h2 => exact .tup (sqT_mono e h1) (RpA.mono e _ _ h2)
  | .scr ns, _, h => by
    cases h with
    | scr h1 => exact .scr (e.seq h1)
theorem RpA.mono (e : Same H H') : ∀ (ds : List D) (vs : List V), RpA K H vs ds → RpA K H' vs ds
  | [], _, h => by cases h; exact .nil
  | d :: ds, _, h => by
    cases h with
    | cons h1 h2 => exact .cons (Rp.mono e _ _ h1) (RpA.mono e _ _ h2)
end
theorem RpA.len : ∀ {ds : List D} {vs : List V}, RpA K H vs ds → vs.length = ds.length
  | [], _, h => by cases h; rfl
  | d :: ds, _, h => by
    cases h with
    | cons h1 h2 => simp only [List.length_cons, RpA.len h2]
theorem RpA.get : ∀ {ds : List D} {vs : List V} {i : Nat} {v : V}, RpA K H vs ds → vs[i]? = some v → ∃ d, ds[i]? = some d ∧ Rp K H v d
  | _, _, _, _, .nil, e => by simp at e
  | _, _, 0, _, .cons h1 _, e => by simp at e; subst e; exact ⟨_, rfl, h1⟩
  | _, _, i + 1, v, .cons _ h2, e => by
    obtain ⟨d, h3, h4⟩ := RpA.get (i := i) (v := v) h2 (by simpa using e)
    exact ⟨d, by simpa using h3, h4⟩
theorem RpA.getD : ∀ {ds : List D} {vs : List V} {i : Nat} {d : D}, RpA K H vs ds → ds[i]? = some d → ∃ v, vs[i]? = some v ∧ Rp K H v d
  | _, _, _, _, .nil, e => by simp at e
  | _, _, 0, _, .cons h1 _, e => by simp at e; subst e; exact ⟨_, rfl, h1⟩
  | _, _, i + 1, v, .cons _ h2, e => by
    obtain ⟨d, h3, h4⟩ := RpA.getD (i := i) (d := v) h2 (by simpa using e)
    exact ⟨d, by simpa using h3, h4⟩
theorem RpA.app : ∀ {ds es : List D} {vs us : List V}, RpA K H vs ds → RpA K H us es → RpA K H (vs ++ us) (ds ++ es)
  | _, _, _, _, .nil, h => h
  | _, _, _, _, .cons h1 h2, h => .cons h1 (RpA.app h2 h)
theorem RpA.snoc {d : D} {ds : List D} {v : V} {vs : List V} (h : RpA K H vs ds) (h1 : Rp K H v d) : RpA K H (vs ++ [v]) (ds ++ [d]) := h.app (.cons h1 .nil)
theorem RpA.take : ∀ (n : Nat) {ds : List D} {vs : List V}, RpA K H vs ds → RpA K H (vs.take n) (ds.take n)
  | 0, _, _, _ => by simp; exact .nil
  | n + 1, _, _, .nil => by simp; exact .nil
  | n + 1, _, _, .cons h1 h2 => by simp only [List.take_succ_cons]; exact .cons h1 (RpA.take n h2)
theorem RpA.drop : ∀ (n : Nat) {ds : List D} {vs : List V}, RpA K H vs ds → RpA K H (vs.drop n) (ds.drop n)
  | 0, _, _, h => by simpa using h
  | n + 1, _, _, .nil => by simp; exact .nil
  | n + 1, _, _, .cons h1 h2 => by simp only [List.drop_succ_cons]; exact RpA.drop n h2
theorem RpA.ints : ∀ {ns : List Int}, RpA K H (ns.map V.int) (ns.map D.int)
  | [] => .nil
  | n :: ns => .cons (.int n) RpA.ints
theorem RpA.strs : ∀ {ns : List Str}, RpA K H (ns.map V.str) (ns.map D.str)
  | [] => .nil
  | n :: ns => .cons (.str n) RpA.strs
end

/-! ### equality of data -/
mutual
def D.py : D → PyData
  | .non => .none
  | .bool b => .bool b
  | .int i => .int i
  | .str x => .str x
  | .lst ds => .list (D.pyA ds)
  | .tup ds => .tuple (D.pyA ds)
  | .scr ns => .list (ns.map PyData.int)
def D.pyA : List D → List PyData
  | [] => []
  | d :: ds => d.py :: D.pyA ds
end
section
variable {K : PySem.W.Frag} {H : Hp}
theorem dpAll_ints : ∀ {ns : List Int}, DpAll K H (ns.map V.int) (ns.map PyData.int)
  | [] => .nil
  | n :: ns => .cons (.int n) dpAll_ints
mutual
theorem Rp.dp : ∀ (d : D) (v : V), Rp K H v d → Dp K H v d.py
  | .non, _, h => by cases h; exact .non
  | .bool b, _, h => by cases h; exact .bl _
  | .int i, _, h => by cases h; exact .int _
  | .str x, _, h => by cases h; exact .str _
  | .lst ds, _, h => by
    cases h with
    | lst h1 h2 => exact .lst (SqL.of h1) (RpA.dp _ _ h2)
  | .tup ds, _, h => by
    cases h with
    | tup h1 h2 => exact .tup h1 (RpA.dp _ _ h2)
  | .scr ns, _, h => by
    cases h with
    | scr h1 => exact .lst h1 dpAll_ints
theorem RpA.dp : ∀ (ds : List D) (vs : List V), RpA K H vs ds → DpAll K H vs (D.pyA ds)
  | [], _, h => by cases h; exact .nil
  | d :: ds, _, h => by
    cases h with
    | cons h1 h2 => exact .cons (Rp.dp _ _ h1) (RpA.dp _ _ h2)
end
end

/-! ### a part of the heap that grows -/
structure Ext (Hs H Hs' H' : Hp) : Prop where
  all : Same H H'
  part : Same Hs Hs'
  sub : Same Hs' H'
  new : ∀ a o, Hs' a = some o → Hs a = some o ∨ H a = none
theorem Ext.refl {Hs H : Hp} (s : Same Hs H) : Ext Hs H Hs H := ⟨Same.refl _, Same.refl _, s, fun _ _ h => .inl h⟩
theorem Ext.trans {Hs H Hs1 H1 Hs2 H2 : Hp} (a : Ext Hs H Hs1 H1) (b : Ext Hs1 H1 Hs2 H2) : Ext Hs H Hs2 H2 :=
  ⟨a.all.trans b.all, a.part.trans b.part, b.sub, fun x o h => by
    rcases b.new x o h with h1 | h1
    · exact a.new x o h1
    · exact .inr (a.all.free h1)⟩
/-- a new object -/
theorem Ext.made {Hs H : Hp} (s : Same Hs H) {p : Addr} {o : HO} (hp : H p = none) : Ext Hs H (upd Hs p o) (upd H p o) := by
  have hs : Hs p = none := s.free hp
  refine ⟨fun b u h => ?_, fun b u h => ?_, fun b u h => ?_, fun b u h => ?_⟩
  · rw [upd_ne (ne_of_none h hp)]; exact h
  · rw [upd_ne (ne_of_none h hs)]; exact h
  · by_cases hb : b = p
    · subst hb; rw [upd_same] at h ⊢; exact h
    · rw [upd_ne hb] at h ⊢; exact s b u h
  · by_cases hb : b = p
    · subst hb; exact .inr hp
    · rw [upd_ne hb] at h; exact .inl h
/-- new objects beside the part -/
theorem Ext.side {Hs H H' : Hp} (s : Same Hs H) (e : Same H H') : Ext Hs H Hs H' := ⟨e, Same.refl _, s.trans e, fun _ _ h => .inl h⟩

/-! ### slots -/
inductive Sl where
  | val (d : D) | own (ds : List D) | raw (v : V) | junk
abbrev Rho := List Sl
def VOk (K : PySem.W.Frag) (Hs : Hp) (ov : Option V) : Sl → Prop
  | .val d => ∃ v, ov = some v ∧ Rp K Hs v d
  | .raw v => ov = some v
  | .own _ => True
  | .junk => True
def VEnv (K : PySem.W.Frag) (Hs : Hp) (σ : St) (ρ : Rho) : Prop := Paired (VOk K Hs) σ ρ
theorem VOk.mono {K : PySem.W.Frag} {H H' : Hp} (e : Same H H') {ov : Option V} : ∀ {x : Sl}, VOk K H ov x → VOk K H' ov x
  | .val d, ⟨v, h1, h2⟩ => ⟨v, h1, h2.mono e⟩
  | .raw v, h => h
  | .own _, _ => trivial
  | .junk, _ => trivial
theorem paired_imp {α β : Type} {F G : α → β → Prop} (i : ∀ a b, F a b → G a b) : ∀ {l : List α} {m : List β}, Paired F l m → Paired G l m
  | _, _, .nil => .nil
  | _, _, .cons h t => .cons (i _ _ h) (paired_imp i t)
theorem VEnv.mono {K : PySem.W.Frag} {H H' : Hp} (e : Same H H') {σ : St} {ρ : Rho} (h : VEnv K H σ ρ) : VEnv K H' σ ρ := paired_imp (fun _ _ => VOk.mono e) h
theorem paired_get {α β : Type} {F : α → β → Prop} : ∀ {l : List α} {m : List β} {i : Nat} {b : β}, Paired F l m → m[i]? = some b → ∃ a, l[i]? = some a ∧ F a b
  | _, _, _, _, .nil, e => by simp at e
  | _, _, 0, _, .cons h _, e => by simp at e; subst e; exact ⟨_, rfl, h⟩
  | _, _, i + 1, b, .cons _ t, e => by
    obtain ⟨a, h1, h2⟩ := paired_get (i := i) (b := b) t (by simpa using e)
    exact ⟨a, by simpa using h1, h2⟩
theorem paired_set {α β : Type} {F : α → β → Prop} {a : α} {b : β} (h : F a b) : ∀ {l : List α} {m : List β} (i : Nat), Paired F l m → Paired F (l.set i a) (m.set i b)
  | _, _, _, .nil => .nil
  | _, _, 0, .cons _ t => .cons h t
  | _, _, i + 1, .cons h1 t => .cons h1 (paired_set h i t)

/-! ### the judgements -/
abbrev F := Rho → Option D
abbrev Fs := Rho → Option (List D)
abbrev Ft := Rho → Option Bool
def tD (K : PySem.W.Frag) (f : F) : TE := fun σ H Q => ∃ (Hs : Hp) (ρ : Rho) (d : D), Same Hs H ∧ VEnv K Hs σ ρ ∧ f ρ = some d ∧ ∀ v H' Hs', Ext Hs H Hs' H' → Rp K Hs' v d → Q v H'
def tDs (K : PySem.W.Frag) (f : Fs) : TA := fun σ H Q => ∃ (Hs : Hp) (ρ : Rho) (ds : List D), Same Hs H ∧ VEnv K Hs σ ρ ∧ f ρ = some ds ∧ ∀ vs H' Hs', Ext Hs H Hs' H' → RpA K Hs' vs ds → Q vs H'
def tDT (K : PySem.W.Frag) (f : Ft) : TT := fun σ H Q => ∃ (Hs : Hp) (ρ : Rho) (b : Bool), Same Hs H ∧ VEnv K Hs σ ρ ∧ f ρ = some b ∧ ∀ H', Same H H' → Q b H'

theorem pe_imp {X : Cx} {e : Expr} {t t' : TE} (h : PE X e t) (i : ∀ σ H Q, t' σ H Q → t σ H Q) : PE X e t' := ⟨fun pins s σ H Q I q => h.run pins s σ H Q I (i _ _ _ q)⟩
theorem pt_imp {X : Cx} {e : Expr} {t t' : TT} (h : PT X e t) (i : ∀ σ H Q, t' σ H Q → t σ H Q) : PT X e t' := ⟨fun pins s σ H Q I q => h.run pins s σ H Q I (i _ _ _ q)⟩
theorem pw_imp {X : Cx} {e : Expr} {t t' : TT} (h : PW X e t) (i : ∀ σ H Q, t' σ H Q → t σ H Q) : PW X e t' := ⟨fun wh pins s σ H Q I q => h.run wh pins s σ H Q I (i _ _ _ q)⟩
theorem pa_imp {X : Cx} {es : List Expr} {t t' : TA} (h : PA X es t) (i : ∀ σ H Q, t' σ H Q → t σ H Q) : PA X es t' := ⟨fun p pins s σ H Q I q => h.run p pins s σ H Q I (i _ _ _ q)⟩
theorem ps_imp {X : Cx} {st : Stmt} {t t' : TS} (h : PS X st t) (i : ∀ Dn σ H, t' Dn σ H → t Dn σ H) : PS X st t' := ⟨fun pins s σ H Dn I q => h.run pins s σ H Dn I (i _ _ _ q)⟩
theorem pss_imp {X : Cx} {st : List Stmt} {t t' : TS} (h : PSs X st t) (i : ∀ Dn σ H, t' Dn σ H → t Dn σ H) : PSs X st t' := ⟨fun pins s σ H Dn I q => h.run pins s σ H Dn I (i _ _ _ q)⟩

/-- b = F a: binds -/
def b1 {α β : Type} (a : Option α) (G : α → Option β) : Option β := match a with
  | some x => G x
  | none => none
theorem b1_some {α β : Type} {a : α} {G : α → Option β} : b1 (some a) G = G a := rfl
theorem b1_none {α β : Type} {G : α → Option β} : b1 (none : Option α) G = none := rfl
theorem b1_eq {α β : Type} {a : Option α} {G : α → Option β} {y : β} (h : b1 a G = some y) : ∃ x, a = some x ∧ G x = some y := by
  cases a with
  | none => cases h
  | some x => exact ⟨x, rfl, h⟩

def fVar (i : Nat) : F := fun ρ => match ρ[i]? with
  | some (.val d) => some d
  | _ => none
def fC (d : D) : F := fun _ => some d
def f1 (G : D → Option D) (f : F) : F := fun ρ => b1 (f ρ) G
def f2 (G : D → D → Option D) (f g : F) : F := fun ρ => b1 (f ρ) fun d => b1 (g ρ) fun e => G d e
def fNil : Fs := fun _ => some []
def fCons (f : F) (g : Fs) : Fs := fun ρ => b1 (f ρ) fun d => b1 (g ρ) fun ds => some (d :: ds)
def fL (G : List D → Option D) (f : Fs) : F := fun ρ => b1 (f ρ) G

section
variable {X : Cx} {e a b c : Expr} {es : List Expr} {f g h : F} {fs : Fs} {pos : Pos}
theorem pd_var (i : Nat) {x : Str} (hN : X.N[i]? = some x := by rfl) (hv : Vis X.env.scope x := by first | exact Or.inl rfl | exact Or.inr (Or.inl rfl) | exact Or.inr (Or.inr rfl)) (hd : (x == ("__debug__" : Str)) = false := by decide)
    (hcd : (x == ("__classdict__" : Str)) = false := by decide) : PE X (.Name x pos) (tD X.K (fVar i)) := by
  refine pe_imp (pe_var hN hv hd hcd) fun σ H Q ⟨Hs, ρ, d, s, env, e, k⟩ => ?_
  unfold fVar at e
  cases q : ρ[i]? with
  | none => rw [q] at e; cases e
  | some x =>
    rw [q] at e
    cases x with
    | val d' =>
      cases e
      obtain ⟨ov, h1, v, h2, h3⟩ := paired_get env q
      subst h2
      exact ⟨v, h1, k v H Hs (Ext.refl s) h3⟩
    | own _ => cases e
    | raw _ => cases e
    | junk => cases e
theorem pd_const {v : V} {d : D} (h : PE X e (tC v)) (hr : ∀ H, Rp X.K H v d) : PE X e (tD X.K (fC d)) :=
  pe_imp h fun σ H Q ⟨Hs, ρ, d', s, env, e, k⟩ => by cases e; exact k v H Hs (Ext.refl s) (hr _)
theorem pd_int {i : Int} {j} : PE X (.Constant (.int i) j pos) (tD X.K (fC (.int i))) := pd_const pe_int fun _ => .int _
theorem pd_bool {i : Bool} {j} : PE X (.Constant (.bool i) j pos) (tD X.K (fC (.bool i))) := pd_const pe_bl fun _ => .bool _
theorem pd_str {i : Str} {j} : PE X (.Constant (.str i) j pos) (tD X.K (fC (.str i))) := pd_const pe_str fun _ => .str _
theorem pd_non {j} : PE X (.Constant .none j pos) (tD X.K (fC .non)) := pd_const pe_non fun _ => .non
/-- a module's constant: a number, a text -/
theorem pd_glob {x : Str} {v : V} {d : D} {u : Value} (hm : X.mg x = some u) (r : RelV v u) (hr : ∀ H, Rp X.K H v d) (hg : Gl X x := by rfl) (hd : (x == ("__debug__" : Str)) = false := by decide) : PE X (.Name x pos) (tD X.K (fC d)) :=
  pd_const (pe_glob hg hm r hd) hr

/-- a rule for one value -/
def Imp1 (K : PySem.W.Frag) (r : V → Hp → VK → Prop) (G : D → Option D) : Prop := ∀ H Hs x d o Q, Same Hs H → Rp K Hs x d → G d = some o → (∀ v H' Hs', Ext Hs H Hs' H' → Rp K Hs' v o → Q v H') → r x H Q
def Imp2 (K : PySem.W.Frag) (r : R2) (G : D → D → Option D) : Prop := ∀ H Hs x y d e o Q, Same Hs H → Rp K Hs x d → Rp K Hs y e → G d e = some o → (∀ v H' Hs', Ext Hs H Hs' H' → Rp K Hs' v o → Q v H') → r x y H Q
def ImpL (K : PySem.W.Frag) (r : List V → Hp → VK → Prop) (G : List D → Option D) : Prop := ∀ H Hs xs ds o Q, Same Hs H → RpA K Hs xs ds → G ds = some o → (∀ v H' Hs', Ext Hs H Hs' H' → Rp K Hs' v o → Q v H') → r xs H Q
theorem tD_1 {K : PySem.W.Frag} {r : V → Hp → VK → Prop} {G : D → Option D} (hG : Imp1 K r G) : ∀ σ H Q, tD K (f1 G f) σ H Q → tUn r (tD K f) σ H Q := by
  rintro σ H Q ⟨Hs, ρ, d, s, env, e, k⟩
  obtain ⟨d1, e1, e2⟩ := b1_eq e
  exact ⟨Hs, ρ, d1, s, env, e1, fun v H1 Hs1 x1 r1 => hG H1 Hs1 v d1 d Q x1.sub r1 e2 fun v' H' Hs' x2 r2 => k v' H' Hs' (x1.trans x2) r2⟩
theorem tD_2 {K : PySem.W.Frag} {r : R2} {G : D → D → Option D} (hG : Imp2 K r G) : ∀ σ H Q, tD K (f2 G f g) σ H Q → tOp r (tD K f) (tD K g) σ H Q := by
  rintro σ H Q ⟨Hs, ρ, d, s, env, e, k⟩
  obtain ⟨d1, e1, e2⟩ := b1_eq e
  obtain ⟨d2, e3, e4⟩ := b1_eq e2
  refine ⟨Hs, ρ, d1, s, env, e1, fun v H1 Hs1 x1 r1 => ⟨Hs1, ρ, d2, x1.sub, env.mono x1.part, e3, fun u H2 Hs2 x2 r2 => ?_⟩⟩
  exact hG H2 Hs2 v u d1 d2 d Q x2.sub (r1.mono x2.part) r2 e4 fun v' H' Hs' x3 r3 => k v' H' Hs' (x1.trans (x2.trans x3)) r3
theorem pda_nil : PA X [] (tDs X.K fNil) := pa_imp pa_nil fun σ H Q ⟨Hs, ρ, d, s, env, e, k⟩ => by cases e; exact k [] H Hs (Ext.refl s) .nil
theorem pda_cons (he : PE X e (tD X.K f)) (ht : PA X es (tDs X.K fs)) (hs : starEach (e :: es) X.env = (false, eval e X.env) :: starEach es X.env := by rfl) : PA X (e :: es) (tDs X.K (fCons f fs)) := by
  refine pa_imp (pa_cons he ht hs) fun σ H Q ⟨Hs, ρ, d, s, env, e, k⟩ => ?_
  obtain ⟨d1, e1, e2⟩ := b1_eq e
  obtain ⟨d2, e3, e4⟩ := b1_eq e2
  cases e4
  refine ⟨Hs, ρ, d1, s, env, e1, fun v H1 Hs1 x1 r1 => ⟨Hs1, ρ, d2, x1.sub, env.mono x1.part, e3, fun u H2 Hs2 x2 r2 => ?_⟩⟩
  exact k _ H2 Hs2 (x1.trans x2) (.cons (r1.mono x2.part) r2)
theorem tD_L {K : PySem.W.Frag} {r : List V → Hp → VK → Prop} {G : List D → Option D} (hG : ImpL K r G) : ∀ σ H Q, tD K (fL G fs) σ H Q → tCB r (tDs K fs) σ H Q := by
  rintro σ H Q ⟨Hs, ρ, d, s, env, e, k⟩
  obtain ⟨d1, e1, e2⟩ := b1_eq e
  exact ⟨Hs, ρ, d1, s, env, e1, fun v H1 Hs1 x1 r1 => hG H1 Hs1 v d1 d Q x1.sub r1 e2 fun v' H' Hs' x2 r2 => k v' H' Hs' (x1.trans x2) r2⟩

theorem pd_op {op : Operator} {r : R2} {G : D → D → Option D} (ho : OpR X (binaryOp op) r) (hG : Imp2 X.K r G) (ha : PE X a (tD X.K f)) (hb : PE X b (tD X.K g)) : PE X (.BinOp a op b pos) (tD X.K (f2 G f g)) := pe_imp (pe_op ho ha hb) (tD_2 hG)
theorem pd_cmp {op : CmpOp} {r : R2} {G : D → D → Option D} (ho : OpR X (compareOp op) r) (hG : Imp2 X.K r G) (ha : PE X a (tD X.K f)) (hb : PE X b (tD X.K g)) (hm : behindInMarks op b = false := by first | exact nomark _ | rfl) :
    PE X (.Compare a [op] [b] pos) (tD X.K (f2 G f g)) := pe_imp (pe_cmpR ho ha hb hm) (tD_2 hG)
theorem pd_un {op : UnaryOp} {r : V → Hp → VK → Prop} {G : D → Option D} (ho : UnR X (unaryOp op) r) (hG : Imp1 X.K r G) (ha : PE X a (tD X.K f)) : PE X (.UnaryOp op a pos) (tD X.K (f1 G f)) := pe_imp (pe_un ho ha) (tD_1 hG)
theorem pd_ix {r : R2} {G : D → D → Option D} (hr : IxR X r) (hG : Imp2 X.K r G) (ha : PE X a (tD X.K f)) (hb : PE X b (tD X.K g)) (hs : PlainIx b := by exact fun _ _ => rfl) : PE X (.Subscript a b pos) (tD X.K (f2 G f g)) := pe_imp (pe_ix hr ha hb hs) (tD_2 hG)
theorem pd_callB {id : String} {r : List V → Hp → VK → Prop} {G : List D → Option D} {x : Str} {p : Pos} (hc : CallR X (.builtin id) r) (hG : ImpL X.K r G) (hm : X.mg x = none) (ha : PA X (e :: es) (tDs X.K fs)) (hg : Gl X x := by rfl) (hv : bootBuiltins x = some (.builtin id) := by decide +kernel)
    (hn : x ≠ "__name__" := by decide) (hdb : (x == ("__debug__" : Str)) = false := by decide) (he : starEach (e :: es) X.env = (false, eval e X.env) :: starEach es X.env := by rfl) (hpl : (backTo pos (starEach es X.env)).any (·.1) = false := by rfl) :
    PE X (.Call (.Name x p) (e :: es) [] pos) (tD X.K (fL G fs)) := pe_imp (pe_callB hc hg hm hv ha hn hdb he hpl) (tD_L hG)
theorem pd_callTy {T : String} {r : List V → Hp → VK → Prop} {G : List D → Option D} {x : Str} {p : Pos} (hc : CallR X (.type T) r) (hG : ImpL X.K r G) (hm : X.mg x = none) (ha : PA X (e :: es) (tDs X.K fs)) (hg : Gl X x := by rfl) (hv : bootBuiltins x = some (.type T) := by decide +kernel)
    (hn : x ≠ "__name__" := by decide) (hdb : (x == ("__debug__" : Str)) = false := by decide) (he : starEach (e :: es) X.env = (false, eval e X.env) :: starEach es X.env := by rfl) (hpl : (backTo pos (starEach es X.env)).any (·.1) = false := by rfl) :
    PE X (.Call (.Name x p) (e :: es) [] pos) (tD X.K (fL G fs)) := pe_imp (pe_callTy hc hg hm hv ha hn hdb he hpl) (tD_L hG)
end
end Pd

/-! Pd1: the operations on data. -/
namespace Pd
open PySem PySem.Spec L2
open PyProof.Rows hiding St

theorem OpR.or {X : Cx} {f : Value → Value → Sem Value} {r r' : R2} (h : OpR X f r) (h' : OpR X f r') : OpR X f (fun x y H Q => r x y H Q ∨ r' x y H Q) := by
  intro pins s σ H x y v u Q I rx ry q
  rcases q with q | q
  · exact h pins s σ H x y v u Q I rx ry q
  · exact h' pins s σ H x y v u Q I rx ry q
def rOr (r r' : R2) : R2 := fun x y H Q => r x y H Q ∨ r' x y H Q
/-! ### arithmetic -/
def gI (G : Int → Int → Option D) : D → D → Option D
  | .int i, .int j => G i j
  | _, _ => none
theorem imp_I0 {K : PySem.W.Frag} {g : Int → Int → V} {G : Int → Int → D} (hG : ∀ i j H, Rp K H (g i j) (G i j)) : Imp2 K (rI0 g) (gI fun i j => some (G i j)) := by
  intro H Hs x y d e o Q s rx ry gg k
  cases rx <;> cases ry <;> try (cases gg)
  exact ⟨_, _, rfl, rfl, k _ H Hs (Ext.refl s) (hG _ _ _)⟩
theorem imp_I {K : PySem.W.Frag} {C : Int → Int → Prop} [DecidableRel C] {g : Int → Int → V} {G : Int → Int → D} (hG : ∀ i j H, Rp K H (g i j) (G i j)) : Imp2 K (rI C g) (gI fun i j => if C i j then some (G i j) else none) := by
  intro H Hs x y d e o Q s rx ry gg k
  cases rx <;> cases ry <;> try (cases gg)
  rename_i i j
  by_cases hc : C i j
  · have gg' : (if C i j then some (G i j) else none) = some o := gg
    rw [if_pos hc] at gg'
    cases gg'
    exact ⟨_, _, rfl, rfl, hc, k _ H Hs (Ext.refl s) (hG _ _ _)⟩
  · have gg' : (if C i j then some (G i j) else none) = some o := gg
    rw [if_neg hc] at gg'
    cases gg'
instance : DecidableRel CMul := fun i j => by unfold CMul; infer_instance
instance : DecidableRel CDiv := fun i j => by unfold CDiv; infer_instance
instance : DecidableRel (fun (_ j : Int) => 0 < j) := fun i j => by infer_instance
def gSub : D → D → Option D := gI fun i j => some (.int (i - j))
def gMul : D → D → Option D := gI fun i j => if CMul i j then some (.int (i * j)) else none
def gDiv : D → D → Option D := gI fun i j => if CDiv i j then some (.int (i / j)) else none
def gMod : D → D → Option D := gI fun i j => if 0 < j then some (.int (i % j)) else none
theorem imp_sub {K : PySem.W.Frag} : Imp2 K (rI0 fun i j => .int (i - j)) gSub := imp_I0 fun _ _ _ => .int _
theorem imp_mul {K : PySem.W.Frag} : Imp2 K (rI CMul fun i j => .int (i * j)) gMul := imp_I fun _ _ _ => .int _
theorem imp_div {K : PySem.W.Frag} : Imp2 K (rI CDiv fun i j => .int (i / j)) gDiv := imp_I fun _ _ _ => .int _
theorem imp_mod {K : PySem.W.Frag} : Imp2 K (rI (fun _ j => 0 < j) fun i j => .int (i % j)) gMod := imp_I fun _ _ _ => .int _

/-- a + b: numbers, texts, lists, tuples -/
def gAdd : D → D → Option D
  | .int i, .int j => some (.int (i + j))
  | .str a, .str b => if a.length + b.length ≤ sizeLine then some (.str (a ++ b)) else none
  | .lst xs, .lst ys => if xs.length + ys.length ≤ sizeLine then some (.lst (xs ++ ys)) else none
  | .tup xs, .tup ys => if xs.length + ys.length ≤ sizeLine then some (.tup (xs ++ ys)) else none
  | _, _ => none
def rAddA (K : PySem.W.Frag) : R2 := fun x y H Q => (rI0 fun i j => .int (i + j)) x y H Q ∨ (∃ i j, x = .str i ∧ y = .str j ∧ i.length + j.length ≤ sizeLine ∧ Q (.str (i ++ j)) H) ∨ rCat x y H Q ∨ rCatA K x y H Q
theorem op_addA {X : Cx} : OpR X (binaryOp .Add) (rAddA X.K) := OpR.or op_add (OpR.or op_add_str (OpR.or op_cat op_catA))
theorem ite_some {α : Type} {c : Prop} [Decidable c] {a b : α} (h : (if c then some a else none) = some b) : c ∧ a = b := by
  by_cases hc : c
  · rw [if_pos hc] at h
    cases h
    exact ⟨hc, rfl⟩
  · rw [if_neg hc] at h
    cases h
theorem imp_add {K : PySem.W.Frag} : Imp2 K (rAddA K) gAdd := by
  intro H Hs x y d e o Q s rx ry g k
  cases rx with
  | int i =>
    cases ry <;> try (cases g)
    exact .inl ⟨_, _, rfl, rfl, k _ H Hs (Ext.refl s) (.int _)⟩
  | str a =>
    cases ry <;> try (cases g)
    obtain ⟨hc, rfl⟩ := ite_some g
    exact .inr (.inl ⟨_, _, rfl, rfl, hc, k _ H Hs (Ext.refl s) (.str _)⟩)
  | lst h1 r1 =>
    cases ry <;> try (cases g)
    rename_i h2 r2
    obtain ⟨hc, rfl⟩ := ite_some g
    refine .inr (.inr (.inl ⟨_, _, _, _, rfl, rfl, s _ _ h1, s _ _ h2, by rw [r1.len, r2.len]; exact hc, fun p hp => ?_⟩))
    exact k _ _ _ (Ext.made s hp) (.lst upd_same ((r1.app r2).mono (Ext.made s hp).part))
  | tup h1 r1 =>
    cases ry <;> try (cases g)
    rename_i h2 r2
    obtain ⟨hc, rfl⟩ := ite_some g
    refine .inr (.inr (.inr ⟨_, _, _, _, rfl, rfl, sqT_mono s h1, sqT_mono s h2, by rw [r1.len, r2.len]; exact hc, fun e1 => ?_, fun e1 e2 => ?_, fun e1 e2 p hp => ?_⟩))
    · subst e1
      cases r1
      exact k _ H Hs (Ext.refl s) (.tup h2 r2)
    · subst e2
      cases r2
      exact k _ H Hs (Ext.refl s) (.tup h1 (by simpa using r1))
    · exact k _ _ _ (Ext.made s hp) (.tup (SqT.of upd_same) ((r1.app r2).mono (Ext.made s hp).part))
  | non => cases g
  | bool b => cases g
  | scr h1 => cases g

/-! ### comparisons -/
def D.sc2 : D → D → Bool
  | .non, .non => true | .non, .int _ => true | .int _, .non => true | .non, .bool _ => true | .bool _, .non => true | .non, .str _ => true | .str _, .non => true
  | .int _, .int _ => true | .bool _, .bool _ => true | .str _, .str _ => true
  | .int _, .str _ => true | .str _, .int _ => true | .bool _, .str _ => true | .str _, .bool _ => true
  | _, _ => false
def D.eqs : D → D → Bool
  | .non, .non => true
  | .int i, .int j => decide (i = j)
  | .bool i, .bool j => decide (i = j)
  | .str i, .str j => decide (i = j)
  | _, _ => false
def gEq (d e : D) : Option D := if d.sc2 e then some (.bool (d.eqs e)) else if SeqAt.shaped d.py && SeqAt.shaped e.py then some (.bool (PyData.eqv d.py e.py)) else none
def gNe (d e : D) : Option D := if d.sc2 e then some (.bool (!d.eqs e)) else if SeqAt.shaped d.py && SeqAt.shaped e.py then some (.bool (!PyData.eqv d.py e.py)) else none
theorem eqs_v {K : PySem.W.Frag} {H : Hp} {x y : V} {d e : D} (rx : Rp K H x d) (ry : Rp K H y e) (h : d.sc2 e = true) : scal x y = true ∧ decide (x = y) = d.eqs e := by
  cases rx <;> cases ry <;> first | exact ⟨rfl, by simp [D.eqs]⟩ | (exact absurd h (by decide)) | (exact absurd h Bool.false_ne_true)
theorem imp_eq {K : PySem.W.Frag} : Imp2 K (fun x y H Q => rEq x y H Q ∨ rEqD K x y H Q) gEq := by
  intro H Hs x y d e o Q s rx ry g k
  unfold gEq at g
  by_cases h1 : d.sc2 e = true
  · rw [if_pos h1] at g
    cases g
    obtain ⟨a, b⟩ := eqs_v rx ry h1
    exact .inl ⟨a, by rw [b]; exact k _ H Hs (Ext.refl s) (.bool _)⟩
  · rw [if_neg h1] at g
    by_cases h2 : (SeqAt.shaped d.py && SeqAt.shaped e.py) = true
    · rw [if_pos h2] at g
      cases g
      rw [Bool.and_eq_true] at h2
      exact .inr ⟨_, _, (rx.mono s).dp, (ry.mono s).dp, h2.1, h2.2, k _ H Hs (Ext.refl s) (.bool _)⟩
    · rw [if_neg h2] at g
      cases g
theorem imp_ne {K : PySem.W.Frag} : Imp2 K (fun x y H Q => rNe x y H Q ∨ rNeD K x y H Q) gNe := by
  intro H Hs x y d e o Q s rx ry g k
  unfold gNe at g
  by_cases h1 : d.sc2 e = true
  · rw [if_pos h1] at g
    cases g
    obtain ⟨a, b⟩ := eqs_v rx ry h1
    exact .inl ⟨a, by rw [b]; exact k _ H Hs (Ext.refl s) (.bool _)⟩
  · rw [if_neg h1] at g
    by_cases h2 : (SeqAt.shaped d.py && SeqAt.shaped e.py) = true
    · rw [if_pos h2] at g
      cases g
      rw [Bool.and_eq_true] at h2
      exact .inr ⟨_, _, (rx.mono s).dp, (ry.mono s).dp, h2.1, h2.2, k _ H Hs (Ext.refl s) (.bool _)⟩
    · rw [if_neg h2] at g
      cases g
theorem op_eqA {X : Cx} (hu : X.A.units + 64 < cLine) : OpR X (compareOp .Eq) (fun x y H Q => rEq x y H Q ∨ rEqD X.K x y H Q) := OpR.or op_eq (op_eqD hu)
theorem op_neA {X : Cx} (hu : X.A.units + 64 < cLine) : OpR X (compareOp .NotEq) (fun x y H Q => rNe x y H Q ∨ rNeD X.K x y H Q) := OpR.or op_ne (op_neD hu)

/-- order: numbers, texts -/
def gOrd (p : Int → Int → Bool) (q : List Nat → List Nat → Bool) : D → D → Option D
  | .int i, .int j => some (.bool (p i j))
  | .str a, .str b => some (.bool (q a.cps.toList b.cps.toList))
  | _, _ => none
def rOrd (p : Int → Int → Bool) (q : List Nat → List Nat → Bool) : R2 := fun x y H Q => (rI0 fun i j => .bl (p i j)) x y H Q ∨ ∃ i j, x = .str i ∧ y = .str j ∧ Q (.bl (q i.cps.toList j.cps.toList)) H
theorem imp_ord {K : PySem.W.Frag} {p : Int → Int → Bool} {q : List Nat → List Nat → Bool} : Imp2 K (rOrd p q) (gOrd p q) := by
  intro H Hs x y d e o Q s rx ry g k
  cases rx <;> cases ry <;> try (cases g)
  · exact .inl ⟨_, _, rfl, rfl, k _ H Hs (Ext.refl s) (.bool _)⟩
  · exact .inr ⟨_, _, rfl, rfl, k _ H Hs (Ext.refl s) (.bool _)⟩
def gLt : D → D → Option D := gOrd (fun i j => decide (i < j)) (fun a b => decide (a < b))
def gLe : D → D → Option D := gOrd (fun i j => decide (i ≤ j)) (fun a b => !decide (b < a))
def gGt : D → D → Option D := gOrd (fun i j => decide (j < i)) (fun a b => decide (b < a))
def gGe : D → D → Option D := gOrd (fun i j => decide (j ≤ i)) (fun a b => !decide (a < b))
section
variable {X : Cx}
theorem op_ltA : OpR X (compareOp .Lt) (rOrd (fun i j => decide (i < j)) (fun a b => decide (a < b))) := OpR.or op_lt op_lt_str
theorem op_leA : OpR X (compareOp .LtE) (rOrd (fun i j => decide (i ≤ j)) (fun a b => !decide (b < a))) := OpR.or op_le op_le_str
theorem op_gtA : OpR X (compareOp .Gt) (rOrd (fun i j => decide (j < i)) (fun a b => decide (b < a))) := OpR.or op_gt op_gt_str
theorem op_geA : OpR X (compareOp .GtE) (rOrd (fun i j => decide (j ≤ i)) (fun a b => !decide (a < b))) := OpR.or op_ge op_ge_str
end

/-- x in y: one sign in a text, an item in a list or tuple of plain items, data in a list of data -/
def D.flat : D → Bool
  | .non => true | .bool _ => true | .int _ => true | .str _ => true
  | _ => false
def D.eqF : D → D → Bool
  | .non, .non => true
  | .bool a, .bool b => a == b
  | .bool a, .int b => (if a then 1 else 0) == b
  | .int a, .bool b => a == (if b then 1 else 0)
  | .int a, .int b => a == b
  | .str a, .str b => a == b
  | _, _ => false
def D.v : D → V
  | .non => .non | .bool b => .bl b | .int i => .int i | .str x => .str x
  | _ => .non
def gIn0 : D → D → Option Bool
  | .str a, .str z => match a.cps with
    | ⟨[c]⟩ => some (decide (c ∈ z.cps.toList))
    | _ => none
  | d, .lst ds => if d.flat && ds.all D.flat then some (ds.any fun z => z.eqF d) else if SeqAt.shaped d.py && SeqAt.shaped (D.lst ds).py then some ((D.pyA ds).any fun z => PyData.eqv z d.py) else none
  | d, .tup ds => if d.flat && ds.all D.flat then some (ds.any fun z => z.eqF d) else none
  | _, _ => none
def gIn (d e : D) : Option D := b1 (gIn0 d e) fun b => some (.bool b)
def gNotIn (d e : D) : Option D := b1 (gIn0 d e) fun b => some (.bool (!b))
section
variable {K : PySem.W.Frag} {H : Hp}
theorem Rp.flat {v : V} {d : D} (r : Rp K H v d) (f : d.flat = true) : flatV v = true ∧ v = d.v := by
  cases r <;> first | exact ⟨rfl, rfl⟩ | (exact absurd f Bool.false_ne_true)
theorem RpA.flat : ∀ {ds : List D} {vs : List V}, RpA K H vs ds → ds.all D.flat = true → vs.all flatV = true ∧ vs = ds.map D.v
  | _, _, .nil, _ => ⟨rfl, rfl⟩
  | _, _, .cons h t, f => by
    rw [List.all_cons, Bool.and_eq_true] at f
    obtain ⟨a, b⟩ := h.flat f.1
    obtain ⟨a', b'⟩ := t.flat f.2
    exact ⟨by rw [List.all_cons, a, a']; rfl, by rw [List.map_cons, ← b, ← b']⟩
theorem eqF_v : ∀ {d e : D}, d.flat = true → e.flat = true → eqV d.v e.v = d.eqF e := by
  intro d e h1 h2
  cases d <;> cases e <;> first | rfl | (exact absurd h1 Bool.false_ne_true) | (exact absurd h2 Bool.false_ne_true)
theorem inV_eq {d : D} {ds : List D} (h1 : d.flat = true) (h2 : ds.all D.flat = true) : inV d.v (ds.map D.v) = ds.any fun z => z.eqF d := by
  unfold inV
  rw [List.any_map]
  induction ds with
  | nil => rfl
  | cons z ds ih =>
    rw [List.all_cons, Bool.and_eq_true] at h2
    rw [List.any_cons, List.any_cons, ih h2.2]
    show (eqV z.v d.v || _) = _
    rw [eqF_v h2.1 h1]
end
def rInA (K : PySem.W.Frag) : R2 := fun x y H Q => (∃ (c : Nat) (z : Str), x = .str ⟨#[c]⟩ ∧ y = .str z ∧ Q (.bl (decide (c ∈ z.cps.toList))) H) ∨ rIn K false x y H Q ∨ rInD K x y H Q
def rNotInA (K : PySem.W.Frag) : R2 := fun x y H Q => (∃ (c : Nat) (z : Str), x = .str ⟨#[c]⟩ ∧ y = .str z ∧ Q (.bl (!decide (c ∈ z.cps.toList))) H) ∨ rIn K true x y H Q ∨ rNotInD K x y H Q
theorem op_inA {X : Cx} (hu : X.A.units + 65 < cLine) : OpR X (compareOp .In) (rInA X.K) := OpR.or op_in_sign (OpR.or op_in_seq (op_inD hu))
theorem op_notInA {X : Cx} (hu : X.A.units + 65 < cLine) : OpR X (compareOp .NotIn) (rNotInA X.K) := OpR.or op_notIn_sign (OpR.or op_notIn_seq (op_notInD hu))
theorem in0_cases {K : PySem.W.Frag} {H Hs : Hp} {x y : V} {d e : D} {b : Bool} (s : Same Hs H) (rx : Rp K Hs x d) (ry : Rp K Hs y e) (g : gIn0 d e = some b) :
    (∃ (c : Nat) (z : Str), x = .str ⟨#[c]⟩ ∧ y = .str z ∧ b = decide (c ∈ z.cps.toList)) ∨
    (∃ p xs, y = .ref p ∧ (SqL K H p xs ∨ SqT K H p xs) ∧ flatV x = true ∧ xs.all flatV = true ∧ b = inV x xs) ∨
    (∃ ds, Dp K H x d.py ∧ Dp K H y (.list ds) ∧ SeqAt.shaped d.py = true ∧ SeqAt.shaped (.list ds) = true ∧ b = ds.any fun z => PyData.eqv z d.py) := by
  cases ry with
  | str z =>
    cases rx with
    | str a =>
      obtain ⟨⟨l⟩⟩ := a
      cases l with
      | nil => exact nomatch g
      | cons c l =>
        cases l with
        | nil => cases g; exact .inl ⟨c, z, rfl, rfl, rfl⟩
        | cons c2 l => exact nomatch g
    | _ => exact nomatch g
  | lst h1 r1 =>
    rename_i a xs ds
    have g' : (if (d.flat && ds.all D.flat) = true then some (ds.any fun z => z.eqF d) else if (SeqAt.shaped d.py && SeqAt.shaped (D.lst ds).py) = true then some ((D.pyA ds).any fun z => PyData.eqv z d.py) else none) = some b := by
      cases rx <;> exact g
    by_cases hf : (d.flat && ds.all D.flat) = true
    · rw [if_pos hf] at g'
      rw [Bool.and_eq_true] at hf
      obtain ⟨f1, rfl⟩ := rx.flat hf.1
      obtain ⟨f2, rfl⟩ := r1.flat hf.2
      cases g'
      exact .inr (.inl ⟨a, _, rfl, .inl (SqL.of (s _ _ h1)), f1, f2, (inV_eq hf.1 hf.2).symm⟩)
    · rw [if_neg hf] at g'
      obtain ⟨hc, rfl⟩ := ite_some g'
      rw [Bool.and_eq_true] at hc
      exact .inr (.inr ⟨D.pyA ds, (rx.mono s).dp, .lst (SqL.of (s _ _ h1)) (r1.mono s).dp, hc.1, hc.2, rfl⟩)
  | tup h1 r1 =>
    rename_i a xs ds
    have g' : (if (d.flat && ds.all D.flat) = true then some (ds.any fun z => z.eqF d) else none) = some b := by
      cases rx <;> exact g
    obtain ⟨hf, rfl⟩ := ite_some g'
    rw [Bool.and_eq_true] at hf
    obtain ⟨f1, rfl⟩ := rx.flat hf.1
    obtain ⟨f2, rfl⟩ := r1.flat hf.2
    exact .inr (.inl ⟨a, _, rfl, .inr (sqT_mono s h1), f1, f2, (inV_eq hf.1 hf.2).symm⟩)
  | non => exact absurd g (by cases rx <;> (intro q; exact nomatch q))
  | bool _ => exact absurd g (by cases rx <;> (intro q; exact nomatch q))
  | int _ => exact absurd g (by cases rx <;> (intro q; exact nomatch q))
  | scr _ => exact absurd g (by cases rx <;> (intro q; exact nomatch q))
theorem imp_in {K : PySem.W.Frag} : Imp2 K (rInA K) gIn := by
  intro H Hs x y d e o Q s rx ry g k
  obtain ⟨b, g1, g2⟩ := b1_eq g
  cases g2
  have kk := k (.bl b) H Hs (Ext.refl s) (.bool _)
  rcases in0_cases s rx ry g1 with ⟨c, z, h1, h2, rfl⟩ | ⟨p, xs, h1, h2, h3, h4, rfl⟩ | ⟨ds, h1, h2, h3, h4, rfl⟩
  · exact .inl ⟨c, z, h1, h2, kk⟩
  · exact .inr (.inl ⟨p, xs, h1, h2, h3, h4, kk⟩)
  · exact .inr (.inr ⟨_, ds, h1, h2, h3, h4, kk⟩)
theorem imp_notIn {K : PySem.W.Frag} : Imp2 K (rNotInA K) gNotIn := by
  intro H Hs x y d e o Q s rx ry g k
  obtain ⟨b, g1, g2⟩ := b1_eq g
  cases g2
  have kk := k (.bl (!b)) H Hs (Ext.refl s) (.bool _)
  rcases in0_cases s rx ry g1 with ⟨c, z, h1, h2, rfl⟩ | ⟨p, xs, h1, h2, h3, h4, rfl⟩ | ⟨ds, h1, h2, h3, h4, rfl⟩
  · exact .inl ⟨c, z, h1, h2, kk⟩
  · exact .inr (.inl ⟨p, xs, h1, h2, h3, h4, kk⟩)
  · exact .inr (.inr ⟨_, ds, h1, h2, h3, h4, kk⟩)

/-- is None -/
def gIsN : D → D → Option D
  | .non, .non => some (.bool true)
  | _, .non => some (.bool false)
  | _, _ => none
def gNotN : D → D → Option D
  | .non, .non => some (.bool false)
  | _, .non => some (.bool true)
  | _, _ => none
theorem imp_isN {K : PySem.W.Frag} : Imp2 K (fun x y H Q => y = .non ∧ Q (.bl (decide (x = .non))) H) gIsN := by
  intro H Hs x y d e o Q s rx ry g k
  cases ry <;> cases rx <;> first | (cases g; exact ⟨rfl, k _ H Hs (Ext.refl s) (.bool _)⟩) | exact nomatch g
theorem imp_notN {K : PySem.W.Frag} : Imp2 K (fun x y H Q => y = .non ∧ Q (.bl (!decide (x = .non))) H) gNotN := by
  intro H Hs x y d e o Q s rx ry g k
  cases ry <;> cases rx <;> first | (cases g; exact ⟨rfl, k _ H Hs (Ext.refl s) (.bool _)⟩) | exact nomatch g

/-! ### items -/
def gIx : D → D → Option D
  | .lst xs, .int i => atI xs i
  | .tup xs, .int i => atI xs i
  | .str z, .int i => if z.length ≤ sizeLine then (atI z.cps.toList i).map fun c => .str ⟨#[c]⟩ else none
  | .scr ns, .int i => (atI ns i).map D.int
  | _, _ => none
section
variable {K : PySem.W.Frag} {H : Hp}
theorem RpA.atI {ds : List D} {vs : List V} {i : Int} {d : D} (r : RpA K H vs ds) (h : atI ds i = some d) : ∃ v, atI vs i = some v ∧ Rp K H v d := by
  unfold L2.atI at h ⊢
  rw [r.len]
  cases q : ixN ds.length i with
  | none => rw [q] at h; cases h
  | some j =>
    rw [q] at h
    exact r.getD h
end
theorem imp_ix {K : PySem.W.Frag} : Imp2 K (rIx K) gIx := by
  intro H Hs x y d e o Q s rx ry g k
  cases ry with
  | int i =>
    cases rx with
    | lst h1 r1 =>
      obtain ⟨v, e1, r2⟩ := r1.atI g
      exact .inl ⟨_, _, _, v, rfl, rfl, SqL.of (s _ _ h1), e1, k v H Hs (Ext.refl s) r2⟩
    | tup h1 r1 =>
      obtain ⟨v, e1, r2⟩ := r1.atI g
      exact .inr (.inl ⟨_, _, _, v, rfl, rfl, sqT_mono s h1, e1, k v H Hs (Ext.refl s) r2⟩)
    | str z =>
      have g' : (if z.length ≤ sizeLine then (atI z.cps.toList i).map fun c => D.str ⟨#[c]⟩ else none) = some o := g
      by_cases hz : z.length ≤ sizeLine
      · rw [if_pos hz] at g'
        cases q : atI z.cps.toList i with
        | none => rw [q] at g'; cases g'
        | some c =>
          rw [q] at g'
          cases g'
          exact .inr (.inr ⟨_, _, c, rfl, rfl, hz, q, k _ H Hs (Ext.refl s) (.str _)⟩)
      · rw [if_neg hz] at g'
        cases g'
    | scr h1 =>
      rename_i a ns
      have g' : (atI ns i).map D.int = some o := g
      cases q : atI ns i with
      | none => rw [q] at g'; cases g'
      | some n =>
        rw [q] at g'
        cases g'
        refine .inl ⟨_, _, _, .int n, rfl, rfl, s.seq h1, ?_, k _ H Hs (Ext.refl s) (.int _)⟩
        unfold atI at q ⊢
        rw [List.length_map]
        cases q2 : ixN ns.length i with
        | none => rw [q2] at q; cases q
        | some j =>
          rw [q2] at q
          show (ns.map V.int)[j]? = _
          rw [List.getElem?_map, show ns[j]? = some n from q]
          rfl
    | non => exact nomatch g
    | bool _ => exact nomatch g
    | int _ => exact nomatch g
  | _ => exact absurd g (by cases rx <;> (intro q; exact nomatch q))
end Pd

/-! Pd2: slices, calls, methods, displays, tests. -/
namespace Pd
open PySem PySem.Spec L2 SkE
open PyProof.Rows hiding St

/-! ### slices -/
abbrev Fo := Rho → Option (Option Int)
def tDO (K : PySem.W.Frag) (f : Fo) : TO := fun σ H Q => ∃ (Hs : Hp) (ρ : Rho) (d : Option Int), Same Hs H ∧ VEnv K Hs σ ρ ∧ f ρ = some d ∧ ∀ H', Same H H' → Q d H'
def foNo : Fo := fun _ => some none
def foE (f : F) : Fo := fun ρ => b1 (f ρ) fun d => match d with
  | .int i => some (some i)
  | _ => none
theorem po_imp {X : Cx} {e : Option Expr} {t t' : TO} (h : PO X e t) (i : ∀ σ H Q, t' σ H Q → t σ H Q) : PO X e t' := ⟨fun pins s σ H Q I q => h.run pins s σ H Q I (i _ _ _ q)⟩
def cutD (xs : List D) (lo hi : Option Int) : List D := (xs.drop (HT.sIx xs.length 0 lo)).take (HT.sIx xs.length xs.length hi - HT.sIx xs.length 0 lo)
def cutN (xs : List Int) (lo hi : Option Int) : List Int := (xs.drop (HT.sIx xs.length 0 lo)).take (HT.sIx xs.length xs.length hi - HT.sIx xs.length 0 lo)
def gSl (d : D) (lo hi : Option Int) : Option D := match d with
  | .lst xs => some (.lst (cutD xs lo hi))
  | .tup xs => some (.tup (cutD xs lo hi))
  | .str z => if z.length ≤ sizeLine then some (.str (cutS z lo hi)) else none
  | .scr ns => some (.lst ((cutN ns lo hi).map D.int))
  | _ => none
def fSl (f : F) (l h : Fo) : F := fun ρ => b1 (f ρ) fun d => b1 (l ρ) fun lo => b1 (h ρ) fun hi => gSl d lo hi
section
variable {X : Cx} {e a b c : Expr} {es : List Expr} {f g h : F} {fs : Fs} {pos p2 : Pos}
theorem pdo_none : PO X none (tDO X.K foNo) := po_imp po_none fun σ H Q ⟨Hs, ρ, d, s, env, e, k⟩ => by cases e; exact k H (Same.refl _)
theorem pdo_some (he : PE X e (tD X.K f)) : PO X (some e) (tDO X.K (foE f)) := po_imp (po_some he) fun σ H Q ⟨Hs, ρ, d, s, env, e, k⟩ => by
  obtain ⟨d1, e1, e2⟩ := b1_eq e
  refine ⟨Hs, ρ, d1, s, env, e1, fun v H' Hs' x r => ?_⟩
  cases d1 with
  | int i => cases e2; cases r; exact ⟨i, rfl, k _ x.all⟩
  | _ => exact nomatch e2
theorem cut_rp {K : PySem.W.Frag} {H : Hp} {xs : List V} {ds : List D} (r : RpA K H xs ds) (lo hi : Option Int) : RpA K H (cutV xs lo hi) (cutD ds lo hi) := by
  unfold cutV cutD
  rw [r.len]
  exact (r.drop _).take _
theorem cut_ints (ns : List Int) (lo hi : Option Int) : cutV (ns.map V.int) lo hi = (cutN ns lo hi).map V.int := by
  unfold cutV cutN
  rw [List.length_map, List.map_take, List.map_drop]
theorem pd_slice {lo hi : Option Expr} {fl fh : Fo} (he : PE X e (tD X.K f)) (hl : PO X lo (tDO X.K fl)) (hh : PO X hi (tDO X.K fh)) : PE X (.Subscript e (.Slice lo hi none p2) pos) (tD X.K (fSl f fl fh)) := by
  refine pe_imp (pe_slice (SlR.or sl_list (SlR.or sl_tupA sl_str)) he hl hh) fun σ H Q ⟨Hs, ρ, d, s, env, e, k⟩ => ?_
  obtain ⟨d1, e1, e2⟩ := b1_eq e
  obtain ⟨l1, e3, e4⟩ := b1_eq e2
  obtain ⟨h1, e5, e6⟩ := b1_eq e4
  refine ⟨Hs, ρ, d1, s, env, e1, fun v H1 Hs1 x1 r1 => ⟨Hs, ρ, l1, s.trans x1.all, env, e3, fun H2 y2 => ⟨Hs, ρ, h1, s.trans (x1.all.trans y2), env, e5, fun H3 y3 => ?_⟩⟩⟩
  have x3 : Ext Hs H Hs1 H3 := x1.trans ((Ext.side x1.sub y2).trans (Ext.side (x1.sub.trans y2) y3))
  cases r1 with
  | lst q1 q2 =>
    cases e6
    refine .inl ⟨_, _, rfl, SqL.of (x3.sub _ _ q1), fun p hp => ?_⟩
    exact k _ _ _ (x3.trans (Ext.made x3.sub hp)) (.lst upd_same ((cut_rp q2 _ _).mono (Ext.made x3.sub hp).part))
  | tup q1 q2 =>
    cases e6
    refine .inr (.inl ⟨_, _, rfl, sqT_mono x3.sub q1, fun w => ?_, fun w p hp => ?_⟩)
    · refine k _ _ _ x3 (.tup q1 ?_)
      have e7 : ∀ (ds : List D), HT.sIx ds.length 0 l1 = 0 → HT.sIx ds.length ds.length h1 = ds.length → cutD ds l1 h1 = ds := fun ds w1 w2 => by
        unfold cutD
        rw [w1, w2]
        simp
      rw [q2.len] at w
      rw [e7 _ w.1 w.2]
      exact q2
    · exact k _ _ _ (x3.trans (Ext.made x3.sub hp)) (.tup (SqT.of upd_same) ((cut_rp q2 _ _).mono (Ext.made x3.sub hp).part))
  | str z =>
    obtain ⟨hz, rfl⟩ := ite_some e6
    exact .inr (.inr ⟨_, rfl, hz, k _ _ _ x3 (.str _)⟩)
  | scr q1 =>
    cases e6
    refine .inl ⟨_, _, rfl, x3.sub.seq q1, fun p hp => ?_⟩
    rw [cut_ints]
    exact k _ _ _ (x3.trans (Ext.made x3.sub hp)) (.lst upd_same RpA.ints)
  | _ => exact nomatch e6

/-! ### displays -/
theorem pd_tup {x1} (ha : PA X es (tDs X.K fs)) : PE X (.Tuple es x1 pos) (tD X.K (fL (fun ds => if ds.length ≤ sizeLine then some (.tup ds) else none) fs)) := by
  refine pe_imp (pe_tup ha) fun σ H Q ⟨Hs, ρ, d, s, env, e, k⟩ => ?_
  obtain ⟨d1, e1, e2⟩ := b1_eq e
  obtain ⟨hz, rfl⟩ := ite_some e2
  refine ⟨Hs, ρ, d1, s, env, e1, fun vs H1 Hs1 x1 r1 => ⟨by rw [r1.len]; exact hz, fun p hp => ?_⟩⟩
  exact k _ _ _ (x1.trans (Ext.made x1.sub hp)) (.tup (SqT.of upd_same) (r1.mono (Ext.made x1.sub hp).part))
theorem pd_lst (ha : PA X es (tDs X.K fs)) : PE X (.List es pos) (tD X.K (fL (fun ds => if ds.length ≤ sizeLine then some (.lst ds) else none) fs)) := by
  refine pe_imp (pe_lst ha) fun σ H Q ⟨Hs, ρ, d, s, env, e, k⟩ => ?_
  obtain ⟨d1, e1, e2⟩ := b1_eq e
  obtain ⟨hz, rfl⟩ := ite_some e2
  refine ⟨Hs, ρ, d1, s, env, e1, fun vs H1 Hs1 x1 r1 => ⟨by rw [r1.len]; exact hz, fun p hp => ?_⟩⟩
  exact k _ _ _ (x1.trans (Ext.made x1.sub hp)) (.lst upd_same (r1.mono (Ext.made x1.sub hp).part))

/-! ### tests -/
def D.tru : D → Option Bool
  | .non => some false
  | .bool b => some b
  | .int i => some (i != 0)
  | .str x => if x.length ≤ sizeLine then some ((x.length : Int) != 0) else none
  | .lst ds => some (!ds.isEmpty)
  | .tup ds => some (!ds.isEmpty)
  | .scr ns => some (!ns.isEmpty)
def ftV (f : F) : Ft := fun ρ => b1 (f ρ) D.tru
def ftB (f : F) : Ft := fun ρ => b1 (f ρ) fun d => match d with
  | .bool b => some b
  | _ => none
def ftAnd (f g : Ft) : Ft := fun ρ => b1 (f ρ) fun b => if b = true then g ρ else some false
def ftOr (f g : Ft) : Ft := fun ρ => b1 (f ρ) fun b => if b = true then some true else g ρ
def ftNot (f : Ft) : Ft := fun ρ => b1 (f ρ) fun b => some (!b)
theorem isEmpty_rp {K : PySem.W.Frag} {H : Hp} {xs : List V} {ds : List D} (r : RpA K H xs ds) : xs.isEmpty = ds.isEmpty := by cases r <;> rfl
theorem Rp.tru {K : PySem.W.Frag} {H : Hp} {v : V} {d : D} {b : Bool} (r : Rp K H v d) (h : d.tru = some b) : TruV K v H b := by
  cases r with
  | non => cases h; rfl
  | bool _ => cases h; rfl
  | int _ => cases h; rfl
  | str x => obtain ⟨hz, rfl⟩ := ite_some h; exact ⟨hz, rfl⟩
  | lst h1 h2 => cases h; exact .inl ⟨_, SqL.of h1, by rw [isEmpty_rp h2]⟩
  | tup h1 h2 => cases h; exact .inr (.inl ⟨_, h1, by rw [isEmpty_rp h2]⟩)
  | scr h1 => cases h; exact .inl ⟨_, h1, by cases ‹List Int› <;> rfl⟩
theorem pdt_val (ha : PE X e (tD X.K f)) (he : ∀ whole, isTrue e X.env whole = (do let v ← whole; standAt e.pos; holding [v] (truthy v)) := by intro _; rfl) : PT X e (tDT X.K (ftV f)) := by
  refine pt_imp (pt_truth ha he) fun σ H Q ⟨Hs, ρ, b, s, env, e, k⟩ => ?_
  obtain ⟨d1, e1, e2⟩ := b1_eq e
  exact ⟨Hs, ρ, d1, s, env, e1, fun v H1 Hs1 x1 r1 => ⟨b, (r1.mono x1.sub).tru e2, k _ x1.all⟩⟩
theorem pdt_cmp {op : CmpOp} {r : R2} {G : D → D → Option D} (ho : OpR X (compareOp op) r) (hG : Imp2 X.K r G) (ha : PE X a (tD X.K f)) (hb : PE X b (tD X.K g)) (hm : behindInMarks op b = false := by first | exact nomark _ | rfl) :
    PT X (.Compare a [op] [b] pos) (tDT X.K (ftB (f2 G f g))) := by
  refine pt_imp (pt_cmpR ho ha hb hm) fun σ H Q ⟨Hs, ρ, b, s, env, e, k⟩ => ?_
  obtain ⟨d1, e1, e2⟩ := b1_eq e
  refine tD_2 hG σ H _ ⟨Hs, ρ, d1, s, env, e1, fun v H1 Hs1 x1 r1 => ?_⟩
  cases d1 with
  | bool b' => cases e2; cases r1; exact ⟨_, rfl, k _ x1.all⟩
  | _ => exact nomatch e2
theorem pdw_and1 {ft : Ft} (h : PT X a (tDT X.K ft)) : PW X (.BoolOp .And [a] pos) (tDT X.K ft) := pw_and1 h
theorem pdw_or1 {ft : Ft} (h : PT X a (tDT X.K ft)) : PW X (.BoolOp .Or [a] pos) (tDT X.K ft) := pw_or1 h
theorem pdw_and {ft gt : Ft} (h : PT X a (tDT X.K ft)) (h2 : PW X (.BoolOp .And (b :: es) pos) (tDT X.K gt)) : PW X (.BoolOp .And (a :: b :: es) pos) (tDT X.K (ftAnd ft gt)) := by
  refine pw_imp (pw_and h h2) fun σ H Q ⟨Hs, ρ, r, s, env, e, k⟩ => ?_
  obtain ⟨b1', e1, e2⟩ := b1_eq e
  refine ⟨Hs, ρ, b1', s, env, e1, fun H' x => ?_⟩
  cases b1' with
  | true => exact iteT ⟨Hs, ρ, r, s.trans x, env, e2, fun H2 x2 => k H2 (x.trans x2)⟩
  | false => cases e2; exact iteF (k H' x)
theorem pdw_or {ft gt : Ft} (h : PT X a (tDT X.K ft)) (h2 : PW X (.BoolOp .Or (b :: es) pos) (tDT X.K gt)) : PW X (.BoolOp .Or (a :: b :: es) pos) (tDT X.K (ftOr ft gt)) := by
  refine pw_imp (pw_or h h2) fun σ H Q ⟨Hs, ρ, r, s, env, e, k⟩ => ?_
  obtain ⟨b1', e1, e2⟩ := b1_eq e
  refine ⟨Hs, ρ, b1', s, env, e1, fun H' x => ?_⟩
  cases b1' with
  | false => exact iteF ⟨Hs, ρ, r, s.trans x, env, e2, fun H2 x2 => k H2 (x.trans x2)⟩
  | true => cases e2; exact iteT (k H' x)
theorem pdt_w {ft : Ft} (h : PW X e (tDT X.K ft)) : PT X e (tDT X.K ft) := h.pt
theorem pdt_not {ft : Ft} (h : PT X a (tDT X.K ft)) : PT X (.UnaryOp .Not a pos) (tDT X.K (ftNot ft)) := by
  refine pt_imp (pt_not h) fun σ H Q ⟨Hs, ρ, r, s, env, e, k⟩ => ?_
  obtain ⟨b1', e1, e2⟩ := b1_eq e
  cases e2
  exact ⟨Hs, ρ, b1', s, env, e1, fun H' x => k H' x⟩
/-- and, or, not as values -/
def fAnd (f g : F) : F := fun ρ => b1 (f ρ) fun d => b1 d.tru fun b => if b = true then g ρ else some d
def fOr (f g : F) : F := fun ρ => b1 (f ρ) fun d => b1 d.tru fun b => if b = true then some d else g ρ
def fNot (f : F) : F := fun ρ => b1 (f ρ) fun d => b1 d.tru fun b => some (.bool (!b))
def fIf (c : Ft) (f g : F) : F := fun ρ => b1 (c ρ) fun b => if b = true then f ρ else g ρ
theorem pd_one {op} (h : PE X a (tD X.K f)) : PE X (.BoolOp op [a] pos) (tD X.K f) := pe_one h
theorem pd_and (ha : PE X a (tD X.K f)) (hb : PE X (.BoolOp .And (b :: es) pos) (tD X.K g)) : PE X (.BoolOp .And (a :: b :: es) pos) (tD X.K (fAnd f g)) := by
  refine pe_imp (pe_andT ha hb) fun σ H Q ⟨Hs, ρ, d, s, env, e, k⟩ => ?_
  obtain ⟨d1, e1, e2⟩ := b1_eq e
  obtain ⟨t, e3, e4⟩ := b1_eq e2
  refine ⟨Hs, ρ, d1, s, env, e1, fun v H1 Hs1 x1 r1 => ⟨t, (r1.mono x1.sub).tru e3, ?_⟩⟩
  cases t with
  | true => exact iteT ⟨Hs1, ρ, d, x1.sub, env.mono x1.part, e4, fun v H' Hs' x r => k v H' Hs' (x1.trans x) r⟩
  | false => cases e4; exact iteF (k v H1 Hs1 x1 r1)
theorem pd_or (ha : PE X a (tD X.K f)) (hb : PE X (.BoolOp .Or (b :: es) pos) (tD X.K g)) : PE X (.BoolOp .Or (a :: b :: es) pos) (tD X.K (fOr f g)) := by
  refine pe_imp (pe_orT ha hb) fun σ H Q ⟨Hs, ρ, d, s, env, e, k⟩ => ?_
  obtain ⟨d1, e1, e2⟩ := b1_eq e
  obtain ⟨t, e3, e4⟩ := b1_eq e2
  refine ⟨Hs, ρ, d1, s, env, e1, fun v H1 Hs1 x1 r1 => ⟨t, (r1.mono x1.sub).tru e3, ?_⟩⟩
  cases t with
  | false => exact iteF ⟨Hs1, ρ, d, x1.sub, env.mono x1.part, e4, fun v H' Hs' x r => k v H' Hs' (x1.trans x) r⟩
  | true => cases e4; exact iteT (k v H1 Hs1 x1 r1)
theorem pd_not (ha : PE X a (tD X.K f)) : PE X (.UnaryOp .Not a pos) (tD X.K (fNot f)) := by
  refine pe_imp (pe_notT ha) fun σ H Q ⟨Hs, ρ, d, s, env, e, k⟩ => ?_
  obtain ⟨d1, e1, e2⟩ := b1_eq e
  obtain ⟨t, e3, e4⟩ := b1_eq e2
  cases e4
  exact ⟨Hs, ρ, d1, s, env, e1, fun v H1 Hs1 x1 r1 => ⟨t, (r1.mono x1.sub).tru e3, k _ H1 Hs1 x1 (.bool _)⟩⟩
theorem pd_ifExp {ft : Ft} (hc : PT X c (tDT X.K ft)) (ha : PE X a (tD X.K f)) (hb : PE X b (tD X.K g)) : PE X (.IfExp c a b pos) (tD X.K (fIf ft f g)) := by
  refine pe_imp (pe_ifExp hc ha hb) fun σ H Q ⟨Hs, ρ, d, s, env, e, k⟩ => ?_
  obtain ⟨t, e1, e2⟩ := b1_eq e
  refine ⟨Hs, ρ, t, s, env, e1, fun H1 x1 => ?_⟩
  have y1 : Ext Hs H Hs H1 := Ext.side s x1
  cases t with
  | true => exact iteT ⟨Hs, ρ, d, y1.sub, env, e2, fun v H' Hs' x r => k v H' Hs' (y1.trans x) r⟩
  | false => exact iteF ⟨Hs, ρ, d, y1.sub, env, e2, fun v H' Hs' x r => k v H' Hs' (y1.trans x) r⟩
/-- a op b op c -/
def fChain (G G' : D → D → Option D) (f g h : F) : F := fun ρ => b1 (f ρ) fun d => b1 (g ρ) fun e => b1 (G d e) fun o => match o with
  | .bool true => b1 (h ρ) fun e' => G' e e'
  | .bool false => some (.bool false)
  | _ => none
theorem tD_ch {K : PySem.W.Frag} {r r' : R2} {G G' : D → D → Option D} (hG : Imp2 K r G) (hG' : Imp2 K r' G') : ∀ σ H Q, tD K (fChain G G' f g h) σ H Q → tChain r r' (tD K f) (tD K g) (tD K h) σ H Q := by
  rintro σ H Q ⟨Hs, ρ, d, s, env, e, k⟩
  obtain ⟨d1, e1, e2⟩ := b1_eq e
  obtain ⟨d2, e3, e4⟩ := b1_eq e2
  obtain ⟨o, e5, e6⟩ := b1_eq e4
  refine ⟨Hs, ρ, d1, s, env, e1, fun v H1 Hs1 x1 r1 => ⟨Hs1, ρ, d2, x1.sub, env.mono x1.part, e3, fun u H2 Hs2 x2 r2 => ?_⟩⟩
  refine hG H2 Hs2 v u d1 d2 o _ x2.sub (r1.mono x2.part) r2 e5 fun z H3 Hs3 x3 r3 => ?_
  have x13 := x1.trans (x2.trans x3)
  cases o with
  | bool b =>
    cases r3
    refine ⟨b, rfl, ?_⟩
    cases b with
    | true =>
      obtain ⟨d3, e7, e8⟩ := b1_eq e6
      refine iteT ⟨Hs3, ρ, d3, x3.sub, env.mono x13.part, e7, fun w H4 Hs4 x4 r4 => ?_⟩
      exact hG' H4 Hs4 u w d2 d3 d Q x4.sub (r2.mono (x3.trans x4).part) r4 e8 fun v' H' Hs' x5 r5 => k v' H' Hs' (x13.trans (x4.trans x5)) r5
    | false => cases e6; exact iteF (k _ H3 Hs3 x13 (.bool _))
  | _ => exact nomatch e6
theorem pd_chain {op op' : CmpOp} {r r' : R2} {G G' : D → D → Option D} (ho : OpR X (compareOp op) r) (ho' : OpR X (compareOp op') r') (hG : Imp2 X.K r G) (hG' : Imp2 X.K r' G') (ha : PE X a (tD X.K f)) (hb : PE X b (tD X.K g)) (hc : PE X c (tD X.K h))
    (hm : lastMarks [op, op'] [b, c] = false := by with_unfolding_all rfl) : PE X (.Compare a [op, op'] [b, c] pos) (tD X.K (fChain G G' f g h)) := pe_imp (pe_chain ho ho' ha hb hc hm) (tD_ch hG hG')
theorem pdt_chain {op op' : CmpOp} {r r' : R2} {G G' : D → D → Option D} (ho : OpR X (compareOp op) r) (ho' : OpR X (compareOp op') r') (hG : Imp2 X.K r G) (hG' : Imp2 X.K r' G') (ha : PE X a (tD X.K f)) (hb : PE X b (tD X.K g)) (hc : PE X c (tD X.K h))
    (hm : lastMarks [op, op'] [b, c] = false := by with_unfolding_all rfl) : PT X (.Compare a [op, op'] [b, c] pos) (tDT X.K (ftB (fChain G G' f g h))) := by
  refine pt_imp (pt_chain ho ho' ha hb hc hm) fun σ H Q ⟨Hs, ρ, b, s, env, e, k⟩ => ?_
  obtain ⟨d1, e1, e2⟩ := b1_eq e
  refine tD_ch hG hG' σ H _ ⟨Hs, ρ, d1, s, env, e1, fun v H1 Hs1 x1 r1 => ?_⟩
  cases d1 with
  | bool b' => cases e2; cases r1; exact ⟨_, rfl, k _ x1.all⟩
  | _ => exact nomatch e2

/-! ### built-in calls -/
def one (G : D → Option D) (ds : List D) : Option D := match ds with
  | [d] => G d
  | _ => none
def two (G : D → D → Option D) (ds : List D) : Option D := match ds with
  | [d, e] => G d e
  | _ => none
theorem one_eq {G : D → Option D} {ds : List D} {o : D} (h : one G ds = some o) : ∃ d, ds = [d] ∧ G d = some o := by
  match ds, h with
  | [d], h => exact ⟨d, rfl, h⟩
  | [], h => exact nomatch h
  | _ :: _ :: _, h => exact nomatch h
theorem two_eq {G : D → D → Option D} {ds : List D} {o : D} (h : two G ds = some o) : ∃ d e, ds = [d, e] ∧ G d e = some o := by
  match ds, h with
  | [d, e], h => exact ⟨d, e, rfl, h⟩
  | [], h => exact nomatch h
  | [_], h => exact nomatch h
  | _ :: _ :: _ :: _, h => exact nomatch h
def gLen1 : D → Option D
  | .str x => if x.length ≤ sizeLine then some (.int x.length) else none
  | .lst ds => some (.int ds.length)
  | .tup ds => some (.int ds.length)
  | .scr ns => some (.int ns.length)
  | _ => none
def gLen : List D → Option D := one gLen1
theorem rpa1 {K : PySem.W.Frag} {H : Hp} {vs : List V} {d : D} (r : RpA K H vs [d]) : ∃ v, vs = [v] ∧ Rp K H v d := by
  cases r with
  | cons h t => cases t; exact ⟨_, rfl, h⟩
theorem rpa2 {K : PySem.W.Frag} {H : Hp} {vs : List V} {d e : D} (r : RpA K H vs [d, e]) : ∃ v u, vs = [v, u] ∧ Rp K H v d ∧ Rp K H u e := by
  cases r with
  | cons h t =>
    obtain ⟨u, rfl, h2⟩ := rpa1 t
    exact ⟨_, _, rfl, h, h2⟩
theorem imp_len {K : PySem.W.Frag} : ImpL K (fun xs H Q => ∃ x n, xs = [x] ∧ LenV K x H n ∧ Q (.int n) H) gLen := by
  intro H Hs xs ds o Q s r g k
  obtain ⟨d, rfl, g⟩ := one_eq g
  · obtain ⟨v, rfl, rv⟩ := rpa1 r
    cases rv with
    | str z =>
      obtain ⟨hz, rfl⟩ := ite_some g
      exact ⟨_, _, rfl, ⟨hz, rfl⟩, k _ H Hs (Ext.refl s) (.int _)⟩
    | lst h1 h2 =>
      cases g
      refine ⟨_, _, rfl, .inl ⟨_, SqL.of (s _ _ h1), rfl⟩, ?_⟩
      rw [h2.len]
      exact k _ H Hs (Ext.refl s) (.int _)
    | tup h1 h2 =>
      cases g
      refine ⟨_, _, rfl, .inr ⟨_, sqT_mono s h1, rfl⟩, ?_⟩
      rw [h2.len]
      exact k _ H Hs (Ext.refl s) (.int _)
    | scr h1 =>
      cases g
      refine ⟨_, _, rfl, .inl ⟨_, s.seq h1, rfl⟩, ?_⟩
      rw [List.length_map]
      exact k _ H Hs (Ext.refl s) (.int _)
    | _ => exact nomatch g
/-- int(x): a number, a truth value, a text of digits -/
def gInt1 : D → Option D
  | .int i => some (.int i)
  | .bool k => some (.int (if k then 1 else 0))
  | .str a => if a.length ≤ 640 then (PySem.intText? a).map D.int else none
  | _ => none
def gInt : List D → Option D := one gInt1
def rInt : List V → Hp → VK → Prop := fun xs H Q => ((∃ i, xs = [.int i] ∧ Q (.int i) H) ∨ ∃ k, xs = [.bl k] ∧ Q (.int (if k then 1 else 0)) H) ∨ ∃ a n, xs = [.str a] ∧ PySem.intText? a = some n ∧ a.length ≤ 640 ∧ Q (.int n) H
theorem call_intA : CallR X (.type "int") rInt := CallR.or call_int1 call_int_str
theorem imp_int {K : PySem.W.Frag} : ImpL K rInt gInt := by
  intro H Hs xs ds o Q s r g k
  obtain ⟨d, rfl, g⟩ := one_eq g
  · obtain ⟨v, rfl, rv⟩ := rpa1 r
    cases rv with
    | int i => cases g; exact .inl (.inl ⟨_, rfl, k _ H Hs (Ext.refl s) (.int _)⟩)
    | bool i => cases g; exact .inl (.inr ⟨_, rfl, k _ H Hs (Ext.refl s) (.int _)⟩)
    | str a =>
      have g' : (if a.length ≤ 640 then (PySem.intText? a).map D.int else none) = some o := g
      by_cases hz : a.length ≤ 640
      · rw [if_pos hz] at g'
        cases q : PySem.intText? a with
        | none => rw [q] at g'; cases g'
        | some n => rw [q] at g'; cases g'; exact .inr ⟨a, n, rfl, q, hz, k _ H Hs (Ext.refl s) (.int _)⟩
      · rw [if_neg hz] at g'
        cases g'
    | _ => exact nomatch g
def gStr1 : D → Option D
  | .int i => if i.natAbs.log2 < 1920 then some (.str (toString i)) else none
  | .str a => some (.str a)
  | _ => none
def gStr : List D → Option D := one gStr1
def rStr : List V → Hp → VK → Prop := fun xs H Q => (∃ i, xs = [.int i] ∧ i.natAbs.log2 < 1920 ∧ Q (.str (toString i)) H) ∨ ∃ a, xs = [.str a] ∧ Q (.str a) H
theorem call_strA : CallR X (.type "str") rStr := CallR.or call_str_int call_str_str
theorem imp_str {K : PySem.W.Frag} : ImpL K rStr gStr := by
  intro H Hs xs ds o Q s r g k
  obtain ⟨d, rfl, g⟩ := one_eq g
  · obtain ⟨v, rfl, rv⟩ := rpa1 r
    cases rv with
    | int i => obtain ⟨hz, rfl⟩ := ite_some g; exact .inl ⟨_, rfl, hz, k _ H Hs (Ext.refl s) (.str _)⟩
    | str i => cases g; exact .inr ⟨_, rfl, k _ H Hs (Ext.refl s) (.str _)⟩
    | _ => exact nomatch g
def gAbs1 : D → Option D
  | .int i => some (.int (if i < 0 then -i else i))
  | _ => none
def gAbs : List D → Option D := one gAbs1
theorem imp_abs {K : PySem.W.Frag} : ImpL K (fun xs H Q => ∃ i, xs = [.int i] ∧ Q (.int (if i < 0 then -i else i)) H) gAbs := by
  intro H Hs xs ds o Q s r g k
  obtain ⟨d, rfl, g⟩ := one_eq g
  · obtain ⟨v, rfl, rv⟩ := rpa1 r
    cases rv with
    | int i => cases g; exact ⟨_, rfl, k _ H Hs (Ext.refl s) (.int _)⟩
    | _ => exact nomatch g
def gMax21 : D → D → Option D
  | .int i, .int j => some (.int (if j > i then j else i))
  | _, _ => none
def gMax2 : List D → Option D := two gMax21
def gMin21 : D → D → Option D
  | .int i, .int j => some (.int (if j < i then j else i))
  | _, _ => none
def gMin2 : List D → Option D := two gMin21
theorem imp_max2 {K : PySem.W.Frag} : ImpL K (fun xs H Q => ∃ i j, xs = [.int i, .int j] ∧ Q (.int (if j > i then j else i)) H) gMax2 := by
  intro H Hs xs ds o Q s r g k
  obtain ⟨d, e, rfl, g⟩ := two_eq g
  · obtain ⟨v, u, rfl, rv, ru⟩ := rpa2 r
    cases rv <;> cases ru <;> first | (cases g; exact ⟨_, _, rfl, k _ H Hs (Ext.refl s) (.int _)⟩) | exact nomatch g
theorem imp_min2 {K : PySem.W.Frag} : ImpL K (fun xs H Q => ∃ i j, xs = [.int i, .int j] ∧ Q (.int (if j < i then j else i)) H) gMin2 := by
  intro H Hs xs ds o Q s r g k
  obtain ⟨d, e, rfl, g⟩ := two_eq g
  · obtain ⟨v, u, rfl, rv, ru⟩ := rpa2 r
    cases rv <;> cases ru <;> first | (cases g; exact ⟨_, _, rfl, k _ H Hs (Ext.refl s) (.int _)⟩) | exact nomatch g
/-- list(x), tuple(x) -/
def gList1 : D → Option D
  | .lst ds => some (.lst ds)
  | .tup ds => some (.lst ds)
  | .scr ns => some (.lst (ns.map D.int))
  | _ => none
def gList : List D → Option D := one gList1
def gTuple1 : D → Option D
  | .lst ds => some (.tup ds)
  | .tup ds => some (.tup ds)
  | _ => none
def gTuple : List D → Option D := one gTuple1
theorem imp_list {K : PySem.W.Frag} : ImpL K (fun xs H Q => ∃ p ys, xs = [.ref p] ∧ (SqL K H p ys ∨ SqT K H p ys) ∧ ∀ l, H l = none → Q (.ref l) (upd H l (.lst ys))) gList := by
  intro H Hs xs ds o Q s r g k
  obtain ⟨d, rfl, g⟩ := one_eq g
  · obtain ⟨v, rfl, rv⟩ := rpa1 r
    cases rv with
    | lst h1 h2 => cases g; exact ⟨_, _, rfl, .inl (SqL.of (s _ _ h1)), fun l hl => k _ _ _ (Ext.made s hl) (.lst upd_same (h2.mono (Ext.made s hl).part))⟩
    | tup h1 h2 => cases g; exact ⟨_, _, rfl, .inr (sqT_mono s h1), fun l hl => k _ _ _ (Ext.made s hl) (.lst upd_same (h2.mono (Ext.made s hl).part))⟩
    | scr h1 => cases g; exact ⟨_, _, rfl, .inl (s.seq h1), fun l hl => k _ _ _ (Ext.made s hl) (.lst upd_same RpA.ints)⟩
    | _ => exact nomatch g
theorem imp_tuple {K : PySem.W.Frag} : ImpL K (fun xs H Q => ∃ p ys, xs = [.ref p] ∧ ((SqL K H p ys ∧ ∀ l, H l = none → Q (.ref l) (upd H l (.tup ys))) ∨ (SqT K H p ys ∧ Q (.ref p) H))) gTuple := by
  intro H Hs xs ds o Q s r g k
  obtain ⟨d, rfl, g⟩ := one_eq g
  · obtain ⟨v, rfl, rv⟩ := rpa1 r
    cases rv with
    | lst h1 h2 => cases g; exact ⟨_, _, rfl, .inl ⟨SqL.of (s _ _ h1), fun l hl => k _ _ _ (Ext.made s hl) (.tup (SqT.of upd_same) (h2.mono (Ext.made s hl).part))⟩⟩
    | tup h1 h2 => cases g; exact ⟨_, _, rfl, .inr ⟨sqT_mono s h1, k _ H Hs (Ext.refl s) (.tup h1 h2)⟩⟩
    | _ => exact nomatch g
/-- a list of numbers, of texts -/
def D.ints? : List D → Option (List Int)
  | [] => some []
  | .int i :: ds => (D.ints? ds).map (i :: ·)
  | _ :: _ => none
def D.strs? : List D → Option (List Str)
  | [] => some []
  | .str i :: ds => (D.strs? ds).map (i :: ·)
  | _ :: _ => none
theorem ints_rp {K : PySem.W.Frag} {H : Hp} : ∀ {ds : List D} {vs : List V} {ns : List Int}, RpA K H vs ds → D.ints? ds = some ns → vs = ns.map V.int
  | [], _, _, r, h => by cases r; cases h; rfl
  | d :: ds, _, _, r, h => by
    cases r with
    | cons r1 r2 =>
      cases d with
      | int i =>
        cases q : D.ints? ds with
        | none => simp only [D.ints?, q] at h; cases h
        | some ns => simp only [D.ints?, q] at h; cases h; cases r1; rw [ints_rp r2 q]; rfl
      | _ => exact nomatch h
theorem strs_rp {K : PySem.W.Frag} {H : Hp} : ∀ {ds : List D} {vs : List V} {ns : List Str}, RpA K H vs ds → D.strs? ds = some ns → vs = ns.map V.str
  | [], _, _, r, h => by cases r; cases h; rfl
  | d :: ds, _, _, r, h => by
    cases r with
    | cons r1 r2 =>
      cases d with
      | str i =>
        cases q : D.strs? ds with
        | none => simp only [D.strs?, q] at h; cases h
        | some ns => simp only [D.strs?, q] at h; cases h; cases r1; rw [strs_rp r2 q]; rfl
      | _ => exact nomatch h
theorem ints_map (ns : List Int) : D.ints? (ns.map D.int) = some ns := by
  induction ns with
  | nil => rfl
  | cons n ns ih => simp only [List.map_cons, D.ints?, ih, Option.map_some]
theorem strs_map (ns : List Str) : D.strs? (ns.map D.str) = some ns := by
  induction ns with
  | nil => rfl
  | cons n ns ih => simp only [List.map_cons, D.strs?, ih, Option.map_some]
def gSum1 : D → Option D
  | .lst ds => (D.ints? ds).map fun ns => .int ns.sum
  | .scr ns => some (.int ns.sum)
  | _ => none
def gSum : List D → Option D := one gSum1
theorem imp_sum {K : PySem.W.Frag} : ImpL K (rSum K) gSum := by
  intro H Hs xs ds o Q s r g k
  obtain ⟨d, rfl, g⟩ := one_eq g
  · obtain ⟨v, rfl, rv⟩ := rpa1 r
    cases rv with
    | lst h1 h2 =>
      have g' : (D.ints? _).map (fun ns => D.int ns.sum) = some o := g
      cases q : D.ints? ‹_› with
      | none => rw [q] at g'; cases g'
      | some ns =>
        rw [q] at g'
        cases g'
        rw [ints_rp h2 q] at h1
        exact ⟨_, ns, rfl, SqL.of (s _ _ h1), k _ H Hs (Ext.refl s) (.int _)⟩
    | scr h1 => cases g; exact ⟨_, _, rfl, s.seq h1, k _ H Hs (Ext.refl s) (.int _)⟩
    | _ => exact nomatch g
end
end Pd

/-! Pd3: methods, walks, comprehensions, statements, defs. -/
namespace Pd
open PySem PySem.Spec L2 SkE
open PyProof.Rows hiding St

/-! ### methods of texts and lists -/
def TyD (T : String) : D → Prop
  | .str _ => T = "str"
  | .lst _ => T = "list"
  | .scr _ => T = "list"
  | _ => False
theorem Rp.ty {K : PySem.W.Frag} {H : Hp} {v : V} {d : D} {T : String} (r : Rp K H v d) (h : TyD T d) : tyV K T v H := by
  cases r with
  | str _ => exact h
  | lst h1 _ => exact .inl ⟨h, _, SqL.of h1⟩
  | scr h1 => exact .inl ⟨h, _, h1⟩
  | _ => exact h.elim
def ImpM (K : PySem.W.Frag) (T : String) (r : V → List V → Hp → VK → Prop) (G : D → List D → Option D) : Prop := ∀ H Hs x xs d ds o Q, Same Hs H → Rp K Hs x d → RpA K Hs xs ds → G d ds = some o → (∀ v H' Hs', Ext Hs H Hs' H' → Rp K Hs' v o → Q v H') → r x xs H Q
def fM (G : D → List D → Option D) (f : F) (fs : Fs) : F := fun ρ => b1 (f ρ) fun d => b1 (fs ρ) fun ds => G d ds
def mS0 (G : Str → Option D) : D → List D → Option D
  | .str a, [] => G a
  | _, _ => none
def mS1 (G : Str → Str → Option D) : D → List D → Option D
  | .str a, [.str b] => G a b
  | _, _ => none
section
variable {X : Cx} {e a b c o : Expr} {es : List Expr} {f g h : F} {fs : Fs} {pos p2 apos cpos : Pos}
theorem mS0_eq {G : Str → Option D} {d : D} {ds : List D} {o : D} (h : mS0 G d ds = some o) : ∃ a, d = .str a ∧ ds = [] ∧ G a = some o := by
  cases d with
  | str a =>
    cases ds with
    | nil => exact ⟨a, rfl, rfl, h⟩
    | cons _ _ => exact nomatch h
  | _ => exact nomatch h
theorem mS1_eq {G : Str → Str → Option D} {d : D} {ds : List D} {o : D} (h : mS1 G d ds = some o) : ∃ a b, d = .str a ∧ ds = [.str b] ∧ G a b = some o := by
  cases d with
  | str a =>
    match ds, h with
    | [.str b], h => exact ⟨a, b, rfl, rfl, h⟩
    | [], h => exact nomatch h
    | [.non], h => exact nomatch h
    | [.bool _], h => exact nomatch h
    | [.int _], h => exact nomatch h
    | [.lst _], h => exact nomatch h
    | [.tup _], h => exact nomatch h
    | [.scr _], h => exact nomatch h
    | _ :: _ :: _, h => exact absurd h (by unfold mS1; intro q; split at q <;> simp_all)
  | _ => exact nomatch h
theorem pd_m0 {T id : String} {name : Str} {r : V → List V → Hp → VK → Prop} {G : D → List D → Option D} (pa : PlainAttrs T) (slot : Slot T name id) (hty : typeOf (.builtin id) = pure (.type "method_descriptor")) (hm : MtR X id r) (hG : ImpM X.K T r G) (hT : ∀ d ds o, G d ds = some o → TyD T d)
    (ho : PE X o (tD X.K f)) (hbase : attributeBase o name X.env (eval o X.env) = eval o X.env := by rfl) (hline : (apos.endLine == cpos.line) = true := by rfl) : PE X (.Call (.Attribute o name apos) [] [] cpos) (tD X.K (fM G f fNil)) := by
  refine pe_imp (pe_bm0 pa slot hty hm ho hbase hline) fun σ H Q ⟨Hs, ρ, d, s, env, e, k⟩ => ?_
  obtain ⟨d1, e1, e2⟩ := b1_eq e
  exact ⟨Hs, ρ, d1, s, env, e1, fun v H1 Hs1 x1 r1 => ⟨(r1.mono x1.sub).ty (hT _ _ _ e2), hG H1 Hs1 v [] d1 [] d Q x1.sub r1 .nil e2 fun v' H' Hs' x2 r2 => k v' H' Hs' (x1.trans x2) r2⟩⟩
theorem pd_m {T id : String} {name : Str} {r : V → List V → Hp → VK → Prop} {G : D → List D → Option D} (pa : PlainAttrs T) (slot : Slot T name id) (hty : typeOf (.builtin id) = pure (.type "method_descriptor")) (hm : MtR X id r) (hG : ImpM X.K T r G) (hT : ∀ d ds o, G d ds = some o → TyD T d)
    (ho : PE X o (tD X.K f)) (ha : PA X (e :: es) (tDs X.K fs)) (hbase : attributeBase o name X.env (eval o X.env) = eval o X.env := by rfl)
    (hfew : ((backTo cpos (starEach (e :: es) X.env)).all (fun x => !x.1) && (backToKw cpos (keywordEach [] X.env)).all (fun x => x.1.isSome)
      && decide ((e :: es).length + ([] : List Keyword).length + (if ([] : List Keyword).isEmpty then 0 else 1) < 30)) = true := by rfl)
    (hline : (apos.endLine == cpos.line) = true := by rfl) (hs : starEach (e :: es) X.env = (false, eval e X.env) :: starEach es X.env := by rfl) (hplain : (backTo cpos (starEach es X.env)).any (·.1) = false := by rfl) :
    PE X (.Call (.Attribute o name apos) (e :: es) [] cpos) (tD X.K (fM G f fs)) := by
  refine pe_imp (pe_bm pa slot hty hm ho ha hbase hfew hline hs hplain) fun σ H Q ⟨Hs, ρ, d, s, env, e, k⟩ => ?_
  obtain ⟨d1, e1, e2⟩ := b1_eq e
  obtain ⟨ds, e3, e4⟩ := b1_eq e2
  refine ⟨Hs, ρ, d1, s, env, e1, fun v H1 Hs1 x1 r1 => ⟨(r1.mono x1.sub).ty (hT _ _ _ e4), Hs1, ρ, ds, x1.sub, env.mono x1.part, e3, fun vs H2 Hs2 x2 r2 => ?_⟩⟩
  exact hG H2 Hs2 v vs d1 ds d Q x2.sub (r1.mono x2.part) r2 e4 fun v' H' Hs' x3 r3 => k v' H' Hs' (x1.trans (x2.trans x3)) r3
theorem ty_S0 {G : Str → Option D} : ∀ d ds o, mS0 G d ds = some o → TyD "str" d := fun d ds o h => by obtain ⟨a, rfl, _⟩ := mS0_eq h; rfl
theorem ty_S1 {G : Str → Str → Option D} : ∀ d ds o, mS1 G d ds = some o → TyD "str" d := fun d ds o h => by obtain ⟨a, b, rfl, _⟩ := mS1_eq h; rfl
def gSplit : D → List D → Option D := mS1 fun a b => if (b.length == 0) = false ∧ a.length + 2 ≤ sizeLine then some (.lst ((Txt.split a b).map D.str)) else none
def gPartition : D → List D → Option D := mS1 fun a b => if (b.length == 0) = false ∧ a.length ≤ sizeLine then some (.tup [.str (Txt.partition a b).1, .str (Txt.partition a b).2.1, .str (Txt.partition a b).2.2]) else none
def gStarts : D → List D → Option D := mS1 fun a b => some (.bool (Txt.startswith a b))
def gEnds : D → List D → Option D := mS1 fun a b => some (.bool (Txt.endswith a b))
def gUpper : D → List D → Option D := mS0 fun a => if a.length ≤ 5592405 then some (.str (Txt.upper a)) else none
def gJoin : D → List D → Option D
  | .str a, [.lst ds] => b1 (D.strs? ds) fun ys => if (ys.map (·.length)).sum + ys.length * a.length ≤ 16777216 then some (.str (Txt.join a ys)) else none
  | .str a, [.tup ds] => b1 (D.strs? ds) fun ys => if (ys.map (·.length)).sum + ys.length * a.length ≤ 16777216 then some (.str (Txt.join a ys)) else none
  | _, _ => none
theorem ty_join : ∀ d ds o, gJoin d ds = some o → TyD "str" d := fun d ds o h => by
  cases d with
  | str a => rfl
  | _ => exact nomatch h
theorem pd_split (ho : PE X o (tD X.K f)) (ha : PE X e (tD X.K g)) (hs : starEach [e] X.env = (false, eval e X.env) :: starEach [] X.env := by rfl) (hbase : attributeBase o "split" X.env (eval o X.env) = eval o X.env := by rfl) (hline : (apos.endLine == cpos.line) = true := by rfl)
    (hfew : ((backTo cpos (starEach [e] X.env)).all (fun x => !x.1) && (backToKw cpos (keywordEach [] X.env)).all (fun x => x.1.isSome) && decide ([e].length + ([] : List Keyword).length + (if ([] : List Keyword).isEmpty then 0 else 1) < 30)) = true := by rfl) :
    PE X (.Call (.Attribute o "split" apos) [e] [] cpos) (tD X.K (fM gSplit f (fCons g fNil))) :=
  pd_m PySem.F.plainAttrs_str PySem.F.slot_str_split PySem.F.type_str_split mt_split (fun H Hs x xs d ds o Q s rx rs gg k => by
    obtain ⟨a, b, rfl, rfl, g2⟩ := mS1_eq gg
    obtain ⟨⟨h1, h2⟩, rfl⟩ := ite_some g2
    obtain ⟨v, rfl, rv⟩ := rpa1 rs
    cases rx
    cases rv
    exact ⟨a, b, rfl, rfl, h1, h2, fun p hp => k _ _ _ (Ext.made s hp) (.lst upd_same RpA.strs)⟩) ty_S1 ho (pda_cons ha pda_nil hs) hbase hfew hline hs
theorem pd_partition (ho : PE X o (tD X.K f)) (ha : PE X e (tD X.K g)) (hs : starEach [e] X.env = (false, eval e X.env) :: starEach [] X.env := by rfl) (hbase : attributeBase o "partition" X.env (eval o X.env) = eval o X.env := by rfl) (hline : (apos.endLine == cpos.line) = true := by rfl)
    (hfew : ((backTo cpos (starEach [e] X.env)).all (fun x => !x.1) && (backToKw cpos (keywordEach [] X.env)).all (fun x => x.1.isSome) && decide ([e].length + ([] : List Keyword).length + (if ([] : List Keyword).isEmpty then 0 else 1) < 30)) = true := by rfl) :
    PE X (.Call (.Attribute o "partition" apos) [e] [] cpos) (tD X.K (fM gPartition f (fCons g fNil))) :=
  pd_m PySem.F.plainAttrs_str PySem.F.slot_str_partition PySem.F.type_str_partition mt_partition (fun H Hs x xs d ds o Q s rx rs gg k => by
    obtain ⟨a, b, rfl, rfl, g2⟩ := mS1_eq gg
    obtain ⟨⟨h1, h2⟩, rfl⟩ := ite_some g2
    obtain ⟨v, rfl, rv⟩ := rpa1 rs
    cases rx
    cases rv
    exact ⟨a, b, rfl, rfl, h1, h2, fun p hp => k _ _ _ (Ext.made s hp) (.tup (SqT.of upd_same) (.cons (.str _) (.cons (.str _) (.cons (.str _) .nil))))⟩) ty_S1 ho (pda_cons ha pda_nil hs) hbase hfew hline hs
theorem pd_starts (ho : PE X o (tD X.K f)) (ha : PE X e (tD X.K g)) (hs : starEach [e] X.env = (false, eval e X.env) :: starEach [] X.env := by rfl) (hbase : attributeBase o "startswith" X.env (eval o X.env) = eval o X.env := by rfl) (hline : (apos.endLine == cpos.line) = true := by rfl)
    (hfew : ((backTo cpos (starEach [e] X.env)).all (fun x => !x.1) && (backToKw cpos (keywordEach [] X.env)).all (fun x => x.1.isSome) && decide ([e].length + ([] : List Keyword).length + (if ([] : List Keyword).isEmpty then 0 else 1) < 30)) = true := by rfl) :
    PE X (.Call (.Attribute o "startswith" apos) [e] [] cpos) (tD X.K (fM gStarts f (fCons g fNil))) :=
  pd_m PySem.F.plainAttrs_str PySem.F.slot_str_startswith PySem.F.type_str_startswith mt_startswith (fun H Hs x xs d ds o Q s rx rs gg k => by
    obtain ⟨a, b, rfl, rfl, g2⟩ := mS1_eq gg
    cases g2
    obtain ⟨v, rfl, rv⟩ := rpa1 rs
    cases rx
    cases rv
    exact ⟨a, b, rfl, rfl, k _ _ _ (Ext.refl s) (.bool _)⟩) ty_S1 ho (pda_cons ha pda_nil hs) hbase hfew hline hs
theorem pd_ends (ho : PE X o (tD X.K f)) (ha : PE X e (tD X.K g)) (hs : starEach [e] X.env = (false, eval e X.env) :: starEach [] X.env := by rfl) (hbase : attributeBase o "endswith" X.env (eval o X.env) = eval o X.env := by rfl) (hline : (apos.endLine == cpos.line) = true := by rfl)
    (hfew : ((backTo cpos (starEach [e] X.env)).all (fun x => !x.1) && (backToKw cpos (keywordEach [] X.env)).all (fun x => x.1.isSome) && decide ([e].length + ([] : List Keyword).length + (if ([] : List Keyword).isEmpty then 0 else 1) < 30)) = true := by rfl) :
    PE X (.Call (.Attribute o "endswith" apos) [e] [] cpos) (tD X.K (fM gEnds f (fCons g fNil))) :=
  pd_m PySem.F.plainAttrs_str PySem.F.slot_str_endswith PySem.F.type_str_endswith mt_endswith (fun H Hs x xs d ds o Q s rx rs gg k => by
    obtain ⟨a, b, rfl, rfl, g2⟩ := mS1_eq gg
    cases g2
    obtain ⟨v, rfl, rv⟩ := rpa1 rs
    cases rx
    cases rv
    exact ⟨a, b, rfl, rfl, k _ _ _ (Ext.refl s) (.bool _)⟩) ty_S1 ho (pda_cons ha pda_nil hs) hbase hfew hline hs
theorem pd_upper (ho : PE X o (tD X.K f)) (hbase : attributeBase o "upper" X.env (eval o X.env) = eval o X.env := by rfl) (hline : (apos.endLine == cpos.line) = true := by rfl) :
    PE X (.Call (.Attribute o "upper" apos) [] [] cpos) (tD X.K (fM gUpper f fNil)) :=
  pd_m0 PySem.F.plainAttrs_str PySem.F.slot_str_upper PySem.F.type_str_upper mt_upper (fun H Hs x xs d ds o Q s rx rs gg k => by
    obtain ⟨a, rfl, rfl, g2⟩ := mS0_eq gg
    obtain ⟨h1, rfl⟩ := ite_some g2
    cases rx
    cases rs
    exact ⟨a, rfl, rfl, h1, k _ _ _ (Ext.refl s) (.str _)⟩) ty_S0 ho hbase hline
theorem pd_join (ho : PE X o (tD X.K f)) (ha : PE X e (tD X.K g)) (hs : starEach [e] X.env = (false, eval e X.env) :: starEach [] X.env := by rfl) (hbase : attributeBase o "join" X.env (eval o X.env) = eval o X.env := by rfl) (hline : (apos.endLine == cpos.line) = true := by rfl)
    (hfew : ((backTo cpos (starEach [e] X.env)).all (fun x => !x.1) && (backToKw cpos (keywordEach [] X.env)).all (fun x => x.1.isSome) && decide ([e].length + ([] : List Keyword).length + (if ([] : List Keyword).isEmpty then 0 else 1) < 30)) = true := by rfl) :
    PE X (.Call (.Attribute o "join" apos) [e] [] cpos) (tD X.K (fM gJoin f (fCons g fNil))) :=
  pd_m PySem.F.plainAttrs_str PySem.F.slot_str_join PySem.F.type_str_join mt_join (fun H Hs x xs d ds o Q s rx rs gg k => by
    cases rx with
    | str a =>
      match ds, rs, gg with
      | [d], rs, gg =>
        obtain ⟨v, rfl, rv⟩ := rpa1 rs
        cases rv with
        | lst h1 h2 =>
          obtain ⟨ys, q1, q2⟩ := b1_eq gg
          obtain ⟨hz, rfl⟩ := ite_some q2
          rw [strs_rp h2 q1] at h1
          exact ⟨a, _, ys, rfl, rfl, .inl (SqL.of (s _ _ h1)), hz, k _ _ _ (Ext.refl s) (.str _)⟩
        | tup h1 h2 =>
          obtain ⟨ys, q1, q2⟩ := b1_eq gg
          obtain ⟨hz, rfl⟩ := ite_some q2
          rw [strs_rp h2 q1] at h1
          exact ⟨a, _, ys, rfl, rfl, .inr (sqT_mono s h1), hz, k _ _ _ (Ext.refl s) (.str _)⟩
        | _ => exact nomatch gg
      | [], _, gg => exact nomatch gg
      | .lst _ :: _ :: _, _, gg => exact nomatch gg
      | .tup _ :: _ :: _, _, gg => exact nomatch gg
      | .non :: _ :: _, _, gg => exact nomatch gg
      | .bool _ :: _ :: _, _, gg => exact nomatch gg
      | .int _ :: _ :: _, _, gg => exact nomatch gg
      | .str _ :: _ :: _, _, gg => exact nomatch gg
      | .scr _ :: _ :: _, _, gg => exact nomatch gg
    | _ => exact nomatch gg) ty_join ho (pda_cons ha pda_nil hs) hbase hfew hline hs
end

/-! ### walks -/
structure Wk (K : PySem.W.Frag) (J : It) (ds : List D) (Hs : Hp) : Prop where
  go : ∀ i H, Same Hs H → i < ds.length → J.go i H
  stop : ∀ i H, Same Hs H → ds.length ≤ i → J.stop i H
  yld : ∀ i H Hs1 x H', Same Hs Hs1 → Same Hs1 H → J.yld i H x H' → ∀ d, ds[i]? = some d → ∃ Hs', Ext Hs1 H Hs' H' ∧ Rp K Hs' x d
theorem Wk.mono {K : PySem.W.Frag} {J : It} {ds : List D} {Hs Hs' : Hp} (e : Same Hs Hs') (w : Wk K J ds Hs) : Wk K J ds Hs' :=
  ⟨fun i H s => w.go i H (e.trans s), fun i H s => w.stop i H (e.trans s), fun i H Hs1 x H' s1 => w.yld i H Hs1 x H' (e.trans s1)⟩
def tDI (K : PySem.W.Frag) (f : Fs) : TI := fun σ H R => ∃ (Hs : Hp) (ρ : Rho) (ds : List D), Same Hs H ∧ VEnv K Hs σ ρ ∧ f ρ = some ds ∧ ∀ J H' Hs', Ext Hs H Hs' H' → Wk K J ds Hs' → R J H'
theorem pi_imp {X : Cx} {tg e : Expr} {t t' : TI} (h : PI X tg e t) (i : ∀ σ H Q, t' σ H Q → t σ H Q) : PI X tg e t' := ⟨fun pins s σ H Q I q => h.run pins s σ H Q I (i _ _ _ q)⟩
def itL : D → Option (List D)
  | .lst ds => some ds
  | .scr ns => some (ns.map D.int)
  | _ => none
def itT : D → Option (List D)
  | .tup ds => some ds
  | _ => none
def itS : D → Option (List D)
  | .str z => some (z.cps.toList.map fun c => .str ⟨#[c]⟩)
  | _ => none
def fI (G : D → Option (List D)) (f : F) : Fs := fun ρ => b1 (f ρ) G
theorem wk_list {K : PySem.W.Frag} {Hs : Hp} {a : Addr} {xs : List V} {ds : List D} (h : SqL K Hs a xs) (r : RpA K Hs xs ds) : Wk K (Itl K a) ds Hs := by
  refine ⟨fun i H s hi => ?_, fun i H s hi => ⟨xs, s.seq h, by rw [r.len]; exact hi⟩, fun i H Hs1 x H' s1 s hy d hd => ?_⟩
  · have hl : i < xs.length := by rw [r.len]; exact hi
    exact ⟨xs, xs[i], s.seq h, by simp [hl]⟩
  · obtain ⟨rfl, hy⟩ := hy
    obtain ⟨v, e1, r1⟩ := r.getD hd
    have e2 := hy xs ((s1.trans s).seq h)
    rw [e1] at e2
    cases e2
    exact ⟨Hs1, Ext.refl s, r1.mono s1⟩
theorem wk_tup {K : PySem.W.Frag} {Hs : Hp} {a : Addr} {xs : List V} {ds : List D} (h : SqT K Hs a xs) (r : RpA K Hs xs ds) : Wk K (Itt K a) ds Hs := by
  refine ⟨fun i H s hi => ?_, fun i H s hi => ⟨xs, sqT_mono s h, by rw [r.len]; exact hi⟩, fun i H Hs1 x H' s1 s hy d hd => ?_⟩
  · have hl : i < xs.length := by rw [r.len]; exact hi
    exact ⟨xs, xs[i], sqT_mono s h, by simp [hl]⟩
  · obtain ⟨rfl, hy⟩ := hy
    obtain ⟨v, e1, r1⟩ := r.getD hd
    have e2 := hy xs (sqT_mono (s1.trans s) h)
    rw [e1] at e2
    cases e2
    exact ⟨Hs1, Ext.refl s, r1.mono s1⟩
theorem wk_str {K : PySem.W.Frag} {Hs : Hp} {z : Str} : Wk K (Its z) (z.cps.toList.map fun c => .str ⟨#[c]⟩) Hs := by
  refine ⟨fun i H s hi => ?_, fun i H s hi => ?_, fun i H Hs1 x H' s1 s hy d hd => ?_⟩
  · show i < z.cps.size
    simpa using hi
  · show z.cps.size ≤ i
    simpa using hi
  · obtain ⟨rfl, c, e1, rfl⟩ := hy
    have e2 : z.cps.toList[i]? = some c := by simpa using e1
    rw [List.getElem?_map, e2] at hd
    cases hd
    exact ⟨Hs1, Ext.refl s, .str _⟩
def rngD (lo : Int) (n : Nat) : List D := (List.range n).map fun k => .int (lo + (k : Nat))
theorem wk_range {K : PySem.W.Frag} {Hs : Hp} {lo : Int} {n : Nat} : Wk K (Itr lo n) (rngD lo n) Hs := by
  refine ⟨fun i H s hi => ?_, fun i H s hi => ?_, fun i H Hs1 x H' s1 s hy d hd => ?_⟩
  · show i < n
    simpa [rngD] using hi
  · show n ≤ i
    simpa [rngD] using hi
  · obtain ⟨rfl, rfl⟩ := hy
    unfold rngD at hd
    rw [List.getElem?_map] at hd
    by_cases hi : i < n
    · rw [List.getElem?_range hi] at hd
      cases hd
      exact ⟨Hs1, Ext.refl s, .int _⟩
    · rw [List.getElem?_eq_none (by simpa using hi)] at hd
      cases hd
section
variable {X : Cx} {tg e a b c o : Expr} {es : List Expr} {f g h : F} {fs : Fs} {pos p p2 apos cpos tpos : Pos}
theorem pdi_list (he : PE X e (tD X.K f)) : PI X tg e (tDI X.K (fI itL f)) := by
  refine pi_imp (pi_list he) fun σ H R ⟨Hs, ρ, ds, s, env, e, k⟩ => ?_
  obtain ⟨d1, e1, e2⟩ := b1_eq e
  refine ⟨Hs, ρ, d1, s, env, e1, fun v H1 Hs1 x1 r1 => ?_⟩
  cases r1 with
  | lst h1 h2 => cases e2; exact ⟨_, rfl, ⟨_, SqL.of (x1.sub _ _ h1)⟩, k _ _ Hs1 x1 (wk_list (SqL.of h1) h2)⟩
  | scr h1 => cases e2; exact ⟨_, rfl, ⟨_, x1.sub.seq h1⟩, k _ _ Hs1 x1 (wk_list h1 RpA.ints)⟩
  | _ => exact nomatch e2
theorem pdi_tup (he : PE X e (tD X.K f)) : PI X tg e (tDI X.K (fI itT f)) := by
  refine pi_imp (pi_tup he) fun σ H R ⟨Hs, ρ, ds, s, env, e, k⟩ => ?_
  obtain ⟨d1, e1, e2⟩ := b1_eq e
  refine ⟨Hs, ρ, d1, s, env, e1, fun v H1 Hs1 x1 r1 => ?_⟩
  cases r1 with
  | tup h1 h2 => cases e2; exact ⟨_, rfl, ⟨_, sqT_mono x1.sub h1⟩, k _ _ Hs1 x1 (wk_tup h1 h2)⟩
  | _ => exact nomatch e2
theorem pdi_str (he : PE X e (tD X.K f)) : PI X tg e (tDI X.K (fI itS f)) := by
  refine pi_imp (pi_str he) fun σ H R ⟨Hs, ρ, ds, s, env, e, k⟩ => ?_
  obtain ⟨d1, e1, e2⟩ := b1_eq e
  refine ⟨Hs, ρ, d1, s, env, e1, fun v H1 Hs1 x1 r1 => ?_⟩
  cases r1 with
  | str z => cases e2; exact ⟨_, rfl, k _ _ Hs1 x1 wk_str⟩
  | _ => exact nomatch e2
/-- range(n), range(a, b) -/
def itR1 : List D → Option (List D)
  | [.int j] => if -(2 ^ 62) ≤ j ∧ j < 2 ^ 62 then some (rngD 0 j.toNat) else none
  | _ => none
def itR2 : List D → Option (List D)
  | [.int i, .int j] => if -(2 ^ 62) ≤ i ∧ i < 2 ^ 62 ∧ -(2 ^ 62) ≤ j ∧ j < 2 ^ 62 then some (rngD i (j - i).toNat) else none
  | _ => none
def fIs (G : List D → Option (List D)) (f : Fs) : Fs := fun ρ => b1 (f ρ) G
theorem pdi_range1 (hm : X.mg "range" = none) (ha : PA X [a] (tDs X.K fs)) (hg : Gl X "range" := by rfl) (hs : starEach [a] X.env = [(false, eval a X.env)] := by rfl) : PI X tg (.Call (.Name "range" p) [a] [] pos) (tDI X.K (fIs itR1 fs)) := by
  refine pi_imp (pi_range1 hg hm ha hs) fun σ H R ⟨Hs, ρ, ds, s, env, e, k⟩ => ?_
  obtain ⟨d1, e1, e2⟩ := b1_eq e
  refine ⟨Hs, ρ, d1, s, env, e1, fun vs H1 Hs1 x1 r1 => ?_⟩
  match d1, r1, e2 with
  | [.int j], r1, e2 =>
    obtain ⟨v, rfl, rv⟩ := rpa1 r1
    cases rv
    obtain ⟨hz, rfl⟩ := ite_some e2
    exact ⟨j, rfl, hz.1, hz.2, k _ _ Hs1 x1 wk_range⟩
  | [], _, e2 => exact nomatch e2
  | [.non], _, e2 => exact nomatch e2
  | [.bool _], _, e2 => exact nomatch e2
  | [.str _], _, e2 => exact nomatch e2
  | [.lst _], _, e2 => exact nomatch e2
  | [.tup _], _, e2 => exact nomatch e2
  | [.scr _], _, e2 => exact nomatch e2
  | _ :: _ :: _, _, e2 => exact absurd e2 (by unfold itR1; intro q; split at q <;> simp_all)
theorem itR2_eq {ds o : List D} (h : itR2 ds = some o) : ∃ i j, ds = [.int i, .int j] ∧ (-(2 ^ 62) ≤ i ∧ i < 2 ^ 62 ∧ -(2 ^ 62) ≤ j ∧ j < 2 ^ 62) ∧ rngD i (j - i).toNat = o := by
  unfold itR2 at h
  split at h
  · rename_i i j
    obtain ⟨h1, h2⟩ := ite_some h
    exact ⟨i, j, rfl, h1, h2⟩
  · cases h
theorem pdi_range2 (hm : X.mg "range" = none) (ha : PA X [a, b] (tDs X.K fs)) (hg : Gl X "range" := by rfl) (hs : starEach [a, b] X.env = [(false, eval a X.env), (false, eval b X.env)] := by rfl) (hs2 : starEach [b] X.env = [(false, eval b X.env)] := by rfl) : PI X tg (.Call (.Name "range" p) [a, b] [] pos) (tDI X.K (fIs itR2 fs)) := by
  refine pi_imp (pi_range2 hg hm ha hs hs2) fun σ H R ⟨Hs, ρ, ds, s, env, e, k⟩ => ?_
  obtain ⟨d1, e1, e2⟩ := b1_eq e
  refine ⟨Hs, ρ, d1, s, env, e1, fun vs H1 Hs1 x1 r1 => ?_⟩
  obtain ⟨i, j, rfl, hz, rfl⟩ := itR2_eq e2
  obtain ⟨v, u, rfl, rv, ru⟩ := rpa2 r1
  cases rv
  cases ru
  exact ⟨i, j, rfl, hz, k _ _ Hs1 x1 wk_range⟩
/-- zip of two lists -/
def D.zipD : List D → List D → List D
  | d :: ds, e :: es => .tup [d, e] :: D.zipD ds es
  | _, _ => []
theorem zipD_len : ∀ (ds es : List D), (D.zipD ds es).length = min ds.length es.length
  | [], _ => by simp [D.zipD]
  | _ :: _, [] => by simp [D.zipD]
  | d :: ds, e :: es => by simp only [D.zipD, List.length_cons, zipD_len ds es]; omega
theorem zipD_get : ∀ (ds es : List D) (i : Nat) (d : D), (D.zipD ds es)[i]? = some d → ∃ d1 d2, ds[i]? = some d1 ∧ es[i]? = some d2 ∧ d = .tup [d1, d2]
  | [], _, _, _, h => by simp [D.zipD] at h
  | _ :: _, [], _, _, h => by simp [D.zipD] at h
  | d :: ds, e :: es, 0, x, h => by
    simp only [D.zipD, List.getElem?_cons_zero, Option.some.injEq] at h
    exact ⟨d, e, rfl, rfl, h.symm⟩
  | d :: ds, e :: es, i + 1, x, h => by
    simp only [D.zipD, List.getElem?_cons_succ] at h
    obtain ⟨d1, d2, a, b, c⟩ := zipD_get ds es i x h
    exact ⟨d1, d2, by simpa using a, by simpa using b, c⟩
def itZ : List D → Option (List D)
  | [.lst ds, .lst es] => some (D.zipD ds es)
  | _ => none
theorem wk_zip {K : PySem.W.Frag} {Hs : Hp} {a b : Addr} {xs ys : List V} {ds es : List D} (h : SqL K Hs a xs) (r : RpA K Hs xs ds) (h2 : SqL K Hs b ys) (r2 : RpA K Hs ys es) : Wk K (Itz K a b) (D.zipD ds es) Hs := by
  refine ⟨fun i H s hi => ?_, fun i H s hi => ?_, fun i H Hs1 x H' s1 s hy d hd => ?_⟩
  · rw [zipD_len] at hi
    have hl : i < xs.length := by rw [r.len]; omega
    have hl2 : i < ys.length := by rw [r2.len]; omega
    exact ⟨xs, ys, xs[i], ys[i], s.seq h, s.seq h2, by simp [hl], by simp [hl2]⟩
  · rw [zipD_len] at hi
    refine ⟨xs, ys, s.seq h, s.seq h2, ?_⟩
    rw [r.len, r2.len]
    omega
  · obtain ⟨T, x1, x2, rfl, hT, rfl, g1, g2⟩ := hy
    obtain ⟨d1, d2, e1, e2, rfl⟩ := zipD_get _ _ _ _ hd
    obtain ⟨v1, f1, q1⟩ := r.getD e1
    obtain ⟨v2, f2, q2⟩ := r2.getD e2
    have z1 := g1 xs ((s1.trans s).seq h)
    have z2 := g2 ys ((s1.trans s).seq h2)
    rw [f1] at z1
    rw [f2] at z2
    cases z1
    cases z2
    exact ⟨_, Ext.made s hT, .tup (SqT.of upd_same) (.cons (q1.mono (s1.trans (Ext.made s hT).part)) (.cons (q2.mono (s1.trans (Ext.made s hT).part)) .nil))⟩
theorem pdi_zip {elts : List Expr} {kk : Nat} (hm : X.mg "zip" = none) (ha : PA X [a, b] (tDs X.K fs)) (hg : Gl X "zip" := by rfl) (hs : starEach [a, b] X.env = (false, eval a X.env) :: starEach [b] X.env := by rfl) (hpl : (backTo pos (starEach [b] X.env)).any (·.1) = false := by rfl) :
    PI X (.Tuple elts kk tpos) (.Call (.Name "zip" p) [a, b] [] pos) (tDI X.K (fIs itZ fs)) := by
  refine pi_imp (pi_zip hg hm ha hs hpl) fun σ H R ⟨Hs, ρ, ds, s, env, e, k⟩ => ?_
  obtain ⟨d1, e1, e2⟩ := b1_eq e
  refine ⟨Hs, ρ, d1, s, env, e1, fun vs H1 Hs1 x1 r1 => ?_⟩
  unfold itZ at e2
  split at e2
  · cases e2
    obtain ⟨v, u, rfl, rv, ru⟩ := rpa2 r1
    cases rv with
    | lst h1 h2 =>
      cases ru with
      | lst h3 h4 => exact ⟨_, _, _, _, rfl, SqL.of (x1.sub _ _ h1), SqL.of (x1.sub _ _ h3), k _ _ Hs1 x1 (wk_zip (SqL.of h1) h2 (SqL.of h3) h4)⟩
  · cases e2
/-- enumerate of a list -/
def D.enumD : Nat → List D → List D
  | _, [] => []
  | i, d :: ds => .tup [.int (i : Nat), d] :: D.enumD (i + 1) ds
theorem enumD_len : ∀ (k : Nat) (ds : List D), (D.enumD k ds).length = ds.length
  | _, [] => rfl
  | k, d :: ds => by simp only [D.enumD, List.length_cons, enumD_len (k + 1) ds]
theorem enumD_get : ∀ (k : Nat) (ds : List D) (i : Nat) (d : D), (D.enumD k ds)[i]? = some d → ∃ d1, ds[i]? = some d1 ∧ d = .tup [.int ((k + i : Nat) : Int), d1]
  | _, [], _, _, h => by simp [D.enumD] at h
  | k, d :: ds, 0, x, h => by
    simp only [D.enumD, List.getElem?_cons_zero, Option.some.injEq] at h
    exact ⟨d, rfl, h.symm⟩
  | k, d :: ds, i + 1, x, h => by
    simp only [D.enumD, List.getElem?_cons_succ] at h
    obtain ⟨d1, a, b⟩ := enumD_get (k + 1) ds i x h
    refine ⟨d1, by simpa using a, ?_⟩
    rw [b, show k + 1 + i = k + (i + 1) by omega]
def itE : List D → Option (List D)
  | [.lst ds] => some (D.enumD 0 ds)
  | _ => none
theorem wk_enum {K : PySem.W.Frag} {Hs : Hp} {a : Addr} {xs : List V} {ds : List D} (h : SqL K Hs a xs) (r : RpA K Hs xs ds) : Wk K (Ite K a) (D.enumD 0 ds) Hs := by
  refine ⟨fun i H s hi => ?_, fun i H s hi => ?_, fun i H Hs1 x H' s1 s hy d hd => ?_⟩
  · rw [enumD_len] at hi
    have hl : i < xs.length := by rw [r.len]; omega
    exact ⟨xs, xs[i], s.seq h, by simp [hl]⟩
  · rw [enumD_len] at hi
    exact ⟨xs, s.seq h, by rw [r.len]; exact hi⟩
  · obtain ⟨T, x1, rfl, hT, rfl, g1⟩ := hy
    obtain ⟨d1, e1, rfl⟩ := enumD_get _ _ _ _ hd
    obtain ⟨v1, f1, q1⟩ := r.getD e1
    have z1 := g1 xs ((s1.trans s).seq h)
    rw [f1] at z1
    cases z1
    refine ⟨_, Ext.made s hT, .tup (SqT.of upd_same) (.cons ?_ (.cons (q1.mono (s1.trans (Ext.made s hT).part)) .nil))⟩
    rw [Nat.zero_add]
    exact .int _
theorem pdi_enum {elts : List Expr} {kk : Nat} (hm : X.mg "enumerate" = none) (ha : PA X [a] (tDs X.K fs)) (hg : Gl X "enumerate" := by rfl) (hs : starEach [a] X.env = [(false, eval a X.env)] := by rfl) :
    PI X (.Tuple elts kk tpos) (.Call (.Name "enumerate" p) [a] [] pos) (tDI X.K (fIs itE fs)) := by
  refine pi_imp (pi_enum hg hm ha hs) fun σ H R ⟨Hs, ρ, ds, s, env, e, k⟩ => ?_
  obtain ⟨d1, e1, e2⟩ := b1_eq e
  refine ⟨Hs, ρ, d1, s, env, e1, fun vs H1 Hs1 x1 r1 => ?_⟩
  unfold itE at e2
  split at e2
  · cases e2
    obtain ⟨v, rfl, rv⟩ := rpa1 r1
    cases rv with
    | lst h1 h2 => exact ⟨_, _, rfl, SqL.of (x1.sub _ _ h1), k _ _ Hs1 x1 (wk_enum (SqL.of h1) h2)⟩
  · cases e2
end

/-! ### targets -/
structure TgD (K : PySem.W.Frag) (g : TG) (set : D → Rho → Option Rho) (vs : List Nat) : Prop where
  run : ∀ Hs H σ ρ d ρ' v (k : St → Hp → Prop), Same Hs H → VEnv K Hs σ ρ → set d ρ = some ρ' → Rp K Hs v d → (∀ σ', VEnv K Hs σ' ρ' → σ'.length = σ.length → (∀ i, i ∉ vs → σ'[i]? = σ[i]?) → k σ' H) → g v σ H k
  keep : ∀ d ρ ρ', set d ρ = some ρ' → ∀ i, i ∉ vs → ρ'[i]? = ρ[i]?
  put : ∀ d ρ ρ', set d ρ = some ρ' → ∀ (i : Nat) (x : Sl), i ∈ vs → ρ'[i]? = some x → (∃ d', x = .val d') ∨ ρ[i]? = some x
def st1 (i : Nat) : D → Rho → Option Rho := fun d ρ => some (ρ.set i (.val d))
def st2 (i j : Nat) : D → Rho → Option Rho := fun d ρ => match d with
  | .tup [d1, d2] => some ((ρ.set i (.val d1)).set j (.val d2))
  | _ => none
def st3 (i j k : Nat) : D → Rho → Option Rho := fun d ρ => match d with
  | .tup [d1, d2, d3] => some (((ρ.set i (.val d1)).set j (.val d2)).set k (.val d3))
  | _ => none
theorem get_set_ne' {α : Type} {l : List α} {i j : Nat} {a : α} (h : i ≠ j) : (l.set j a)[i]? = l[i]? := List.getElem?_set_ne (Ne.symm h)
theorem get_set_val {ρ : Rho} {i j : Nat} {d : D} {x : Sl} (h : (ρ.set j (.val d))[i]? = some x) : (∃ d', x = .val d') ∨ ρ[i]? = some x := by
  by_cases hij : i = j
  · subst hij
    by_cases hl : i < ρ.length
    · rw [List.getElem?_set_self hl] at h
      cases h
      exact .inl ⟨d, rfl⟩
    · rw [List.getElem?_eq_none (by simpa using hl)] at h
      cases h
  · rw [get_set_ne' hij] at h
    exact .inr h
theorem tg_1 {K : PySem.W.Frag} (i : Nat) : TgD K (gName i) (st1 i) [i] := by
  refine ⟨fun Hs H σ ρ d ρ' v k s env e r kk => ?_, fun d ρ ρ' e j hj => ?_, fun d ρ ρ' e j x hj hx => ?_⟩
  · cases e
    exact kk _ (paired_set ⟨v, rfl, r⟩ i env) (by simp) fun j hj => get_set_ne' (by simpa using hj)
  · cases e
    exact get_set_ne' (by simpa using hj)
  · cases e
    exact get_set_val hx
theorem tg_2 {K : PySem.W.Frag} (i j : Nat) : TgD K (gTup K 2 (gCons (gName i) (gCons (gName j) gNil))) (st2 i j) [i, j] := by
  refine ⟨fun Hs H σ ρ d ρ' v k s env e r kk => ?_, fun d ρ ρ' e m hm => ?_, fun d ρ ρ' e m x hm hx => ?_⟩
  · unfold st2 at e
    split at e
    · cases e
      cases r with
      | tup h1 h2 =>
        obtain ⟨v1, v2, rfl, r1, r2⟩ := rpa2 h2
        refine ⟨_, _, rfl, sqT_mono s h1, rfl, v1, [v2], rfl, v2, [], rfl, rfl, ?_⟩
        refine kk _ (paired_set ⟨v2, rfl, r2⟩ j (paired_set ⟨v1, rfl, r1⟩ i env)) (by simp) fun m hm => ?_
        have hm' : m ≠ i ∧ m ≠ j := by simpa using hm
        rw [get_set_ne' hm'.2, get_set_ne' hm'.1]
    · cases e
  · unfold st2 at e
    split at e
    · cases e
      have hm' : m ≠ i ∧ m ≠ j := by simpa using hm
      rw [get_set_ne' hm'.2, get_set_ne' hm'.1]
    · cases e
  · unfold st2 at e
    split at e
    · cases e
      rcases get_set_val hx with h | h
      · exact .inl h
      · exact get_set_val h
    · cases e
theorem rpa3 {K : PySem.W.Frag} {H : Hp} {vs : List V} {d e c : D} (r : RpA K H vs [d, e, c]) : ∃ v u w, vs = [v, u, w] ∧ Rp K H v d ∧ Rp K H u e ∧ Rp K H w c := by
  cases r with
  | cons h t =>
    obtain ⟨u, w, rfl, h2, h3⟩ := rpa2 t
    exact ⟨_, _, _, rfl, h, h2, h3⟩
theorem tg_3 {K : PySem.W.Frag} (i j l : Nat) : TgD K (gTup K 3 (gCons (gName i) (gCons (gName j) (gCons (gName l) gNil)))) (st3 i j l) [i, j, l] := by
  refine ⟨fun Hs H σ ρ d ρ' v k s env e r kk => ?_, fun d ρ ρ' e m hm => ?_, fun d ρ ρ' e m x hm hx => ?_⟩
  · unfold st3 at e
    split at e
    · cases e
      cases r with
      | tup h1 h2 =>
        obtain ⟨v1, v2, v3, rfl, r1, r2, r3⟩ := rpa3 h2
        refine ⟨_, _, rfl, sqT_mono s h1, rfl, v1, [v2, v3], rfl, v2, [v3], rfl, v3, [], rfl, rfl, ?_⟩
        refine kk _ (paired_set ⟨v3, rfl, r3⟩ l (paired_set ⟨v2, rfl, r2⟩ j (paired_set ⟨v1, rfl, r1⟩ i env))) (by simp) fun m hm => ?_
        have hm' : m ≠ i ∧ m ≠ j ∧ m ≠ l := by simpa using hm
        rw [get_set_ne' hm'.2.2, get_set_ne' hm'.2.1, get_set_ne' hm'.1]
    · cases e
  · unfold st3 at e
    split at e
    · cases e
      have hm' : m ≠ i ∧ m ≠ j ∧ m ≠ l := by simpa using hm
      rw [get_set_ne' hm'.2.2, get_set_ne' hm'.2.1, get_set_ne' hm'.1]
    · cases e
  · unfold st3 at e
    split at e
    · cases e
      rcases get_set_val hx with h | h
      · exact .inl h
      · rcases get_set_val h with h | h
        · exact .inl h
        · exact get_set_val h
    · cases e
/-! ### comprehensions -/
def wipeR (ρ : Rho) : List Nat → Rho
  | [] => ρ
  | v :: vs => (wipeR ρ vs).set v .junk
theorem wipe_env {K : PySem.W.Frag} {H : Hp} {σ : St} {ρ : Rho} (e : VEnv K H σ ρ) : ∀ vs, VEnv K H (wipe σ vs) (wipeR ρ vs)
  | [] => e
  | v :: vs => paired_set trivial v (wipe_env e vs)
theorem wipe_get (σ : St) : ∀ (vs : List Nat) (i : Nat), (wipe σ vs)[i]? = if i ∈ vs then (σ[i]?).map (fun _ => none) else σ[i]?
  | [], i => by simp [wipe]
  | v :: vs, i => by
    have ih := wipe_get σ vs i
    show ((wipe σ vs).set v none)[i]? = _
    by_cases hiv : i = v
    · subst hiv
      rw [if_pos (by simp)]
      by_cases hl : i < σ.length
      · rw [List.getElem?_set_self (by rw [wipe_length]; exact hl), List.getElem?_eq_getElem hl]
        rfl
      · rw [List.getElem?_eq_none (by simpa [wipe_length] using hl), List.getElem?_eq_none (by simpa using hl)]
        rfl
    · rw [get_set_ne' hiv, ih]
      by_cases hm : i ∈ vs
      · rw [if_pos hm, if_pos (by simp [hm])]
      · rw [if_neg hm, if_neg (by simp [hm, hiv])]
theorem wipe_congr {σ σ' : St} {vs : List Nat} (hl : σ'.length = σ.length) (h : ∀ i, i ∉ vs → σ'[i]? = σ[i]?) : wipe σ' vs = wipe σ vs := by
  refine List.ext_getElem? fun i => ?_
  rw [wipe_get, wipe_get]
  by_cases hm : i ∈ vs
  · rw [if_pos hm, if_pos hm]
    by_cases hi : i < σ.length
    · rw [List.getElem?_eq_getElem hi, List.getElem?_eq_getElem (by omega)]
      rfl
    · rw [List.getElem?_eq_none (by omega), List.getElem?_eq_none (by omega)]
  · rw [if_neg hm, if_neg hm, h i hm]
theorem wipe_idem (σ : St) (vs : List Nat) : wipe (wipe σ vs) vs = wipe σ vs := by
  refine List.ext_getElem? fun i => ?_
  rw [wipe_get]
  by_cases hm : i ∈ vs
  · rw [if_pos hm, wipe_get, if_pos hm]
    cases σ[i]? <;> rfl
  · rw [if_neg hm]
/-- the items kept, their values -/
def lcGo (set : D → Rho → Option Rho) (ft : Ft) (fe : F) (ρ : Rho) : List D → Option (List D)
  | [] => some []
  | d :: ds => b1 (set d ρ) fun ρ' => b1 (ft ρ') fun b => if b = true then b1 (fe ρ') fun y => b1 (lcGo set ft fe ρ ds) fun ys => some (y :: ys) else lcGo set ft fe ρ ds
def fLc (fi : Fs) (set : D → Rho → Option Rho) (ft : Ft) (fe : F) (vs : List Nat) : F := fun ρ => b1 (fi ρ) fun ds => if ds.length ≤ 1000000 then b1 (lcGo set ft fe (wipeR ρ vs) ds) fun ys => some (.lst ys) else none
def ftYes : Ft := fun _ => some true
theorem tYes_D {K : PySem.W.Frag} : ∀ σ H Q, tDT K ftYes σ H Q → tYes σ H Q := fun σ H Q ⟨Hs, ρ, b, s, env, e, k⟩ => by cases e; exact k H (Same.refl _)
theorem lc_read {K : PySem.W.Frag} {fi : Fs} {wi : TI} {g : TG} {tt : TT} {te : TE} {set : D → Rho → Option Rho} {ft : Ft} {fe : F} {vs : List Nat} (hi : ∀ σ H R, tDI K fi σ H R → wi σ H R) (hg : TgD K g set vs) (ht : ∀ σ H Q, tDT K ft σ H Q → tt σ H Q) (he : ∀ σ H Q, tD K fe σ H Q → te σ H Q) :
    ∀ σ H Q, tD K (fLc fi set ft fe vs) σ H Q → tLc wi g tt te vs σ H Q := by
  rintro σ H Q ⟨Hs, ρ, d, s, env, e, k⟩
  obtain ⟨ds, e1, e2⟩ := b1_eq e
  have e2' : (if ds.length ≤ 1000000 then b1 (lcGo set ft fe (wipeR ρ vs) ds) fun ys => some (D.lst ys) else none) = some d := e2
  by_cases hz : ds.length ≤ 1000000
  · rw [if_pos hz] at e2'
    obtain ⟨ys, e3, e4⟩ := b1_eq e2'
    cases e4
    refine hi _ _ _ ⟨Hs, ρ, ds, s, env, e1, fun J H1 Hs1 x1 wk D0 hD => ?_⟩
    have hDs : Hs1 D0 = none := x1.sub.free hD
    refine ⟨fun i m H2 => m = ds.length - i ∧ i ≤ ds.length ∧ ∃ Hs2 acc accD rest, Same Hs1 Hs2 ∧ Same Hs2 H2 ∧ Same H1 H2 ∧ (∀ a o, Hs2 a = some o → Hs1 a = some o ∨ H1 a = none) ∧ Hs2 D0 = none ∧ H2 D0 = some (.lst acc) ∧ RpA K Hs2 acc accD ∧ acc.length ≤ i ∧
      lcGo set ft fe (wipeR ρ vs) (ds.drop i) = some rest ∧ accD ++ rest = ys, ⟨_, rfl, Nat.zero_le _, Hs1, [], [], ys, Same.refl _, x1.sub.trans (Ext.made (Same.refl H1) hD).all, (Ext.made (Same.refl H1) hD).all, fun _ _ h => .inl h, hDs, upd_same, .nil, Nat.zero_le _, by simpa using e3, rfl⟩, ?_⟩
    rintro i m H2 ⟨rfl, hi2, Hs2, acc, accD, rest, s1, s2, s3, nw, d2, d1, ra, hl, eg, ea⟩
    by_cases hlt : i < ds.length
    · obtain ⟨d0, hd0⟩ : ∃ d0, ds[i]? = some d0 := ⟨ds[i], by simp [hlt]⟩
      have hdrop : ds.drop i = d0 :: ds.drop (i + 1) := by
        rw [List.drop_eq_getElem_cons hlt]
        rw [List.getElem?_eq_getElem hlt] at hd0
        cases hd0
        rfl
      rw [hdrop] at eg
      obtain ⟨ρ', g1, g2⟩ := b1_eq eg
      obtain ⟨b, g3, g4⟩ := b1_eq g2
      refine .inr ⟨wk.go i H2 (s1.trans s2) hlt, fun H3 => ∃ Hs2 acc accD rest, Same Hs1 Hs2 ∧ Same Hs2 H3 ∧ Same H1 H3 ∧ (∀ a o, Hs2 a = some o → Hs1 a = some o ∨ H1 a = none) ∧ Hs2 D0 = none ∧ H3 D0 = some (.lst acc) ∧ RpA K Hs2 acc accD ∧ acc.length ≤ i + 1 ∧
        lcGo set ft fe (wipeR ρ vs) (ds.drop (i + 1)) = some rest ∧ accD ++ rest = ys, fun H' hN => ⟨_, by omega, rfl, hlt, hN⟩, fun x H3 hy => ?_⟩
      obtain ⟨Hs3, x3, r3⟩ := wk.yld i H2 Hs2 x H3 s1 s2 hy d0 hd0
      have envw := wipe_env (env.mono (x1.part.trans (s1.trans x3.part))) vs
      have d3 : H3 D0 = some (.lst acc) := x3.all _ _ d1
      have ds3 : Hs3 D0 = none := by
        cases q : Hs3 D0 with
        | none => rfl
        | some o =>
          rcases x3.new _ _ q with h | h
          · rw [d2] at h; cases h
          · rw [d1] at h; cases h
      have nw3 : ∀ a o, Hs3 a = some o → Hs1 a = some o ∨ H1 a = none := fun a o h => by
        rcases x3.new a o h with h1 | h1
        · exact nw a o h1
        · exact .inr (s3.free h1)
      refine hg.run Hs3 H3 _ _ d0 ρ' x _ x3.sub envw g1 r3 fun σ' env' hlen hkeep => ⟨by rw [wipe_congr hlen hkeep]; exact wipe_idem _ _, ?_⟩
      refine ht _ _ _ ⟨Hs3, ρ', b, x3.sub, env', g3, fun H4 s4 => ?_⟩
      cases b with
      | true =>
        rw [if_pos rfl] at g4
        obtain ⟨y, g5, g6⟩ := b1_eq g4
        obtain ⟨ys', g7, g8⟩ := b1_eq g6
        cases g8
        refine iteT (he _ _ _ ⟨Hs3, ρ', y, x3.sub.trans s4, env', g5, fun v H5 Hs5 x5 r5 => ?_⟩)
        have d5 : H5 D0 = some (.lst acc) := x5.all _ _ (s4 _ _ d3)
        have ds5 : Hs5 D0 = none := by
          cases q : Hs5 D0 with
          | none => rfl
          | some o =>
            rcases x5.new _ _ q with h | h
            · rw [ds3] at h; cases h
            · rw [s4 _ _ d3] at h; cases h
        have nosub : ∀ (A B : Hp) (o' : HO), A D0 = none → Same A B → Same A (upd B D0 o') := fun A B o' hA hs b u hb => by
          rw [upd_ne (fun z => by subst z; rw [hA] at hb; cases hb)]
          exact hs b u hb
        refine ⟨acc, d5, by rw [sizeLine_eq]; omega, Hs5, acc ++ [v], accD ++ [y], ys', s1.trans (x3.part.trans x5.part), nosub _ _ _ ds5 x5.sub, nosub _ _ _ hD (s3.trans (x3.all.trans (s4.trans x5.all))), fun a o h => ?_, ds5, upd_same, (ra.mono (x3.part.trans x5.part)).snoc r5, by simp only [List.length_append, List.length_singleton]; omega, g7, by rw [← ea]; simp⟩
        rcases x5.new a o h with h1 | h1
        · exact nw3 a o h1
        · exact .inr ((s3.trans (x3.all.trans s4)).free h1)
      | false =>
        rw [if_neg Bool.false_ne_true] at g4
        exact iteF ⟨Hs3, acc, accD, rest, s1.trans x3.part, x3.sub.trans s4, s3.trans (x3.all.trans s4), nw3, ds3, s4 _ _ d3, ra.mono x3.part, by omega, g4, ea⟩
    · have e5 : i = ds.length := by omega
      subst e5
      rw [List.drop_length] at eg
      cases eg
      rw [List.append_nil] at ea
      subst ea
      refine .inl ⟨wk.stop _ H2 (s1.trans s2) (Nat.le_refl _), ?_⟩
      have hsub : Same (upd Hs2 D0 (.lst acc)) H2 := fun b u hb => by
        by_cases hbD : b = D0
        · subst hbD
          rw [upd_same] at hb
          cases hb
          exact d1
        · rw [upd_ne hbD] at hb
          exact s2 b u hb
      have hp : Same Hs2 (upd Hs2 D0 (.lst acc)) := fun b u hb => by
        rw [upd_ne (fun z => by subst z; rw [d2] at hb; cases hb)]
        exact hb
      refine k _ H2 (upd Hs2 D0 (.lst acc)) ⟨x1.all.trans s3, x1.part.trans (s1.trans hp), hsub, fun a o h => ?_⟩ (.lst upd_same (ra.mono hp))
      by_cases ha : a = D0
      · subst ha
        exact .inr (x1.all.free hD)
      · rw [upd_ne ha] at h
        rcases nw a o h with h1 | h1
        · exact x1.new a o h1
        · exact .inr (x1.all.free h1)
  · rw [if_neg hz] at e2'
    cases e2'
section
variable {X : Cx} {tg e elt iter : Expr} {ifs : List Expr} {fi : Fs} {fe : F} {ft : Ft} {pos : Pos}
theorem pd_lc {scope : Scope} {own : List (Str × Nat)} {g : TG} {set : D → Rho → Option Rho} {tt : TT} (hc : X.calm = true) (hN : X.N.Nodup) (hi : PI X tg iter (tDI X.K fi)) (ok : BlkOk X.N X.env.scope scope own) (hg : TgD X.K g set (own.map (·.2)))
    (hpg : ∀ (s : Shared) (H : Hp) (C : Addr) (cl : List (Str × Addr)) (fp : List Addr), PG (X.blk s H scope (compEnvC scope cl C X.env) fp) tg g)
    (ht : ∀ σ H Q, tDT X.K ft σ H Q → tt σ H Q) (hpt : ∀ (s : Shared) (H : Hp) (C : Addr) (cl : List (Str × Addr)) (fp : List Addr), PTs (X.blk s H scope (compEnvC scope cl C X.env) fp) ifs tt)
    (hpe : ∀ (s : Shared) (H : Hp) (C : Addr) (cl : List (Str × Addr)) (fp : List Addr), PE (X.blk s H scope (compEnvC scope cl C X.env) fp) elt (tD X.K fe)) (hs : ∀ x, foldedSetIterable iter X.env x = pure x := by intro _; rfl) :
    PE X (.ListComp elt [⟨tg, iter, ifs, 0⟩] scope pos) (tD X.K (fLc fi set ft fe (own.map (·.2)))) :=
  pe_imp (pe_lc (own := own) (g := g) (tt := tt) hc hN hi ok hpg hpt hpe hs) (lc_read (fun _ _ _ h => h) hg ht (fun _ _ _ h => h))
end
end Pd

/-! Pd4: statements, defs, calls. -/
namespace Pd
open PySem PySem.Spec L2 SkE
open PyProof.Rows hiding St

inductive Fl where
  | nx (ρ : Rho) | bk (ρ : Rho) | ct (ρ : Rho) | rt (d : D)
abbrev Gs := Rho → Option Fl
/-- the slots of a running def: what it only reads stands in the part Hs; the lists that it fills stand beside -/
structure SEnv (K : PySem.W.Frag) (Hs0 H0 Hs H : Hp) (σ : St) (ρ : Rho) : Prop where
  ext : Ext Hs0 H0 Hs H
  env : VEnv K Hs σ ρ
  own : ∀ (i : Nat) (ds : List D), ρ[i]? = some (Sl.own ds) → ∃ (a : Addr) (vs : List V), σ[i]? = some (some (V.ref a)) ∧ H a = some (HO.lst vs) ∧ Hs a = none ∧ H0 a = none ∧ RpA K Hs vs ds
  one : ∀ (i j : Nat) (ds es : List D) (a : Addr), i ≠ j → ρ[i]? = some (Sl.own ds) → ρ[j]? = some (Sl.own es) → σ[i]? = some (some (V.ref a)) → σ[j]? ≠ some (some (V.ref a))
def After (K : PySem.W.Frag) (Hs0 H0 Hb : Hp) (Dn : Ends) : Fl → Prop
  | .nx ρ => ∀ σ H Hs, SEnv K Hs0 H0 Hs H σ ρ → Same Hb Hs → Dn.nx σ H
  | .bk ρ => ∀ σ H Hs, SEnv K Hs0 H0 Hs H σ ρ → Same Hb Hs → Dn.bk σ H
  | .ct ρ => ∀ σ H Hs, SEnv K Hs0 H0 Hs H σ ρ → Same Hb Hs → Dn.ct σ H
  | .rt d => ∀ v H Hs, Ext Hs0 H0 Hs H → Rp K Hs v d → Dn.rt v H
def tS (K : PySem.W.Frag) (Hs0 H0 : Hp) (g : Gs) : TS := fun Dn σ H => ∃ (Hs : Hp) (ρ : Rho) (fl : Fl), SEnv K Hs0 H0 Hs H σ ρ ∧ g ρ = some fl ∧ After K Hs0 H0 Hs Dn fl
theorem After.base {K : PySem.W.Frag} {Hs0 H0 Hb Hc : Hp} {Dn : Ends} (s : Same Hb Hc) : ∀ {fl : Fl}, After K Hs0 H0 Hb Dn fl → After K Hs0 H0 Hc Dn fl
  | .nx _, k => fun σ H Hs S z => k σ H Hs S (s.trans z)
  | .bk _, k => fun σ H Hs S z => k σ H Hs S (s.trans z)
  | .ct _, k => fun σ H Hs S z => k σ H Hs S (s.trans z)
  | .rt _, k => k
section
variable {K : PySem.W.Frag} {Hs0 H0 Hs H : Hp} {σ : St} {ρ : Rho}
theorem SEnv.sub (S : SEnv K Hs0 H0 Hs H σ ρ) : Same Hs H := S.ext.sub
/-- more objects beside; the part too -/
theorem SEnv.more {Hs' H' : Hp} (S : SEnv K Hs0 H0 Hs H σ ρ) (x : Ext Hs H Hs' H') : SEnv K Hs0 H0 Hs' H' σ ρ := by
  refine ⟨S.ext.trans x, S.env.mono x.part, fun i ds h => ?_, S.one⟩
  obtain ⟨a, vs, h1, h2, h3, h4, h5⟩ := S.own i ds h
  refine ⟨a, vs, h1, x.all _ _ h2, ?_, h4, h5.mono x.part⟩
  cases q : Hs' a with
  | none => rfl
  | some o =>
    rcases x.new a o q with z | z
    · rw [h3] at z; cases z
    · rw [h2] at z; cases z
theorem SEnv.side {H' : Hp} (S : SEnv K Hs0 H0 Hs H σ ρ) (x : Same H H') : SEnv K Hs0 H0 Hs H' σ ρ := S.more (Ext.side S.sub x)
/-- a slot is set to data -/
theorem SEnv.put (S : SEnv K Hs0 H0 Hs H σ ρ) {v : V} {d : D} (r : Rp K Hs v d) (i : Nat) : SEnv K Hs0 H0 Hs H (σ.set i (some v)) (ρ.set i (.val d)) := by
  have no : ∀ j ds, (ρ.set i (.val d))[j]? = some (.own ds) → j ≠ i ∧ ρ[j]? = some (.own ds) := fun j ds h => by
    by_cases hij : j = i
    · subst hij
      by_cases hl : j < ρ.length
      · rw [List.getElem?_set_self hl] at h; cases h
      · rw [List.getElem?_eq_none (by simpa using hl)] at h; cases h
    · exact ⟨hij, by rw [get_set_ne' hij] at h; exact h⟩
  refine ⟨S.ext, paired_set ⟨v, rfl, r⟩ i S.env, fun j ds h => ?_, fun j k ds es a hjk h1 h2 h3 => ?_⟩
  · obtain ⟨n1, n2⟩ := no j ds h
    rw [get_set_ne' n1]
    exact S.own j ds n2
  · obtain ⟨n1, n2⟩ := no j ds h1
    obtain ⟨m1, m2⟩ := no k es h2
    rw [get_set_ne' n1] at h3
    rw [get_set_ne' m1]
    exact S.one j k ds es a hjk n2 m2 h3
/-- several slots are set to data -/
theorem SEnv.puts {g : TG} {set : D → Rho → Option Rho} {vs : List Nat} (T : TgD K g set vs) (S : SEnv K Hs0 H0 Hs H σ ρ) {d : D} {ρ' : Rho} {σ' : St} (e : set d ρ = some ρ') (env : VEnv K Hs σ' ρ') (keep : ∀ i, i ∉ vs → σ'[i]? = σ[i]?)
    (hv : ∀ i ds, i ∈ vs → ρ'[i]? ≠ some (.own ds)) : SEnv K Hs0 H0 Hs H σ' ρ' := by
  have no : ∀ j ds, ρ'[j]? = some (.own ds) → j ∉ vs ∧ ρ[j]? = some (.own ds) := fun j ds h => by
    by_cases hj : j ∈ vs
    · exact absurd h (hv j ds hj)
    · exact ⟨hj, by rw [← T.keep _ _ _ e j hj]; exact h⟩
  refine ⟨S.ext, env, fun j ds h => ?_, fun j k ds es a hjk h1 h2 h3 => ?_⟩
  · obtain ⟨n1, n2⟩ := no j ds h
    rw [keep j n1]
    exact S.own j ds n2
  · obtain ⟨n1, n2⟩ := no j ds h1
    obtain ⟨m1, m2⟩ := no k es h2
    rw [keep j n1] at h3
    rw [keep k m1]
    exact S.one j k ds es a hjk n2 m2 h3
/-- the lists that the def fills, as data to read -/
def shw : Rho → Rho := List.map fun x => match x with
  | .own ds => .val (.lst ds)
  | x => x
theorem SEnv.show_ (S : SEnv K Hs0 H0 Hs H σ ρ) : ∃ Hs', Ext Hs H Hs H ∧ Same Hs Hs' ∧ Same Hs' H ∧ Ext Hs0 H0 Hs' H ∧ VEnv K Hs' σ (shw ρ) := by
  classical
  let P : Addr → Prop := fun b => ∃ (i : Nat) (ds : List D), ρ[i]? = some (Sl.own ds) ∧ σ[i]? = some (some (V.ref b))
  have hP : ∀ b, P b → (∃ vs, H b = some (.lst vs)) ∧ Hs b = none ∧ H0 b = none := fun b ⟨i, ds, h1, h2⟩ => by
    obtain ⟨a, vs, q1, q2, q3, q4, q5⟩ := S.own i ds h1
    rw [q1] at h2
    cases h2
    exact ⟨⟨vs, q2⟩, q3, q4⟩
  refine ⟨fun b => if P b then H b else Hs b, Ext.refl S.sub, fun b o h => ?_, fun b o h => ?_, ⟨S.ext.all, fun b o h => ?_, fun b o h => ?_, fun b o h => ?_⟩, ?_⟩
  · show (if P b then H b else Hs b) = some o
    by_cases hb : P b
    · rw [(hP b hb).2.1] at h; cases h
    · rw [if_neg hb]; exact h
  · have h' : (if P b then H b else Hs b) = some o := h
    by_cases hb : P b
    · rw [if_pos hb] at h'; exact h'
    · rw [if_neg hb] at h'; exact S.sub _ _ h'
  · show (if P b then H b else Hs b) = some o
    have h2 := S.ext.part _ _ h
    by_cases hb : P b
    · rw [(hP b hb).2.1] at h2; cases h2
    · rw [if_neg hb]; exact h2
  · have h' : (if P b then H b else Hs b) = some o := h
    by_cases hb : P b
    · rw [if_pos hb] at h'; exact h'
    · rw [if_neg hb] at h'; exact S.sub _ _ h'
  · have h' : (if P b then H b else Hs b) = some o := h
    by_cases hb : P b
    · exact .inr (hP b hb).2.2
    · rw [if_neg hb] at h'; exact S.ext.new _ _ h'
  · have mono : Same Hs (fun b => if P b then H b else Hs b) := fun b o h => by
      show (if P b then H b else Hs b) = some o
      by_cases hb : P b
      · rw [(hP b hb).2.1] at h; cases h
      · rw [if_neg hb]; exact h
    have gen : ∀ (σ' : St) (ρ' : Rho) (k : Nat), (∀ i x, ρ'[i]? = some x → ρ[k + i]? = some x) → (∀ i x, σ'[i]? = some x → σ[k + i]? = some x) → VEnv K Hs σ' ρ' → VEnv K (fun b => if P b then H b else Hs b) σ' (shw ρ') := by
      intro σ' ρ'
      induction ρ' generalizing σ' with
      | nil => intro k _ _ e; cases e; exact .nil
      | cons x ρ' ih =>
        intro k h1 h2 e
        cases e with
        | @cons ov _ σ'' _ e1 e2 =>
          refine .cons ?_ (ih _ (k + 1) (fun i y hy => ?_) (fun i y hy => ?_) e2)
          · cases x with
            | val d => exact e1.mono mono
            | raw v => exact e1
            | junk => trivial
            | own ds =>
              have q0 := h1 0 (.own ds) rfl
              obtain ⟨a, vs, q1, q2, q3, q4, q5⟩ := S.own k ds q0
              have q6 : σ[k]? = some ov := h2 0 ov rfl
              rw [q1] at q6
              cases q6
              refine ⟨.ref a, rfl, .lst (xs := vs) ?_ (q5.mono mono)⟩
              show (if P a then H a else Hs a) = some (.lst vs)
              rw [if_pos ⟨k, ds, q0, q1⟩]
              exact q2
          · rw [show k + 1 + i = k + (i + 1) by omega]
            exact h1 (i + 1) y (by simpa using hy)
          · rw [show k + 1 + i = k + (i + 1) by omega]
            exact h2 (i + 1) y (by simpa using hy)
    exact gen σ ρ 0 (fun i x h => by rw [Nat.zero_add]; exact h) (fun i x h => by rw [Nat.zero_add]; exact h) S.env
end

/-! ### the statements as functions of the slots -/
def nilG : Gs := fun ρ => some (.nx ρ)
def seqG (g1 g2 : Gs) : Gs := fun ρ => match g1 ρ with
  | some (.nx ρ') => g2 ρ'
  | o => o
def retG (f : F) : Gs := fun ρ => b1 (f (shw ρ)) fun d => some (.rt d)
def retN : Gs := fun _ => some (.rt .non)
def ifG (c : Ft) (g1 g2 : Gs) : Gs := fun ρ => b1 (c (shw ρ)) fun b => if b = true then g1 ρ else g2 ρ
def D.sca : D → Bool
  | .non => true | .bool _ => true | .int _ => true | .str _ => true
  | _ => false
/-- the value of an expression: what only reads, else a plain value -/
def evG (f : F) (ρ : Rho) : Option D := match f ρ with
  | some d => some d
  | none => match f (shw ρ) with
    | some d => if d.sca = true then some d else none
    | none => none
def asgG (set : D → Rho → Option Rho) (f : F) : Gs := fun ρ => b1 (evG f ρ) fun d => b1 (set d ρ) fun ρ' => some (.nx ρ')
def newG (i : Nat) (fs : Fs) : Gs := fun ρ => b1 (fs ρ) fun ds => if ds.length ≤ sizeLine then some (.nx (ρ.set i (.own ds))) else none
def dropG (f : F) : Gs := fun ρ => b1 (f (shw ρ)) fun _ => some (.nx ρ)
def appG (i : Nat) (f : F) : Gs := fun ρ => match ρ[i]? with
  | some (.own ds) => b1 (evG f ρ) fun d => if ds.length < sizeLine then some (.nx (ρ.set i (.own (ds ++ [d])))) else none
  | _ => none
def brkG : Gs := fun ρ => some (.bk ρ)
def cntG : Gs := fun ρ => some (.ct ρ)
def forGo (T : D → Rho → Option Fl) : List D → Gs
  | [] => fun ρ => some (.nx ρ)
  | d :: ds => fun ρ => match T d ρ with
    | some (.nx ρ') => forGo T ds ρ'
    | some (.ct ρ') => forGo T ds ρ'
    | some (.bk ρ') => some (.nx ρ')
    | some (.rt d) => some (.rt d)
    | none => none
def turnG (set : D → Rho → Option Rho) (g : Gs) : D → Rho → Option Fl := fun d ρ => b1 (set d ρ) g
def forG (fi : Fs) (set : D → Rho → Option Rho) (g : Gs) : Gs := fun ρ => b1 (fi ρ) fun ds => forGo (turnG set g) ds ρ
def whlGo (c : Ft) (g : Gs) : Nat → Gs
  | 0 => fun _ => none
  | n + 1 => fun ρ => b1 (c (shw ρ)) fun b => if b = true then match g ρ with
    | some (.nx ρ') => whlGo c g n ρ'
    | some (.ct ρ') => whlGo c g n ρ'
    | some (.bk ρ') => some (.nx ρ')
    | some (.rt d) => some (.rt d)
    | none => none
    else some (.nx ρ)

section
variable {X : Cx} {Hs0 H0 : Hp} {e a b c tg iter o : Expr} {es : List Expr} {st : Stmt} {rest body : List Stmt} {f : F} {fs fi : Fs} {ft : Ft} {g g1 g2 : Gs} {pos p2 p3 apos : Pos}
theorem pg_nil : PSs X [] (tS X.K Hs0 H0 nilG) := pss_imp pss_nil fun Dn σ H ⟨Hs, ρ, fl, S, e, k⟩ => by cases e; exact k _ _ _ S (Same.refl _)
theorem pg_cons (h1 : PS X st (tS X.K Hs0 H0 g1)) (h2 : PSs X rest (tS X.K Hs0 H0 g2)) : PSs X (st :: rest) (tS X.K Hs0 H0 (seqG g1 g2)) := by
  refine pss_imp (pss_cons h1 h2) fun Dn σ H ⟨Hs, ρ, fl, S, e, k⟩ => ?_
  have e' : (match g1 ρ with | some (.nx ρ') => g2 ρ' | o => o) = some fl := e
  cases q : g1 ρ with
  | none => rw [q] at e'; cases e'
  | some f1 =>
    rw [q] at e'
    refine ⟨Hs, ρ, f1, S, q, ?_⟩
    cases f1 with
    | nx ρ' => exact fun σ' H' Hs' S' s' => ⟨Hs', ρ', fl, S', e', k.base s'⟩
    | bk ρ' => cases e'; exact k
    | ct ρ' => cases e'; exact k
    | rt d => cases e'; exact k
theorem pg_one (h1 : PS X st (tS X.K Hs0 H0 g1)) : PSs X [st] (tS X.K Hs0 H0 g1) := pss_one h1
theorem pg_ret (he : PE X e (tD X.K f)) : PS X (.Return (some e) pos) (tS X.K Hs0 H0 (retG f)) := by
  refine ps_imp (ps_ret he) fun Dn σ H ⟨Hs, ρ, fl, S, e, k⟩ => ?_
  obtain ⟨d, e1, e2⟩ := b1_eq e
  cases e2
  obtain ⟨Hs', _, s1, s2, x, env⟩ := S.show_
  exact ⟨Hs', _, d, s2, env, e1, fun v H' Hs2 x2 r => k v H' Hs2 (x.trans x2) r⟩
theorem pg_retN : PS X (.Return none pos) (tS X.K Hs0 H0 retN) := ps_imp ps_retN fun Dn σ H ⟨Hs, ρ, fl, S, e, k⟩ => by cases e; exact k _ _ _ S.ext .non
theorem pg_if {tb : List Stmt} (hc : PT X c (tDT X.K ft)) (h1 : PSs X body (tS X.K Hs0 H0 g1)) (h2 : PSs X tb (tS X.K Hs0 H0 g2)) : PS X (.If c body tb pos) (tS X.K Hs0 H0 (ifG ft g1 g2)) := by
  refine ps_imp (ps_if hc h1 h2) fun Dn σ H ⟨Hs, ρ, fl, S, e, k⟩ => ?_
  obtain ⟨b, e1, e2⟩ := b1_eq e
  obtain ⟨Hs', _, s1, s2, x, env⟩ := S.show_
  refine ⟨Hs', _, b, s2, env, e1, fun H' x2 => ?_⟩
  cases b with
  | true => exact iteT ⟨Hs, ρ, fl, S.side x2, e2, k⟩
  | false => exact iteF ⟨Hs, ρ, fl, S.side x2, e2, k⟩
/-- an expression's value where a def fills lists -/
theorem ev_run (S : SEnv X.K Hs0 H0 Hs H σ ρ) {d : D} (e : evG f ρ = some d) {Q : VK} (k : ∀ v H' Hs', Ext Hs H Hs' H' → Rp X.K Hs' v d → Q v H') : tD X.K f σ H Q := by
  unfold evG at e
  cases q : f ρ with
  | some d' => rw [q] at e; cases e; exact ⟨Hs, ρ, _, S.sub, S.env, q, k⟩
  | none =>
    rw [q] at e
    cases q2 : f (shw ρ) with
    | none => rw [q2] at e; cases e
    | some d' =>
      rw [q2] at e
      have e' : (if D.sca d' = true then some d' else none) = some d := e
      obtain ⟨h1, h2⟩ := ite_some e'
      cases h2
      obtain ⟨Hs', _, s1, s2, x, env⟩ := S.show_
      refine ⟨Hs', _, _, s2, env, q2, fun v H' Hs2 x2 r => k v H' Hs (Ext.side S.sub x2.all) ?_⟩
      cases r with
      | non => exact .non
      | bool _ => exact .bool _
      | int _ => exact .int _
      | str _ => exact .str _
      | _ => exact absurd h1 Bool.false_ne_true
theorem pg_set {gt : TG} {set : D → Rho → Option Rho} {vs : List Nat} (T : TgD X.K gt set vs) (he : PE X e (tD X.K f)) (hg : PG X tg gt) (hs : swapsWithSole [tg] e pos.line X.env = pure false := by rfl) (hw : swappedStores [tg] e X.env = pure none := by rfl)
    (hv : ∀ d ρ ρ' i ds, set d ρ = some ρ' → i ∈ vs → ρ'[i]? ≠ some (.own ds)) (h1 : (assignEach [tg] X.env).map (·.2) = [assign tg X.env] := by rfl) : PS X (.Assign [tg] e pos) (tS X.K Hs0 H0 (asgG set f)) := by
  refine ps_imp (ps_asg he hg hs hw h1) fun Dn σ H ⟨Hs, ρ, fl, S, e, k⟩ => ?_
  obtain ⟨d, e1, e2⟩ := b1_eq e
  obtain ⟨ρ', e3, e4⟩ := b1_eq e2
  cases e4
  refine ev_run S e1 fun v H' Hs' x r => ?_
  have S' := S.more x
  exact T.run Hs' H' σ ρ d ρ' v _ x.sub S'.env e3 r fun σ' env' hl hk => k _ _ Hs' (S'.puts T e3 env' hk fun i ds hi => hv d ρ ρ' i ds e3 hi) x.part
theorem hv_1 (i : Nat) : ∀ d ρ ρ' j ds, st1 i d ρ = some ρ' → j ∈ [i] → ρ'[j]? ≠ some (.own ds) := fun d ρ ρ' j ds e hj h => by
  cases e
  have hj' : j = i := by simpa using hj
  subst hj'
  by_cases hl : j < ρ.length
  · rw [List.getElem?_set_self hl] at h; cases h
  · rw [List.getElem?_eq_none (by simpa using hl)] at h; cases h
theorem set_val_self {ρ : Rho} {i : Nat} {d : D} {ds : List D} : (ρ.set i (.val d))[i]? ≠ some (.own ds) := fun h => by
  by_cases hl : i < ρ.length
  · rw [List.getElem?_set_self hl] at h; cases h
  · rw [List.getElem?_eq_none (by simpa using hl)] at h; cases h
theorem set_val_no {ρ : Rho} {i j : Nat} {d : D} {ds : List D} (n : ρ[j]? ≠ some (.own ds)) : (ρ.set i (.val d))[j]? ≠ some (.own ds) := fun h => by
  by_cases hij : j = i
  · subst hij; exact set_val_self h
  · rw [get_set_ne' hij] at h; exact n h
theorem hv_2 (i j : Nat) : ∀ d ρ ρ' m ds, st2 i j d ρ = some ρ' → m ∈ [i, j] → ρ'[m]? ≠ some (.own ds) := fun d ρ ρ' m ds e hm => by
  unfold st2 at e
  split at e
  · cases e
    simp only [List.mem_cons, List.not_mem_nil, or_false] at hm
    rcases hm with rfl | rfl
    · exact set_val_no set_val_self
    · exact set_val_self
  · cases e
theorem hv_3 (i j l : Nat) : ∀ d ρ ρ' m ds, st3 i j l d ρ = some ρ' → m ∈ [i, j, l] → ρ'[m]? ≠ some (.own ds) := fun d ρ ρ' m ds e hm => by
  unfold st3 at e
  split at e
  · cases e
    simp only [List.mem_cons, List.not_mem_nil, or_false] at hm
    rcases hm with rfl | rfl | rfl
    · exact set_val_no (set_val_no set_val_self)
    · exact set_val_no set_val_self
    · exact set_val_self
  · cases e
theorem pg_asg (i : Nat) {x : Str} {pos' : Pos} (hN : X.N.Nodup) (he : PE X e (tD X.K f)) (hi : X.N[i]? = some x := by rfl) (hx : Loc X.env.scope x := by exact .inl rfl) (hf : X.fn x = true ∨ X.env.scope.names.lookup x = some .local := by first | exact .inl rfl | exact .inr rfl)
    (hs : swapsWithSole [.Name x pos'] e pos.line X.env = pure false := by rfl) (hw : swappedStores [.Name x pos'] e X.env = pure none := by rfl) :
    PS X (.Assign [.Name x pos'] e pos) (tS X.K Hs0 H0 (asgG (st1 i) f)) := pg_set (tg_1 i) he (pg_name hN hi hx hf) hs hw (hv_1 i)
/-- x = [..], a list that the def fills -/
theorem pg_new (i : Nat) {x : Str} {pos' : Pos} (hN : X.N.Nodup) (ha : PA X es (tDs X.K fs)) (hi : X.N[i]? = some x := by rfl) (hx : Loc X.env.scope x := by exact .inl rfl) (hf : X.fn x = true ∨ X.env.scope.names.lookup x = some .local := by first | exact .inl rfl | exact .inr rfl)
    (hs : swapsWith (.List es p2) (some (.Name x pos')) pos.line X.env = pure false := by rfl) : PS X (.Assign [.Name x pos'] (.List es p2) pos) (tS X.K Hs0 H0 (newG i fs)) := by
  refine ps_imp (ps_set hN hi hx (pe_lst ha) hs hf) fun Dn σ H ⟨Hs, ρ, fl, S, e, k⟩ => ?_
  obtain ⟨ds, e1, e2⟩ := b1_eq e
  obtain ⟨hz, rfl⟩ := ite_some e2
  refine ⟨Hs, ρ, ds, S.sub, S.env, e1, fun vs H1 Hs1 x1 r1 => ⟨by rw [r1.len]; exact hz, fun p hp => ?_⟩⟩
  have S1 := S.more x1
  have sp : Same H1 (upd H1 p (.lst vs)) := (Ext.made (Same.refl H1) hp).all
  have S2 := S1.side sp
  have hp0 : Hs1 p = none := x1.sub.free hp
  refine k _ _ Hs1 ⟨S2.ext, paired_set trivial i S2.env, fun j ds' h => ?_, fun j l ds' es' a hjl h1 h2 h3 => ?_⟩ x1.part
  · by_cases hj : j = i
    · subst hj
      by_cases hl : j < ρ.length
      · rw [List.getElem?_set_self hl] at h
        cases h
        have hls : j < σ.length := by rw [Paired.length S.env]; exact hl
        exact ⟨p, vs, List.getElem?_set_self hls, upd_same, hp0, S1.ext.all.free hp, r1⟩
      · rw [List.getElem?_eq_none (by simpa using hl)] at h; cases h
    · rw [get_set_ne' hj] at h ⊢
      exact S2.own j ds' h
  · have fresh : ∀ (m : Nat) (es : List D), ρ[m]? = some (Sl.own es) → σ[m]? ≠ some (some (V.ref p)) := fun m es hm hq => by
      obtain ⟨a', vs', q1, q2, _⟩ := S1.own m es hm
      rw [hq] at q1
      cases q1
      rw [hp] at q2
      cases q2
    by_cases hj : j = i
    · subst hj
      have hl' : l ≠ j := fun z => hjl z.symm
      rw [get_set_ne' hl'] at h2 ⊢
      by_cases hl : j < σ.length
      · rw [List.getElem?_set_self hl] at h3
        cases h3
        exact fresh l es' h2
      · rw [List.getElem?_eq_none (by simpa using hl)] at h3; cases h3
    · by_cases hl : l = i
      · subst hl
        rw [get_set_ne' hj] at h1 h3
        intro q
        by_cases hll : l < σ.length
        · rw [List.getElem?_set_self hll] at q
          cases q
          exact fresh j ds' h1 h3
        · rw [List.getElem?_eq_none (by simpa using hll)] at q; cases q
      · rw [get_set_ne' hj] at h1 h3
        rw [get_set_ne' hl] at h2 ⊢
        exact S2.one j l ds' es' a hjl h1 h2 h3
theorem pg_drop (he : PE X e (tD X.K f)) (hs : swapsWith e none pos.line X.env = pure false := by rfl) : PS X (.Expr e pos) (tS X.K Hs0 H0 (dropG f)) := by
  refine ps_imp (ps_expr he hs) fun Dn σ H ⟨Hs, ρ, fl, S, e, k⟩ => ?_
  obtain ⟨d, e1, e2⟩ := b1_eq e
  cases e2
  obtain ⟨Hs', _, s1, s2, x, env⟩ := S.show_
  exact ⟨Hs', _, d, s2, env, e1, fun v H' Hs2 x2 r => k _ _ Hs (S.side x2.all) (Same.refl _)⟩
theorem pg_doc {x : Str} {j p} : PS X (.Expr (.Constant (.str x) j p) pos) (tS X.K Hs0 H0 nilG) := ps_imp ps_doc fun Dn σ H ⟨Hs, ρ, fl, S, e, k⟩ => by cases e; exact k _ _ _ S (Same.refl _)
theorem pg_pass : PS X (.Pass pos) (tS X.K Hs0 H0 nilG) := ps_imp ps_pass fun Dn σ H ⟨Hs, ρ, fl, S, e, k⟩ => by cases e; exact k _ _ _ S (Same.refl _)
theorem pg_break : PS X (.Break pos) (tS X.K Hs0 H0 brkG) := ps_imp ps_break fun Dn σ H ⟨Hs, ρ, fl, S, e, k⟩ => by cases e; exact k _ _ _ S (Same.refl _)
theorem pg_cont : PS X (.Continue pos) (tS X.K Hs0 H0 cntG) := ps_imp ps_continue fun Dn σ H ⟨Hs, ρ, fl, S, e, k⟩ => by cases e; exact k _ _ _ S (Same.refl _)
/-- a filled list's object is changed -/
theorem SEnv.write {Hs H : Hp} {σ : St} {ρ : Rho} (S : SEnv X.K Hs0 H0 Hs H σ ρ) {i : Nat} {ds ds' : List D} {a : Addr} {vs' : List V} (h : ρ[i]? = some (.own ds)) (ha : σ[i]? = some (some (.ref a))) (r : RpA X.K Hs vs' ds') :
    SEnv X.K Hs0 H0 Hs (upd H a (.lst vs')) σ (ρ.set i (.own ds')) := by
  obtain ⟨a', vs, q1, q2, q3, q4, q5⟩ := S.own i ds h
  rw [q1] at ha
  cases ha
  have sub : Same Hs (upd H a (.lst vs')) := fun b u hb => by
    rw [upd_ne (fun z => by subst z; rw [q3] at hb; cases hb)]
    exact S.sub _ _ hb
  have al : Same H0 (upd H a (.lst vs')) := fun b u hb => by
    rw [upd_ne (fun z => by subst z; rw [q4] at hb; cases hb)]
    exact S.ext.all _ _ hb
  have env : VEnv X.K Hs σ (ρ.set i (.own ds')) := by
    have e := paired_set (a := some (V.ref a)) (b := Sl.own ds') (F := VOk X.K Hs) trivial i S.env
    have e2 : σ.set i (some (V.ref a)) = σ := by
      refine List.ext_getElem? fun j => ?_
      by_cases hj : j = i
      · subst hj
        by_cases hl : j < σ.length
        · rw [List.getElem?_set_self hl, q1]
        · rw [List.getElem?_eq_none (by simpa using hl), List.getElem?_eq_none (by simpa using hl)]
      · rw [get_set_ne' hj]
    rw [e2] at e
    exact e
  refine ⟨⟨al, S.ext.part, sub, S.ext.new⟩, env, fun j es hj => ?_, fun j l es es' b hjl h1 h2 h3 => ?_⟩
  · by_cases hji : j = i
    · subst hji
      by_cases hl : j < ρ.length
      · rw [List.getElem?_set_self hl] at hj
        cases hj
        exact ⟨a, vs', q1, upd_same, q3, q4, r⟩
      · rw [List.getElem?_eq_none (by simpa using hl)] at hj; cases hj
    · rw [get_set_ne' hji] at hj
      obtain ⟨b, us, w1, w2, w3, w4, w5⟩ := S.own j es hj
      have nb : b ≠ a := fun z => by
        subst z
        exact S.one j i es ds _ hji hj h w1 q1
      exact ⟨b, us, w1, by rw [upd_ne nb]; exact w2, w3, w4, w5⟩
  · have back : ∀ (m : Nat) (es : List D), (ρ.set i (Sl.own ds'))[m]? = some (Sl.own es) → ∃ es' : List D, ρ[m]? = some (Sl.own es') := fun m es hm => by
      by_cases hmi : m = i
      · subst hmi; exact ⟨ds, h⟩
      · rw [get_set_ne' hmi] at hm; exact ⟨es, hm⟩
    obtain ⟨_, z1⟩ := back j es h1
    obtain ⟨_, z2⟩ := back l es' h2
    exact S.one j l _ _ b hjl z1 z2 h3
theorem pg_app (i : Nat) {x : Str} {cpos p1 : Pos} (he : PE X e (tD X.K f)) (hi : X.N[i]? = some x := by rfl) (hx : Vis X.env.scope x := by exact .inl rfl) (hd : (x == ("__debug__" : Str)) = false := by decide) (hcd : (x == ("__classdict__" : Str)) = false := by decide)
    (hbase : attributeBase (.Name x p1) "append" X.env (eval (.Name x p1) X.env) = eval (.Name x p1) X.env := by rfl)
    (hfew : ((backTo cpos (starEach [e] X.env)).all (fun x => !x.1) && (backToKw cpos (keywordEach [] X.env)).all (fun x => x.1.isSome) && decide ([e].length + ([] : List Keyword).length + (if ([] : List Keyword).isEmpty then 0 else 1) < 30)) = true := by rfl)
    (hline : (apos.endLine == cpos.line) = true := by rfl) (hs : starEach [e] X.env = (false, eval e X.env) :: starEach [] X.env := by rfl) (hplain : (backTo cpos (starEach [] X.env)).any (·.1) = false := by rfl)
    (hsw : swapsWith (.Call (.Attribute (.Name x p1) "append" apos) [e] [] cpos) none pos.line X.env = pure false := by rfl) :
    PS X (.Expr (.Call (.Attribute (.Name x p1) "append" apos) [e] [] cpos) pos) (tS X.K Hs0 H0 (appG i f)) := by
  refine ps_imp (ps_expr (pe_bm PySem.F.plainAttrs_list PySem.F.slot_list_append PySem.F.type_list_append mt_append (pe_var hi hx hd hcd) (pa_cons he pa_nil hs) hbase hfew hline hs hplain) hsw) fun Dn σ H ⟨Hs, ρ, fl, S, e, k⟩ => ?_
  unfold appG at e
  cases q : ρ[i]? with
  | none => rw [q] at e; cases e
  | some sl =>
    rw [q] at e
    cases sl with
    | own ds =>
      obtain ⟨d, e1, e2⟩ := b1_eq e
      obtain ⟨hz, rfl⟩ := ite_some e2
      obtain ⟨a, vs, q1, q2, q3, q4, q5⟩ := S.own i ds q
      refine ⟨_, q1, .inl ⟨rfl, _, SqL.of q2⟩, ?_⟩
      refine ev_run S e1 fun v H' Hs' x r => ?_
      refine ⟨a, vs, v, rfl, rfl, x.all _ _ q2, by rw [q5.len]; exact hz, ?_⟩
      exact k _ _ Hs' ((S.more x).write q q1 ((q5.mono x.part).snoc r)) x.part
    | _ => cases e
theorem pg_for {gt : TG} {set : D → Rho → Option Rho} {vs : List Nat} (T : TgD X.K gt set vs) (hp : PassesOwn (model X.prog X.w) X.A X.env X.xe) (hc : X.calm = true) (hi : PI X tg iter (tDI X.K fi)) (hg : PG X tg gt) (hb : PSs X body (tS X.K Hs0 H0 g))
    (hv : ∀ d ρ ρ' i ds, set d ρ = some ρ' → i ∈ vs → ρ'[i]? ≠ some (.own ds)) (hs : ∀ x, foldedSetIterable iter X.env x = pure x := by intro _; rfl) : PS X (.For tg iter body [] pos) (tS X.K Hs0 H0 (forG fi set g)) := by
  refine ps_imp (ps_for hp hc hi hg hb hs) fun Dn σ H ⟨Hs, ρ, fl, S, e, k⟩ => ?_
  obtain ⟨ds, e1, e2⟩ := b1_eq e
  refine ⟨Hs, ρ, ds, S.sub, S.env, e1, fun J H1 Hs1 x1 wk => ?_⟩
  refine ⟨fun i m σ2 H2 => m = ds.length - i ∧ i ≤ ds.length ∧ ∃ Hs2 ρ2, SEnv X.K Hs0 H0 Hs2 H2 σ2 ρ2 ∧ Same Hs1 Hs2 ∧ forGo (turnG set g) (ds.drop i) ρ2 = some fl, ⟨_, rfl, Nat.zero_le _, Hs1, ρ, S.more x1, Same.refl _, by simpa using e2⟩, ?_⟩
  rintro i m σ2 H2 ⟨rfl, hi2, Hs2, ρ2, S2, s2, e3⟩
  by_cases hlt : i < ds.length
  · obtain ⟨d0, hd0⟩ : ∃ d0, ds[i]? = some d0 := ⟨ds[i], by simp [hlt]⟩
    have hdrop : ds.drop i = d0 :: ds.drop (i + 1) := by
      rw [List.drop_eq_getElem_cons hlt]
      rw [List.getElem?_eq_getElem hlt] at hd0
      cases hd0
      rfl
    rw [hdrop] at e3
    refine .inr ⟨wk.go i H2 (s2.trans S2.sub) hlt, fun σ3 H3 => ∃ Hs3 ρ3, SEnv X.K Hs0 H0 Hs3 H3 σ3 ρ3 ∧ Same Hs1 Hs3 ∧ forGo (turnG set g) (ds.drop (i + 1)) ρ3 = some fl, fun σ' H' h => ⟨_, by omega, rfl, hlt, h⟩, fun x H3 hy => ?_⟩
    obtain ⟨Hs3, x3, r3⟩ := wk.yld i H2 Hs2 x H3 s2 S2.sub hy d0 hd0
    have S3 := S2.more x3
    have e4 : (match turnG set g d0 ρ2 with
      | some (.nx ρ') => forGo (turnG set g) (ds.drop (i + 1)) ρ'
      | some (.ct ρ') => forGo (turnG set g) (ds.drop (i + 1)) ρ'
      | some (.bk ρ') => some (.nx ρ')
      | some (.rt d) => some (.rt d)
      | none => none) = some fl := e3
    cases q : turnG set g d0 ρ2 with
    | none => rw [q] at e4; cases e4
    | some f1 =>
      rw [q] at e4
      obtain ⟨ρ', g1, g2⟩ := b1_eq q
      refine T.run Hs3 H3 σ2 ρ2 d0 ρ' x _ x3.sub S3.env g1 r3 fun σ' env' hl hk => ?_
      have S4 := S3.puts T g1 env' hk fun i ds hi => hv d0 ρ2 ρ' i ds g1 hi
      refine ⟨Hs3, ρ', f1, S4, g2, ?_⟩
      have s3 : Same Hs1 Hs3 := s2.trans x3.part
      cases f1 with
      | nx ρ5 => exact fun σ5 H5 Hs5 S5 s5 => ⟨_, _, S5, s3.trans s5, e4⟩
      | ct ρ5 => exact fun σ5 H5 Hs5 S5 s5 => ⟨_, _, S5, s3.trans s5, e4⟩
      | bk ρ5 => cases e4; exact fun σ5 H5 Hs5 S5 s5 => k σ5 H5 Hs5 S5 (x1.part.trans (s3.trans s5))
      | rt d => cases e4; exact k
  · have e5 : i = ds.length := by omega
    subst e5
    rw [List.drop_length] at e3
    cases e3
    exact .inl ⟨wk.stop _ H2 (s2.trans S2.sub) (Nat.le_refl _), k _ _ _ S2 (x1.part.trans s2)⟩
end
end Pd

/-! Pd5: defs and calls. -/
namespace Pd
open PySem PySem.Spec L2 SkE
open PyProof.Rows hiding St

/-- a def that is a function of data -/
def spD (K : PySem.W.Frag) (fh : List D → Option D) : Sp := fun vs H Q _ => ∃ (Hs : Hp) (ds : List D) (d : D), Same Hs H ∧ RpA K Hs vs ds ∧ fh ds = some d ∧ ∀ v H' Hs', Ext Hs H Hs' H' → Rp K Hs' v d → Q v H'
def rho0 (N : List Str) (ds : List D) : Rho := ds.map Sl.val ++ List.replicate (N.length - ds.length) .junk
def runG (g : Gs) (N : List Str) (ds : List D) : Option D := match g (rho0 N ds) with
  | some (.rt d) => some d
  | some (.nx _) => some .non
  | _ => none
theorem vals_env {K : PySem.W.Frag} {H : Hp} (n : Nat) : ∀ {ds : List D} {vs : List V}, RpA K H vs ds → VEnv K H (vs.map some ++ List.replicate n none) (ds.map Sl.val ++ List.replicate n .junk)
  | [], _, h => by
    cases h
    show Paired _ (List.replicate n none) (List.replicate n Sl.junk)
    induction n with
    | zero => exact .nil
    | succ n ih => rw [List.replicate_succ, List.replicate_succ]; exact .cons trivial ih
  | d :: ds, _, h => by
    cases h with
    | cons h1 h2 => exact .cons ⟨_, rfl, h1⟩ (vals_env n h2)
theorem rho0_no {N : List Str} {ds : List D} {i : Nat} {es : List D} : (rho0 N ds)[i]? ≠ some (.own es) := fun h => by
  unfold rho0 at h
  rw [List.getElem?_append] at h
  split at h
  · rw [List.getElem?_map] at h
    cases q : ds[i]? with
    | none => rw [q] at h; cases h
    | some d => rw [q] at h; cases h
  · rw [List.getElem?_replicate] at h
    split at h <;> cases h
section
variable {P : Program} {w : World} {K : PySem.W.Frag} {mg : Str → Option Value} {base : Heap}
theorem enter {Hs H : Hp} {N : List Str} {vs : List V} {ds : List D} {g : Gs} {d : D} {Q : VK} (s : Same Hs H) (r : RpA K Hs vs ds) (hl : runG g N ds = some d) (k : ∀ v H' Hs', Ext Hs H Hs' H' → Rp K Hs' v d → Q v H') :
    tS K Hs H g { nx := fun _ H' => Q .non H', rt := Q } (L2.start N vs) H := by
  have S : SEnv K Hs H Hs H (L2.start N vs) (rho0 N ds) := by
    refine ⟨Ext.refl s, ?_, fun i es h => absurd h rho0_no, fun i j es es' a _ h => absurd h rho0_no⟩
    unfold L2.start rho0
    rw [r.len]
    exact vals_env _ r
  unfold runG at hl
  cases q : g (rho0 N ds) with
  | none => rw [q] at hl; cases hl
  | some fl =>
    rw [q] at hl
    refine ⟨Hs, rho0 N ds, fl, S, q, ?_⟩
    cases fl with
    | nx ρ => cases hl; exact fun σ' H' Hs' S' _ => k _ _ Hs' S'.ext .non
    | rt d' => cases hl; exact fun v H' Hs' x r' => k v H' Hs' x r'
    | bk _ => cases hl
    | ct _ => cases hl
theorem okD {x qual : Str} {st : Stmt} {f : Addr} {fd : FuncData} {N ps : List Str} {k : Nat} {fh : List D → Option D} {g : Gs} (Fn : Fun K x qual st f fd) (S : FnScope N ps (defScope st))
    (body : ∀ (cdv : Value) (A : Around) (outer : List Env) (s : Shared) (H : Hp) (E : XK) (Hs : Hp), Room k (A.deeper (envOfC qual (defScope st) s.heap.objs.size f cdv)) → PSs (cxOf CX0 P w K mg base N qual (defScope st) f cdv A outer s H E).nox (defBody st) (tS K Hs H g))
    (hg : ∀ ds d, fh ds = some d → ds.length = ps.length ∧ runG g N ds = some d) : FnOk P w K mg base CX0 (k + 1) f fd ps (spD K fh) := by
  refine Fn.ok S (fun vs H Q E h => ?_) (fun cdv A outer s H vs Q E hr h => ?_)
  · obtain ⟨Hs, ds, d, _, r, e, _⟩ := h
    rw [r.len]
    exact (hg ds d e).1
  · obtain ⟨Hs, ds, d, s1, r, e, kk⟩ := h
    exact ⟨_, body cdv A outer s H E Hs hr, enter s1 r (hg ds d e).2 kk⟩
end
section
variable {X : Cx} {e a b c tg iter o : Expr} {es : List Expr} {f : F} {fs fi : Fs} {pos p : Pos} {x : Str} {k : Nat} {fa : Addr} {fd : FuncData} {ps : List Str} {fh : List D → Option D}
theorem pd_call (Fn : FnOk X.prog X.w X.K X.mg X.base CX0 k fa fd ps (spD X.K fh)) (hr : Room k X.A) (hm : X.mg x = some (.ref fa)) (hk : PySem.W.keepIn X.K (.ref fa) = true) (hb : Binds X.K fd ps []) (ha : PA X (e :: es) (tDs X.K fs)) (hg : Gl X x := by rfl)
    (hdb : (x == ("__debug__" : Str)) = false := by decide) (he : starEach (e :: es) X.env = (false, eval e X.env) :: starEach es X.env := by rfl) (hpl : (backTo pos (starEach es X.env)).any (·.1) = false := by rfl) :
    PE X (.Call (.Name x p) (e :: es) [] pos) (tD X.K (fL fh fs)) := by
  refine pe_imp (pe_call (E := E0) Fn hr hg hm hk hb .nil pass0 ha hdb he hpl) fun σ H Q ⟨Hs, ρ, d, s, env, e, k⟩ => ?_
  obtain ⟨ds, e1, e2⟩ := b1_eq e
  refine ⟨Hs, ρ, ds, s, env, e1, fun vs H1 Hs1 x1 r1 => ?_⟩
  show spD X.K fh (vs ++ []) H1 Q E0
  rw [List.append_nil]
  exact ⟨Hs1, ds, d, x1.sub, r1, e2, fun v H' Hs' x2 r2 => k v H' Hs' (x1.trans x2) r2⟩
theorem pd_call0 (Fn : FnOk X.prog X.w X.K X.mg X.base CX0 k fa fd ps (spD X.K fh)) (hr : Room k X.A) (hm : X.mg x = some (.ref fa)) (hk : PySem.W.keepIn X.K (.ref fa) = true) (hb : Binds X.K fd ps []) (hg : Gl X x := by rfl)
    (hdb : (x == ("__debug__" : Str)) = false := by decide) : PE X (.Call (.Name x p) [] [] pos) (tD X.K (fL fh fNil)) := by
  refine pe_imp (pe_call0 (E := E0) Fn hr hg hm hk hb .nil pass0 hdb) fun σ H Q ⟨Hs, ρ, d, s, env, e, k⟩ => ?_
  exact ⟨Hs, [], d, s, .nil, e, k⟩
end
/-- a def of the text as the top has left it, with what its call wants -/
structure Df (P : Program) (w : World) (K : PySem.W.Frag) (mg : Str → Option Value) (base : Heap) (k : Nat) (x : Str) (ps : List Str) (fh : List D → Option D) : Prop where
  ex : ∃ (fa : Addr) (fd : FuncData), FnOk P w K mg base CX0 k fa fd ps (spD K fh) ∧ mg x = some (.ref fa) ∧ PySem.W.keepIn K (.ref fa) = true ∧ Binds K fd ps []
section
variable {X : Cx} {e : Expr} {es : List Expr} {fs : Fs} {pos p : Pos} {x : Str} {k : Nat} {ps : List Str} {fh : List D → Option D}
theorem pd_df (C : Df X.prog X.w X.K X.mg X.base k x ps fh) (hr : Room k X.A) (ha : PA X (e :: es) (tDs X.K fs)) (hg : Gl X x := by rfl)
    (hdb : (x == ("__debug__" : Str)) = false := by decide) (he : starEach (e :: es) X.env = (false, eval e X.env) :: starEach es X.env := by rfl) (hpl : (backTo pos (starEach es X.env)).any (·.1) = false := by rfl) :
    PE X (.Call (.Name x p) (e :: es) [] pos) (tD X.K (fL fh fs)) := by
  obtain ⟨fa, fd, h1, h2, h3, h4⟩ := C.ex
  exact pd_call h1 hr h2 h3 h4 ha hg hdb he hpl
theorem pd_df0 (C : Df X.prog X.w X.K X.mg X.base k x ps fh) (hr : Room k X.A) (hg : Gl X x := by rfl) (hdb : (x == ("__debug__" : Str)) = false := by decide) : PE X (.Call (.Name x p) [] [] pos) (tD X.K (fL fh fNil)) := by
  obtain ⟨fa, fd, h1, h2, h3, h4⟩ := C.ex
  exact pd_call0 h1 hr h2 h3 h4 hg hdb
end
/-- the law's own promise -/
theorem law_sp {K : PySem.W.Frag} {fh : List D → Option D} (h : ∀ ns : List Int, ns.length ≤ 63 → fh [.scr ns] = some (.bool true)) (H : Hp) (a : Addr) (ns : List Int) (hl : ns.length ≤ 63) (hS : SqL K H a (ns.map V.int)) : spD K fh [.ref a] H (fun v _ => v = .bl true) fun _ _ _ => False :=
  ⟨H, [.scr ns], .bool true, Same.refl _, .cons (.scr hS) .nil, h ns hl, fun v H' Hs' _ r => by cases r; rfl⟩
end Pd
namespace Pd
open PySem PySem.Spec L2 SkE
open PyProof.Rows hiding St
def gTupD (ds : List D) : Option D := if ds.length ≤ sizeLine then some (.tup ds) else none
def gLstD (ds : List D) : Option D := if ds.length ≤ sizeLine then some (.lst ds) else none
/-- a def's function -/
def dF (n : Nat) (N : List Str) (g : Gs) (ds : List D) : Option D := if ds.length = n then runG g N ds else none
theorem dF_ok {ps N : List Str} {g : Gs} : ∀ ds d, dF ps.length N g ds = some d → ds.length = ps.length ∧ runG g N ds = some d := fun ds d h => by
  unfold dF at h
  by_cases hl : ds.length = ps.length
  · rw [if_pos hl] at h; exact ⟨hl, h⟩
  · rw [if_neg hl] at h; cases h
theorem hu65 {A : Around} {k : Nat} (hr : Room k A) : A.units + 65 < cLine := Nat.lt_of_le_of_lt (Nat.add_le_add_left (show 65 ≤ 16 * k + 200 by omega) _) (by have := hr.un; omega)
def gNeg : D → Option D
  | .int i => some (.int (-i))
  | _ => none
theorem imp_neg {K : PySem.W.Frag} : Imp1 K (rU fun i => .int (-i)) gNeg := by
  intro H Hs x d o Q s rx g k
  cases rx <;> first | (cases g; exact ⟨_, rfl, k _ H Hs (Ext.refl s) (.int _)⟩) | exact nomatch g
/-- x = [.. for ..] on one line -/
theorem pg_asgLc {X : Cx} {Hs0 H0 : Hp} {tg elt iter : Expr} {ifs : List Expr} {fi : Fs} {fe : F} {ft : Ft} {pos spos : Pos} (i : Nat) {y : Str} {py : Pos} {scope : Scope} {own : List (Str × Nat)} {g : TG} {set : D → Rho → Option Rho} {tt : TT} (hc : X.calm = true) (hN : X.N.Nodup) (hi : PI X tg iter (tDI X.K fi)) (ok : BlkOk X.N X.env.scope scope own) (hg : TgD X.K g set (own.map (·.2)))
    (hpg : ∀ (s : Shared) (H : Hp) (C : Addr) (cl : List (Str × Addr)) (fp : List Addr), PG (X.blk s H scope (compEnvC scope cl C X.env) fp) tg g)
    (ht : ∀ σ H Q, tDT X.K ft σ H Q → tt σ H Q) (hpt : ∀ (s : Shared) (H : Hp) (C : Addr) (cl : List (Str × Addr)) (fp : List Addr), PTs (X.blk s H scope (compEnvC scope cl C X.env) fp) ifs tt)
    (hpe : ∀ (s : Shared) (H : Hp) (C : Addr) (cl : List (Str × Addr)) (fp : List Addr), PE (X.blk s H scope (compEnvC scope cl C X.env) fp) elt (tD X.K fe)) (hs : ∀ x, foldedSetIterable iter X.env x = pure x := by intro _; rfl)
    (hy : X.N[i]? = some y := by rfl) (hyl : X.env.scope.names.lookup y = some .local := by rfl) (hsw : swapsWith (.ListComp elt [⟨tg, iter, ifs, 0⟩] scope pos) (some (.Name y py)) spos.line X.env = pure true := by exact sw_true rfl rfl rfl (by decide +kernel)) :
    PS X (.Assign [.Name y py] (.ListComp elt [⟨tg, iter, ifs, 0⟩] scope pos) spos) (tS X.K Hs0 H0 (asgG (st1 i) (fLc fi set ft fe (own.map (·.2))))) := by
  refine ps_imp (ps_setLc (own := own) (g := g) (tt := tt) hc hN hy hyl hsw hi ok hpg hpt hpe hs) fun Dn σ H ⟨Hs, ρ, fl, S, e, k⟩ => ?_
  obtain ⟨d, e1, e2⟩ := b1_eq e
  cases e2
  refine lc_read (fun _ _ _ h => h) hg ht (fun _ _ _ h => h) _ _ _ (ev_run S e1 fun v H' Hs' x r => ?_)
  exact k _ _ Hs' ((S.more x).put r i) x.part
/-- isinstance(x, T), T a built-in class -/
def tyN : D → String
  | .non => "NoneType" | .bool _ => "bool" | .int _ => "int" | .str _ => "str" | .lst _ => "list" | .tup _ => "tuple" | .scr _ => "list"
def gIsi (T : String) (d : D) : Option D := (kitB (tyN d) T).map D.bool
theorem Rp.tyX {K : PySem.W.Frag} {H : Hp} {v : V} {d : D} (r : Rp K H v d) : TyX K H v (.type (tyN d)) := by
  cases r with
  | non => exact .base .non
  | bool _ => exact .base (.bl _)
  | int _ => exact .base (.int _)
  | str _ => exact .base (.str _)
  | lst h1 _ => exact .base (.lst h1)
  | tup h1 _ =>
    rcases h1 with (h | ⟨o, h⟩) | ⟨o, its, n, h, c, _⟩
    · exact .base (.tup h)
    · exact .fTuple h
    · exact .kTuple h c
  | scr h1 =>
    rcases h1 with (h | ⟨o, h⟩) | ⟨o, its, n, h, c, _⟩
    · exact .base (.lst h)
    · exact .base (.frz h)
    · exact .kList h c
theorem pd_isi {X : Cx} {e : Expr} {f : F} {pos p p2 : Pos} {T : Str} {t : String} (he : PE X e (tD X.K f)) (hm : X.mg "isinstance" = none) (hT : X.mg T = none) (hg : Gl X "isinstance" := by rfl) (hg2 : Gl X T := by rfl) (hv : bootBuiltins T = some (.type t) := by decide +kernel) (hn : T ≠ "__name__" := by decide) (hd : (T == ("__debug__" : Str)) = false := by decide)
    (h1 : starEach [e, .Name T p2] X.env = (false, eval e X.env) :: starEach [.Name T p2] X.env := by rfl) (h2 : starEach [.Name T p2] X.env = (false, eval (.Name T p2) X.env) :: starEach [] X.env := by rfl) (hpl : (backTo pos (starEach [.Name T p2] X.env)).any (·.1) = false := by rfl) :
    PE X (.Call (.Name "isinstance" p) [e, .Name T p2] [] pos) (tD X.K (f1 (gIsi t) f)) := by
  refine pe_imp (pe_callB call_isi hg hm (by decide +kernel) (pa_cons he (pa_cons (pe_bltn (v := .ty t) hg2 hT hv rfl hn hd) pa_nil h2) h1) (by decide) (by decide) h1 hpl) fun σ H Q ⟨Hs, ρ, d, s, env, e, k⟩ => ?_
  obtain ⟨d1, e1, e2⟩ := b1_eq e
  refine ⟨Hs, ρ, d1, s, env, e1, fun v H1 Hs1 x1 r1 => ?_⟩
  unfold gIsi at e2
  cases q : kitB (tyN d1) t with
  | none => rw [q] at e2; cases e2
  | some b =>
    rw [q] at e2
    cases e2
    exact ⟨v, .ty t, .type (tyN d1), .type t, b, rfl, .ty t, (r1.mono x1.sub).tyX, kit_ty q, k _ H1 Hs1 x1 (.bool _)⟩
theorem pd_globI {X : Cx} {x : Str} {z : Int} {pos : Pos} (hm : ∃ t, X.mg x = some (.int z t)) (hg : Gl X x := by rfl) (hd : (x == ("__debug__" : Str)) = false := by decide) : PE X (.Name x pos) (tD X.K (fC (.int z))) := by
  obtain ⟨t, hm⟩ := hm
  exact pd_glob (v := .int z) hm ⟨t, rfl⟩ (fun _ => .int _) hg hd
theorem pd_globS {X : Cx} {x : Str} {z : Str} {pos : Pos} (hm : ∃ t, X.mg x = some (.str z t)) (hg : Gl X x := by rfl) (hd : (x == ("__debug__" : Str)) = false := by decide) : PE X (.Name x pos) (tD X.K (fC (.str z))) := by
  obtain ⟨t, hm⟩ := hm
  exact pd_glob (v := .str z) hm ⟨t, rfl⟩ (fun _ => .str _) hg hd
end Pd

/-! Pd6: what the functions of the slots are worth, step by step. -/
namespace Pd
open PySem PySem.Spec L2 SkE
open PyProof.Rows hiding St

section
variable {ρ : Rho} {f g h : F} {fs : Fs} {ft gt : Ft} {a b c d : D} {ds es : List D} {i j : Int} {x y : Bool}
theorem x_var {i : Nat} (h : ρ[i]? = some (.val d)) : fVar i ρ = some d := by unfold fVar; rw [h]
theorem x_C : fC d ρ = some d := rfl
theorem x_f1 {G : D → Option D} (h1 : f ρ = some a) (h2 : G a = some c) : f1 G f ρ = some c := by unfold f1; rw [h1]; exact h2
theorem x_f2 {G : D → D → Option D} (h1 : f ρ = some a) (h2 : g ρ = some b) (h3 : G a b = some c) : f2 G f g ρ = some c := by unfold f2; rw [h1, b1_some, h2]; exact h3
theorem x_nil : fNil ρ = some [] := rfl
theorem x_cons (h1 : f ρ = some a) (h2 : fs ρ = some ds) : fCons f fs ρ = some (a :: ds) := by unfold fCons; rw [h1, b1_some, h2]; rfl
theorem x_L {G : List D → Option D} (h1 : fs ρ = some ds) (h2 : G ds = some c) : fL G fs ρ = some c := by unfold fL; rw [h1]; exact h2
theorem x_M {G : D → List D → Option D} (h1 : f ρ = some a) (h2 : fs ρ = some ds) (h3 : G a ds = some c) : fM G f fs ρ = some c := by unfold fM; rw [h1, b1_some, h2]; exact h3
theorem x_I {G : D → Option (List D)} (h1 : f ρ = some a) (h2 : G a = some ds) : fI G f ρ = some ds := by unfold fI; rw [h1]; exact h2
theorem x_Is {G : List D → Option (List D)} (h1 : fs ρ = some es) (h2 : G es = some ds) : fIs G fs ρ = some ds := by unfold fIs; rw [h1]; exact h2
theorem x_no : foNo ρ = some none := rfl
theorem x_oE (h1 : f ρ = some (.int i)) : foE f ρ = some (some i) := by unfold foE; rw [h1]; rfl
theorem x_sl {l u : Fo} {lo hi : Option Int} (h1 : f ρ = some a) (h2 : l ρ = some lo) (h3 : u ρ = some hi) (h4 : gSl a lo hi = some c) : fSl f l u ρ = some c := by unfold fSl; rw [h1, b1_some, h2, b1_some, h3]; exact h4
theorem x_tV (h1 : f ρ = some a) (h2 : a.tru = some x) : ftV f ρ = some x := by unfold ftV; rw [h1]; exact h2
theorem x_tB (h1 : f ρ = some (.bool x)) : ftB f ρ = some x := by unfold ftB; rw [h1]; rfl
theorem x_tand (h1 : ft ρ = some x) (h2 : x = true → gt ρ = some y) : ftAnd ft gt ρ = some (x && y) := by
  unfold ftAnd
  rw [h1]
  cases x with
  | true => exact h2 rfl
  | false => rfl
theorem x_tor (h1 : ft ρ = some x) (h2 : x = false → gt ρ = some y) : ftOr ft gt ρ = some (x || y) := by
  unfold ftOr
  rw [h1]
  cases x with
  | true => rfl
  | false => exact h2 rfl
theorem x_tnot (h1 : ft ρ = some x) : ftNot ft ρ = some (!x) := by unfold ftNot; rw [h1]; rfl
theorem x_yes : ftYes ρ = some true := rfl
/-- and, or of truth values -/
theorem x_and (h1 : f ρ = some (.bool x)) (h2 : x = true → g ρ = some (.bool y)) : fAnd f g ρ = some (.bool (x && y)) := by
  unfold fAnd
  rw [h1]
  cases x with
  | true => exact h2 rfl
  | false => rfl
theorem x_or (h1 : f ρ = some (.bool x)) (h2 : x = false → g ρ = some (.bool y)) : fOr f g ρ = some (.bool (x || y)) := by
  unfold fOr
  rw [h1]
  cases x with
  | true => rfl
  | false => exact h2 rfl
theorem x_not (h1 : f ρ = some a) (h2 : a.tru = some x) : fNot f ρ = some (.bool (!x)) := by unfold fNot; rw [h1, b1_some, h2]; rfl
theorem x_if (h1 : ft ρ = some x) (h2 : x = true → f ρ = some a) (h3 : x = false → g ρ = some a) : fIf ft f g ρ = some a := by
  unfold fIf
  rw [h1]
  cases x with
  | true => exact h2 rfl
  | false => exact h3 rfl
theorem x_chain {G G' : D → D → Option D} (h1 : f ρ = some a) (h2 : g ρ = some b) (h3 : G a b = some (.bool x)) (h4 : x = true → h ρ = some c) (h5 : x = true → G' b c = some (.bool y)) : fChain G G' f g h ρ = some (.bool (x && y)) := by
  unfold fChain
  rw [h1, b1_some, h2, b1_some, h3, b1_some]
  cases x with
  | true =>
    show b1 (h ρ) _ = _
    rw [h4 rfl]
    exact h5 rfl
  | false => rfl
theorem x_lc {fi : Fs} {set : D → Rho → Option Rho} {vs : List Nat} (h1 : fi ρ = some ds) (hz : ds.length ≤ 1000000) (h2 : lcGo set ft f (wipeR ρ vs) ds = some es) : fLc fi set ft f vs ρ = some (.lst es) := by
  unfold fLc
  rw [h1, b1_some, if_pos hz, h2]
  rfl
/-- a comprehension: kept by p, its value by v -/
theorem x_lcGo {set : D → Rho → Option Rho} {α : Type} {inj : α → D} {p : α → Bool} {v : α → D} : ∀ {xs : List α}, (∀ z ∈ xs, ∃ ρ', set (inj z) ρ = some ρ' ∧ ft ρ' = some (p z) ∧ (p z = true → f ρ' = some (v z))) → lcGo set ft f ρ (xs.map inj) = some ((xs.filter p).map v)
  | [], _ => rfl
  | z :: xs, hz => by
    obtain ⟨ρ', h1, h2, h3⟩ := hz z List.mem_cons_self
    have ih := x_lcGo (xs := xs) fun w hw => hz w (List.mem_cons_of_mem _ hw)
    rw [List.map_cons]
    unfold lcGo
    rw [h1, b1_some, h2, b1_some]
    cases q : p z with
    | true =>
      rw [if_pos rfl, h3 q, b1_some, ih, b1_some, List.filter_cons_of_pos q, List.map_cons]
    | false =>
      rw [if_neg Bool.false_ne_true, ih, List.filter_cons_of_neg (by rw [q]; exact Bool.false_ne_true)]
/-! operations -/
theorem x_add : gAdd (.int i) (.int j) = some (.int (i + j)) := rfl
theorem x_addS {a b : Str} (h : a.length + b.length ≤ sizeLine) : gAdd (.str a) (.str b) = some (.str (a ++ b)) := if_pos h
theorem x_addL (h : ds.length + es.length ≤ sizeLine) : gAdd (.lst ds) (.lst es) = some (.lst (ds ++ es)) := if_pos h
theorem x_addT (h : ds.length + es.length ≤ sizeLine) : gAdd (.tup ds) (.tup es) = some (.tup (ds ++ es)) := if_pos h
theorem x_sub : gSub (.int i) (.int j) = some (.int (i - j)) := rfl
theorem x_mulL (h1 : -(2 ^ 64) < i) (h2 : i < 2 ^ 64) : gMul (.int i) (.int j) = some (.int (i * j)) := if_pos (.inl ⟨h1, h2⟩)
theorem x_mulR (h1 : -(2 ^ 64) < j) (h2 : j < 2 ^ 64) : gMul (.int i) (.int j) = some (.int (i * j)) := if_pos (.inr ⟨h1, h2⟩)
theorem x_div (h1 : 0 < j) (h2 : j < 1073741824) : gDiv (.int i) (.int j) = some (.int (i / j)) := if_pos ⟨h1, h2⟩
theorem x_mod (h1 : 0 < j) : gMod (.int i) (.int j) = some (.int (i % j)) := if_pos h1
theorem x_neg : gNeg (.int i) = some (.int (-i)) := rfl
theorem x_eqI : gEq (.int i) (.int j) = some (.bool (decide (i = j))) := rfl
theorem x_eqS {a b : Str} : gEq (.str a) (.str b) = some (.bool (decide (a = b))) := rfl
theorem x_eqB {a b : Bool} : gEq (.bool a) (.bool b) = some (.bool (decide (a = b))) := rfl
theorem x_neI : gNe (.int i) (.int j) = some (.bool (!decide (i = j))) := rfl
theorem x_neS {a b : Str} : gNe (.str a) (.str b) = some (.bool (!decide (a = b))) := rfl
theorem x_neB {a b : Bool} : gNe (.bool a) (.bool b) = some (.bool (!decide (a = b))) := rfl
theorem x_eqD (h1 : a.sc2 b = false) (h2 : SeqAt.shaped a.py = true) (h3 : SeqAt.shaped b.py = true) : gEq a b = some (.bool (PyData.eqv a.py b.py)) := by
  unfold gEq
  rw [h1, if_neg Bool.false_ne_true, h2, h3]
  rfl
theorem x_neD (h1 : a.sc2 b = false) (h2 : SeqAt.shaped a.py = true) (h3 : SeqAt.shaped b.py = true) : gNe a b = some (.bool (!PyData.eqv a.py b.py)) := by
  unfold gNe
  rw [h1, if_neg Bool.false_ne_true, h2, h3]
  rfl
theorem x_lt : gLt (.int i) (.int j) = some (.bool (decide (i < j))) := rfl
theorem x_le : gLe (.int i) (.int j) = some (.bool (decide (i ≤ j))) := rfl
theorem x_gt : gGt (.int i) (.int j) = some (.bool (decide (j < i))) := rfl
theorem x_ge : gGe (.int i) (.int j) = some (.bool (decide (j ≤ i))) := rfl
theorem x_ltS {a b : Str} : gLt (.str a) (.str b) = some (.bool (decide (a.cps.toList < b.cps.toList))) := rfl
theorem x_gtS {a b : Str} : gGt (.str a) (.str b) = some (.bool (decide (b.cps.toList < a.cps.toList))) := rfl
theorem x_inC {k : Nat} {z : Str} : gIn (.str ⟨#[k]⟩) (.str z) = some (.bool (decide (k ∈ z.cps.toList))) := rfl
theorem x_notInC {k : Nat} {z : Str} : gNotIn (.str ⟨#[k]⟩) (.str z) = some (.bool (!decide (k ∈ z.cps.toList))) := rfl
theorem x_lenS {z : Str} (h : z.length ≤ sizeLine) : gLen [.str z] = some (.int z.length) := if_pos h
theorem x_lenL : gLen [.lst ds] = some (.int ds.length) := rfl
theorem x_lenT : gLen [.tup ds] = some (.int ds.length) := rfl
theorem x_lenN {ns : List Int} : gLen [.scr ns] = some (.int ns.length) := rfl
theorem x_int : gInt [.int i] = some (.int i) := rfl
theorem x_intB {k : Bool} : gInt [.bool k] = some (.int (if k then 1 else 0)) := rfl
theorem x_intS {z : Str} (h1 : z.length ≤ 640) (h2 : PySem.intText? z = some i) : gInt [.str z] = some (.int i) := by
  show (if z.length ≤ 640 then (PySem.intText? z).map D.int else none) = _
  rw [if_pos h1, h2]
  rfl
theorem x_str (h : i.natAbs.log2 < 1920) : gStr [.int i] = some (.str (toString i)) := if_pos h
theorem x_strS {z : Str} : gStr [.str z] = some (.str z) := rfl
theorem x_abs : gAbs [.int i] = some (.int (if i < 0 then -i else i)) := rfl
theorem x_ixL (h : atI ds i = some a) : gIx (.lst ds) (.int i) = some a := h
theorem x_ixT (h : atI ds i = some a) : gIx (.tup ds) (.int i) = some a := h
theorem x_ixN {ns : List Int} {k : Int} (h : atI ns i = some k) : gIx (.scr ns) (.int i) = some (.int k) := by
  show (atI ns i).map D.int = _
  rw [h]
  rfl
theorem x_ixS {z : Str} {k : Nat} (hz : z.length ≤ sizeLine) (h : atI z.cps.toList i = some k) : gIx (.str z) (.int i) = some (.str ⟨#[k]⟩) := by
  show (if z.length ≤ sizeLine then (atI z.cps.toList i).map fun c => D.str ⟨#[c]⟩ else none) = _
  rw [if_pos hz, h]
  rfl
theorem x_tupD (h : ds.length ≤ sizeLine) : gTupD ds = some (.tup ds) := if_pos h
theorem x_lstD (h : ds.length ≤ sizeLine) : gLstD ds = some (.lst ds) := if_pos h
theorem x_R1' (h0 : 0 ≤ i) (h : i < 1000000000) : itR1 [.int i] = some (rngD 0 i.toNat) := by
  have hc : -(2 ^ 62) ≤ i ∧ i < 2 ^ 62 := ⟨by omega, by omega⟩
  unfold itR1
  exact if_pos hc
theorem x_R1 {n : Nat} (h : n < 1000000000) : itR1 [.int n] = some (rngD 0 n) := by
  have e := x_R1' (i := (n : Int)) (by omega) (by omega)
  rw [Int.toNat_natCast] at e
  exact e
theorem x_R2 (h1 : -1000000000 < i) (h2 : i < 1000000000) (h3 : -1000000000 < j) (h4 : j < 1000000000) : itR2 [.int i, .int j] = some (rngD i (j - i).toNat) := by
  have hc : -(2 ^ 62) ≤ i ∧ i < 2 ^ 62 ∧ -(2 ^ 62) ≤ j ∧ j < 2 ^ 62 := ⟨by omega, by omega, by omega, by omega⟩
  unfold itR2
  exact if_pos hc
theorem atI_n {α : Type} {xs : List α} {k : Nat} {a : α} (h : xs[k]? = some a) : atI xs (k : Int) = some a := by
  obtain ⟨hl, _⟩ := List.getElem?_eq_some_iff.mp h
  unfold atI ixN
  rw [if_pos (by omega), if_pos (by omega)]
  exact h
theorem atI_pos {α : Type} {xs : List α} {i : Int} {a : α} (h0 : 0 ≤ i) (h : xs[i.toNat]? = some a) : atI xs i = some a := by
  obtain ⟨k, rfl⟩ := Int.eq_ofNat_of_zero_le h0
  exact atI_n h
theorem x_splitM {a b : Str} (h1 : (b.length == 0) = false) (h2 : a.length + 2 ≤ sizeLine) : gSplit (.str a) [.str b] = some (.lst ((Txt.split a b).map D.str)) := if_pos ⟨h1, h2⟩
theorem x_partM {a b : Str} (h1 : (b.length == 0) = false) (h2 : a.length ≤ sizeLine) : gPartition (.str a) [.str b] = some (.tup [.str (Txt.partition a b).1, .str (Txt.partition a b).2.1, .str (Txt.partition a b).2.2]) := if_pos ⟨h1, h2⟩
theorem x_startsM {a b : Str} : gStarts (.str a) [.str b] = some (.bool (Txt.startswith a b)) := rfl
theorem x_endsM {a b : Str} : gEnds (.str a) [.str b] = some (.bool (Txt.endswith a b)) := rfl
theorem x_upperM {a : Str} (h : a.length ≤ 5592405) : gUpper (.str a) [] = some (.str (Txt.upper a)) := if_pos h
theorem x_joinL {a : Str} {ys : List Str} (h1 : D.strs? ds = some ys) (h2 : (ys.map (·.length)).sum + ys.length * a.length ≤ 16777216) : gJoin (.str a) [.lst ds] = some (.str (Txt.join a ys)) := by
  show b1 (D.strs? ds) _ = _
  rw [h1, b1_some, if_pos h2]
theorem x_truB : (D.bool x).tru = some x := rfl
theorem x_truL : (D.lst ds).tru = some (!ds.isEmpty) := rfl
theorem x_truT : (D.tup ds).tru = some (!ds.isEmpty) := rfl
theorem x_truI : (D.int i).tru = some (i != 0) := rfl
theorem x_truN : D.non.tru = some false := rfl
theorem x_truS {z : Str} (h : z.length ≤ sizeLine) : (D.str z).tru = some ((z.length : Int) != 0) := if_pos h
theorem x_isN0 : gIsN .non .non = some (.bool true) := rfl
theorem x_notN0 : gNotN .non .non = some (.bool false) := rfl
theorem x_isN1 (h : a.sc2 .non = true) (h2 : a.eqs .non = false) : gIsN a .non = some (.bool false) := by cases a <;> first | rfl | exact absurd h2 (by decide)
theorem x_isi {T : String} {b : Bool} (h : kitB (tyN a) T = some b) : gIsi T a = some (.bool b) := by unfold gIsi; rw [h]; rfl
end
theorem kit_bool : kitB "bool" "bool" = some true := by decide +kernel
theorem kit_int_bool : kitB "int" "bool" = some false := by decide +kernel
theorem kit_str : kitB "str" "str" = some true := by decide +kernel
theorem kit_list : kitB "list" "list" = some true := by decide +kernel
theorem kit_tuple : kitB "tuple" "tuple" = some true := by decide +kernel
theorem kit_int : kitB "int" "int" = some true := by decide +kernel
theorem kit_bool_int : kitB "bool" "int" = some true := by decide +kernel

/-! ### statements, by what is wanted of their end -/
def W (g : Gs) (ρ : Rho) (Q : Fl → Prop) : Prop := ∃ fl, g ρ = some fl ∧ Q fl
section
variable {ρ : Rho} {f : F} {fs fi : Fs} {ft : Ft} {g g1 g2 : Gs} {Q : Fl → Prop} {d : D} {ds : List D} {x : Bool}
theorem w_nil (h : Q (.nx ρ)) : W nilG ρ Q := ⟨_, rfl, h⟩
def sQ (g : Gs) (Q : Fl → Prop) : Fl → Prop
  | .nx ρ => W g ρ Q
  | fl => Q fl
theorem w_seq (h : W g1 ρ (sQ g2 Q)) : W (seqG g1 g2) ρ Q := by
  obtain ⟨fl, h1, h2⟩ := h
  unfold W seqG
  rw [h1]
  cases fl with
  | nx ρ' => exact h2
  | bk _ => exact ⟨_, rfl, h2⟩
  | ct _ => exact ⟨_, rfl, h2⟩
  | rt _ => exact ⟨_, rfl, h2⟩
theorem w_ret (h1 : f (shw ρ) = some d) (h : Q (.rt d)) : W (retG f) ρ Q := ⟨_, by unfold retG; rw [h1]; rfl, h⟩
theorem w_retN (h : Q (.rt .non)) : W retN ρ Q := ⟨_, rfl, h⟩
theorem w_if (h1 : ft (shw ρ) = some x) (h2 : x = true → W g1 ρ Q) (h3 : x = false → W g2 ρ Q) : W (ifG ft g1 g2) ρ Q := by
  unfold W ifG
  rw [h1]
  cases x with
  | true => exact h2 rfl
  | false => exact h3 rfl
theorem w_asg {i : Nat} (h1 : f ρ = some d) (h : Q (.nx (ρ.set i (.val d)))) : W (asgG (st1 i) f) ρ Q := ⟨_, by unfold asgG evG; rw [h1]; rfl, h⟩
theorem w_asgS {i : Nat} (h0 : f ρ = none) (h1 : f (shw ρ) = some d) (h2 : d.sca = true) (h : Q (.nx (ρ.set i (.val d)))) : W (asgG (st1 i) f) ρ Q := ⟨_, by unfold asgG evG; rw [h0, h1]; show b1 (if d.sca = true then some d else none) _ = _; rw [if_pos h2]; rfl, h⟩
theorem w_asg2 {i j : Nat} {a b : D} (h1 : f ρ = some (.tup [a, b])) (h : Q (.nx ((ρ.set i (.val a)).set j (.val b)))) : W (asgG (st2 i j) f) ρ Q := ⟨_, by unfold asgG evG; rw [h1]; rfl, h⟩
theorem w_asg3 {i j k : Nat} {a b c : D} (h1 : f ρ = some (.tup [a, b, c])) (h : Q (.nx (((ρ.set i (.val a)).set j (.val b)).set k (.val c)))) : W (asgG (st3 i j k) f) ρ Q := ⟨_, by unfold asgG evG; rw [h1]; rfl, h⟩
theorem w_new {i : Nat} (h1 : fs ρ = some ds) (hz : ds.length ≤ sizeLine) (h : Q (.nx (ρ.set i (.own ds)))) : W (newG i fs) ρ Q := ⟨_, by unfold newG; rw [h1, b1_some, if_pos hz], h⟩
theorem w_drop (h1 : f (shw ρ) = some d) (h : Q (.nx ρ)) : W (dropG f) ρ Q := ⟨_, by unfold dropG; rw [h1]; rfl, h⟩
theorem w_app {i : Nat} (h0 : ρ[i]? = some (.own ds)) (h1 : f ρ = some d) (hz : ds.length < sizeLine) (h : Q (.nx (ρ.set i (.own (ds ++ [d]))))) : W (appG i f) ρ Q := ⟨_, by unfold appG evG; rw [h0, h1]; show (if ds.length < sizeLine then _ else _) = _; rw [if_pos hz], h⟩
theorem w_brk (h : Q (.bk ρ)) : W brkG ρ Q := ⟨_, rfl, h⟩
theorem w_cnt (h : Q (.ct ρ)) : W cntG ρ Q := ⟨_, rfl, h⟩
/-- behind a turn: what goes on, what leaves the loop -/
def tQ (I : Rho → Prop) (Q : Fl → Prop) : Fl → Prop
  | .nx ρ => I ρ
  | .ct ρ => I ρ
  | .bk ρ => Q (.nx ρ)
  | .rt d => Q (.rt d)
/-- a loop by what holds ahead of each item -/
theorem w_for {set : D → Rho → Option Rho} (I : List D → Rho → Prop) (h1 : fi ρ = some ds) (h0 : I ds ρ)
    (hs : ∀ d rest ρ, I (d :: rest) ρ → ∃ ρ', set d ρ = some ρ' ∧ W g ρ' (tQ (I rest) Q)) (hd : ∀ ρ, I [] ρ → Q (.nx ρ)) : W (forG fi set g) ρ Q := by
  have key : ∀ (ds : List D) (ρ : Rho), I ds ρ → ∃ fl, forGo (turnG set g) ds ρ = some fl ∧ Q fl := by
    intro ds
    induction ds with
    | nil => exact fun ρ h => ⟨_, rfl, hd ρ h⟩
    | cons d rest ih =>
      intro ρ h
      obtain ⟨ρ', e1, fl, e2, q⟩ := hs d rest ρ h
      unfold forGo turnG
      rw [e1, b1_some, e2]
      cases fl with
      | nx ρ2 => exact ih ρ2 q
      | ct ρ2 => exact ih ρ2 q
      | bk ρ2 => exact ⟨_, rfl, q⟩
      | rt d2 => exact ⟨_, rfl, q⟩
  unfold W forG
  rw [h1]
  exact key ds ρ h0
end
/-- a def's value -/
def vQ (d : D) : Fl → Prop
  | .rt e => e = d
  | .nx _ => D.non = d
  | _ => False
theorem f_of {n : Nat} {N : List Str} {g : Gs} {ds : List D} {d : D} (hl : ds.length = n) (h : W g (rho0 N ds) (vQ d)) : dF n N g ds = some d := by
  obtain ⟨fl, h1, h2⟩ := h
  unfold dF runG
  rw [if_pos hl, h1]
  cases fl with
  | rt e => cases h2; rfl
  | nx _ => cases h2; rfl
  | bk _ => exact h2.elim
  | ct _ => exact h2.elim
def vP (P : D → Prop) : Fl → Prop
  | .rt e => P e
  | .nx _ => P .non
  | _ => False
theorem f_ex {n : Nat} {N : List Str} {g : Gs} {ds : List D} {P : D → Prop} (hl : ds.length = n) (h : W g (rho0 N ds) (vP P)) : ∃ d, dF n N g ds = some d ∧ P d := by
  obtain ⟨fl, h1, h2⟩ := h
  unfold dF runG
  rw [if_pos hl, h1]
  cases fl with
  | rt e => exact ⟨e, rfl, h2⟩
  | nx _ => exact ⟨.non, rfl, h2⟩
  | bk _ => exact h2.elim
  | ct _ => exact h2.elim
theorem starts_eq (x y : Str) : Txt.startswith x y = ((TL.tl x).take (TL.tl y).length == TL.tl y) := by
  unfold Txt.startswith
  rw [StrLaws.subAt_eq, List.drop_zero, Nat.zero_add, TL.len_tl, TL.len_tl]
  show (decide ((TL.tl y).length ≤ (TL.tl x).length) && ((TL.tl x).take (TL.tl y).length == TL.tl y)) = _
  by_cases h : (TL.tl y).length ≤ (TL.tl x).length
  · rw [decide_eq_true h, Bool.true_and]
  · rw [decide_eq_false h, Bool.false_and]
    symm
    rw [beq_eq_false_iff_ne]
    intro e
    have := congrArg List.length e
    rw [List.length_take] at this
    omega
/-! the first dash -/
def dash (l : List Nat) : Option (List Nat × List Nat) := match l with
  | [] => none
  | c :: r => if c = 45 then some ([], r) else (dash r).map fun p => (c :: p.1, p.2)
theorem dash_par : ∀ (l acc : List Nat), TL.par [45] acc l = (dash l).map fun p => (acc ++ p.1, p.2)
  | [], acc => rfl
  | c :: r, acc => by
    unfold TL.par dash
    by_cases h : c = 45
    · subst h
      rw [if_pos rfl, if_pos (by unfold TL.pre; simp)]
      simp
    · rw [if_neg h, if_neg (by unfold TL.pre; simp [h]), dash_par r (acc ++ [c])]
      cases dash r <;> simp
theorem dash_some : ∀ {l a b : List Nat}, dash l = some (a, b) → l = a ++ 45 :: b ∧ 45 ∉ a
  | [], _, _, h => by cases h
  | c :: r, a, b, h => by
    unfold dash at h
    by_cases hc : c = 45
    · rw [if_pos hc] at h
      cases h
      subst hc
      exact ⟨rfl, by simp⟩
    · rw [if_neg hc] at h
      cases q : dash r with
      | none => rw [q] at h; cases h
      | some p =>
        obtain ⟨a', b'⟩ := p
        rw [q] at h
        cases h
        obtain ⟨h1, h2⟩ := dash_some q
        exact ⟨by rw [h1]; rfl, by simp [h2]; omega⟩
theorem dash_none : ∀ {l : List Nat}, dash l = none → 45 ∉ l
  | [], _ => by simp
  | c :: r, h => by
    unfold dash at h
    by_cases hc : c = 45
    · rw [if_pos hc] at h; cases h
    · rw [if_neg hc] at h
      cases q : dash r with
      | none => simp [dash_none q]; omega
      | some p => rw [q] at h; cases h
theorem dash_app {a b : List Nat} (h : 45 ∉ a) : dash (a ++ 45 :: b) = some (a, b) := by
  induction a with
  | nil => rfl
  | cons c a ih =>
    have hc : c ≠ 45 := fun z => h (by simp [z])
    have ha : 45 ∉ a := fun z => h (by simp [z])
    show (if c = 45 then some ([], a ++ 45 :: b) else (dash (a ++ 45 :: b)).map fun p => (c :: p.1, p.2)) = _
    rw [if_neg hc, ih ha]
    rfl
theorem partition_dash (x : Str) : Txt.partition x "-" = match dash (TL.tl x) with
    | some (a, b) => (⟨a.toArray⟩, "-", ⟨b.toArray⟩)
    | none => (x, Str.empty, Str.empty) := by
  have e : TL.tl ("-" : Str) = [45] := by decide +kernel
  rw [TL.partition_par x "-" (by rw [e]; simp), e, dash_par]
  cases dash (TL.tl x) with
  | none => rfl
  | some p => rfl
end Pd

namespace Lh
open PySem PySem.Spec L2 SkE Pd
open PyProof.Rows hiding St
def top (i : Nat) : Stmt := PySem.Challenge.pw_letterheld_k14_names_and_ids.main.body.getD i (.Pass ⟨0, 0, 0, 0⟩)
structure Txt (mg : Str → Option Value) : Prop where
  b_len : mg "len" = none
  b_int : mg "int" = none
  b_str : mg "str" = none
  b_range : mg "range" = none
  b_abs : mg "abs" = none
  b_isinstance : mg "isinstance" = none
  b_bool : mg "bool" = none
  c_LETTERS : ∃ t, mg "LETTERS" = some (.str "abcdefghijklmnopqrstuvwxyz" t)
  c_GREATEST : ∃ t, mg "GREATEST" = some (.int 1000000000 t)
  c_DIGITS : ∃ t, mg "DIGITS" = some (.str "0123456789" t)
abbrev s_is_office : Stmt := top 4
abbrev N_is_office : List Str := ["text", "sign"]
abbrev P_is_office : List Str := ["text"]
theorem sc_is_office : FnScope N_is_office P_is_office (defScope s_is_office) := ⟨rfl, rfl, rfl, by decide +kernel, rfl, by decide +kernel, by decide +kernel⟩
def g_is_office : Gs := (seqG (forG (fI itS (fVar 0)) (st1 1) (ifG (ftB (f2 gNotIn (fVar 1) (fC (.str "abcdefghijklmnopqrstuvwxyz")))) (retG (fC (.bool false))) nilG))
  (retG (fChain gLe gLe (fC (.int 1)) (fL gLen (fCons (fVar 0) fNil)) (fC (.int 12)))))
def f_is_office : List D → Option D := dF 1 N_is_office g_is_office
theorem ok_is_office {P : Program} {w : World} {K : PySem.W.Frag} {mg : Str → Option Value} {base : Heap} {f : Addr} {fd : FuncData} (T : Txt mg) (Fn : Fun K "is_office" "is_office" s_is_office f fd) : FnOk P w K mg base CX0 1 f fd P_is_office (spD K f_is_office) := by
  refine okD (g := g_is_office) Fn sc_is_office (fun cdv A outer s H E Hs hr => ?_) (fun ds d h => dF_ok (ps := P_is_office) (N := N_is_office) (g := g_is_office) ds d h)
  exact (pg_cons (pg_for (tg_1 1) PassesOwn.never rfl (pdi_str (pd_var 0)) (pg_name (i := 1) sc_is_office.nd rfl (.inl rfl)) (pg_one (pg_if (pdt_cmp (op_notInA (hu65 hr)) imp_notIn (pd_var 1) (pd_globS T.c_LETTERS)) (pg_one (pg_ret pd_bool)) pg_nil)) (hv_1 1))
      (pg_one (pg_ret (pd_chain op_leA op_leA imp_ord imp_ord pd_int (pd_callB call_len imp_len T.b_len (pda_cons (pd_var 0) pda_nil)) pd_int))))
abbrev s_number_of : Stmt := top 5
abbrev N_number_of : List Str := ["text", "sign"]
abbrev P_number_of : List Str := ["text"]
theorem sc_number_of : FnScope N_number_of P_number_of (defScope s_number_of) := ⟨rfl, rfl, rfl, by decide +kernel, rfl, by decide +kernel, by decide +kernel⟩
def g_number_of : Gs := (seqG (forG (fI itS (fVar 0)) (st1 1) (ifG (ftB (f2 gNotIn (fVar 1) (fC (.str "0123456789")))) (retG (fC .non)) nilG))
  (seqG (ifG (ftOr (ftB (f2 gEq (fVar 0) (fC (.str "")))) (ftOr (ftV (fM gStarts (fVar 0) (fCons (fC (.str "0")) fNil))) (ftOr (ftB (f2 gGt (fL gLen (fCons (fVar 0) fNil)) (fC (.int 10)))) (ftB (f2 gGt (fL gInt (fCons (fVar 0) fNil)) (fC (.int 1000000000))))))) (retG (fC .non)) nilG)
  (retG (fL gInt (fCons (fVar 0) fNil)))))
def f_number_of : List D → Option D := dF 1 N_number_of g_number_of
theorem ok_number_of {P : Program} {w : World} {K : PySem.W.Frag} {mg : Str → Option Value} {base : Heap} {f : Addr} {fd : FuncData} (T : Txt mg) (Fn : Fun K "number_of" "number_of" s_number_of f fd) : FnOk P w K mg base CX0 1 f fd P_number_of (spD K f_number_of) := by
  refine okD (g := g_number_of) Fn sc_number_of (fun cdv A outer s H E Hs hr => ?_) (fun ds d h => dF_ok (ps := P_number_of) (N := N_number_of) (g := g_number_of) ds d h)
  exact (pg_cons (pg_for (tg_1 1) PassesOwn.never rfl (pdi_str (pd_var 0)) (pg_name (i := 1) sc_number_of.nd rfl (.inl rfl)) (pg_one (pg_if (pdt_cmp (op_notInA (hu65 hr)) imp_notIn (pd_var 1) (pd_globS T.c_DIGITS)) (pg_one (pg_ret pd_non)) pg_nil)) (hv_1 1))
      (pg_cons (pg_if (pdt_w (pdw_or (pdt_cmp (op_eqA hr.units) imp_eq (pd_var 0) pd_str) (pdw_or (pdt_val (pd_starts (pd_var 0) pd_str)) (pdw_or (pdt_cmp op_gtA imp_ord (pd_callB call_len imp_len T.b_len (pda_cons (pd_var 0) pda_nil)) pd_int) (pdw_or1 (pdt_cmp op_gtA imp_ord (pd_callTy call_intA imp_int T.b_int (pda_cons (pd_var 0) pda_nil)) (pd_globI T.c_GREATEST))))))) (pg_one (pg_ret pd_non)) pg_nil)
      (pg_one (pg_ret (pd_callTy call_intA imp_int T.b_int (pda_cons (pd_var 0) pda_nil))))))
abbrev s_is_thing : Stmt := top 6
abbrev N_is_thing : List Str := ["text", "office", "dash", "number"]
abbrev P_is_thing : List Str := ["text"]
theorem sc_is_thing : FnScope N_is_thing P_is_thing (defScope s_is_thing) := ⟨rfl, rfl, rfl, by decide +kernel, rfl, by decide +kernel, by decide +kernel⟩
def g_is_thing : Gs := (seqG (asgG (st3 1 2 3) (fM gPartition (fVar 0) (fCons (fC (.str "-")) fNil)))
  (retG (fAnd (f2 gNe (fVar 2) (fC (.str ""))) (fAnd (fL f_is_office (fCons (fVar 1) fNil)) (f2 gNotN (fL f_number_of (fCons (fVar 3) fNil)) (fC .non))))))
def f_is_thing : List D → Option D := dF 1 N_is_thing g_is_thing
theorem ok_is_thing {P : Program} {w : World} {K : PySem.W.Frag} {mg : Str → Option Value} {base : Heap} {f : Addr} {fd : FuncData} (T : Txt mg) (C_number_of : Df P w K mg base 1 "number_of" P_number_of f_number_of) (C_is_office : Df P w K mg base 1 "is_office" P_is_office f_is_office) (Fn : Fun K "is_thing" "is_thing" s_is_thing f fd) : FnOk P w K mg base CX0 2 f fd P_is_thing (spD K f_is_thing) := by
  refine okD (g := g_is_thing) Fn sc_is_thing (fun cdv A outer s H E Hs hr => ?_) (fun ds d h => dF_ok (ps := P_is_thing) (N := N_is_thing) (g := g_is_thing) ds d h)
  have hr_number_of := hr.mono (show 1 ≤ 1 by decide)
  have hr_is_office := hr.mono (show 1 ≤ 1 by decide)
  exact (pg_cons (pg_set (tg_3 1 2 3) (pd_partition (pd_var 0) pd_str) (pg_tup rfl (pgs_cons (pg_name (i := 1) sc_is_thing.nd rfl (.inl rfl)) (pgs_cons (pg_name (i := 2) sc_is_thing.nd rfl (.inl rfl)) (pgs_cons (pg_name (i := 3) sc_is_thing.nd rfl (.inl rfl)) pgs_nil)))) rfl rfl (hv_3 1 2 3))
      (pg_one (pg_ret (pd_and (pd_cmp (op_neA hr.units) imp_ne (pd_var 2) pd_str) (pd_and (pd_df C_is_office hr_is_office (pda_cons (pd_var 1) pda_nil)) (pd_one (pd_cmp op_notN imp_notN (pd_df C_number_of hr_number_of (pda_cons (pd_var 3) pda_nil)) pd_non)))))))
abbrev s_id_of : Stmt := top 7
abbrev N_id_of : List Str := ["office", "number"]
abbrev P_id_of : List Str := ["office", "number"]
theorem sc_id_of : FnScope N_id_of P_id_of (defScope s_id_of) := ⟨rfl, rfl, rfl, by decide +kernel, rfl, by decide +kernel, by decide +kernel⟩
def g_id_of : Gs := (retG (f2 gAdd (f2 gAdd (fVar 0) (fC (.str "-"))) (fL gStr (fCons (fVar 1) fNil))))
def f_id_of : List D → Option D := dF 2 N_id_of g_id_of
theorem ok_id_of {P : Program} {w : World} {K : PySem.W.Frag} {mg : Str → Option Value} {base : Heap} {f : Addr} {fd : FuncData} (T : Txt mg) (Fn : Fun K "id_of" "id_of" s_id_of f fd) : FnOk P w K mg base CX0 1 f fd P_id_of (spD K f_id_of) := by
  refine okD (g := g_id_of) Fn sc_id_of (fun cdv A outer s H E Hs hr => ?_) (fun ds d h => dF_ok (ps := P_id_of) (N := N_id_of) (g := g_id_of) ds d h)
  exact (pg_one (pg_ret (pd_op op_addA imp_add (pd_op op_addA imp_add (pd_var 0) pd_str) (pd_callTy call_strA imp_str T.b_str (pda_cons (pd_var 1) pda_nil)))))
abbrev s_maker_of : Stmt := top 8
abbrev N_maker_of : List Str := ["thing", "office", "dash", "number"]
abbrev P_maker_of : List Str := ["thing"]
theorem sc_maker_of : FnScope N_maker_of P_maker_of (defScope s_maker_of) := ⟨rfl, rfl, rfl, by decide +kernel, rfl, by decide +kernel, by decide +kernel⟩
def g_maker_of : Gs := (seqG (asgG (st3 1 2 3) (fM gPartition (fVar 0) (fCons (fC (.str "-")) fNil)))
  (retG (fL gTupD (fCons (fVar 1) (fCons (fL gInt (fCons (fVar 3) fNil)) fNil)))))
def f_maker_of : List D → Option D := dF 1 N_maker_of g_maker_of
theorem ok_maker_of {P : Program} {w : World} {K : PySem.W.Frag} {mg : Str → Option Value} {base : Heap} {f : Addr} {fd : FuncData} (T : Txt mg) (Fn : Fun K "maker_of" "maker_of" s_maker_of f fd) : FnOk P w K mg base CX0 1 f fd P_maker_of (spD K f_maker_of) := by
  refine okD (g := g_maker_of) Fn sc_maker_of (fun cdv A outer s H E Hs hr => ?_) (fun ds d h => dF_ok (ps := P_maker_of) (N := N_maker_of) (g := g_maker_of) ds d h)
  exact (pg_cons (pg_set (tg_3 1 2 3) (pd_partition (pd_var 0) pd_str) (pg_tup rfl (pgs_cons (pg_name (i := 1) sc_maker_of.nd rfl (.inl rfl)) (pgs_cons (pg_name (i := 2) sc_maker_of.nd rfl (.inl rfl)) (pgs_cons (pg_name (i := 3) sc_maker_of.nd rfl (.inl rfl)) pgs_nil)))) rfl rfl (hv_3 1 2 3))
      (pg_one (pg_ret (pd_tup (pda_cons (pd_var 1) (pda_cons (pd_callTy call_intA imp_int T.b_int (pda_cons (pd_var 3) pda_nil)) pda_nil))))))
abbrev s_L_cell : Stmt := top 10
abbrev N_L_cell : List Str := ["_law_script", "_law_k"]
abbrev P_L_cell : List Str := ["_law_script", "_law_k"]
theorem sc_L_cell : FnScope N_L_cell P_L_cell (defScope s_L_cell) := ⟨rfl, rfl, rfl, by decide +kernel, rfl, by decide +kernel, by decide +kernel⟩
def g_L_cell : Gs := (seqG (ifG (ftB (f2 gLt (fVar 1) (fL gLen (fCons (fVar 0) fNil)))) (retG (fL gInt (fCons (f2 gIx (fVar 0) (fVar 1)) fNil))) nilG)
  (retG (f2 gMul (fC (.int 7)) (fVar 1))))
def f_L_cell : List D → Option D := dF 2 N_L_cell g_L_cell
theorem ok_L_cell {P : Program} {w : World} {K : PySem.W.Frag} {mg : Str → Option Value} {base : Heap} {f : Addr} {fd : FuncData} (T : Txt mg) (Fn : Fun K "_law_cell" "_law_cell" s_L_cell f fd) : FnOk P w K mg base CX0 1 f fd P_L_cell (spD K f_L_cell) := by
  refine okD (g := g_L_cell) Fn sc_L_cell (fun cdv A outer s H E Hs hr => ?_) (fun ds d h => dF_ok (ps := P_L_cell) (N := N_L_cell) (g := g_L_cell) ds d h)
  exact (pg_cons (pg_if (pdt_cmp op_ltA imp_ord (pd_var 1) (pd_callB call_len imp_len T.b_len (pda_cons (pd_var 0) pda_nil))) (pg_one (pg_ret (pd_callTy call_intA imp_int T.b_int (pda_cons (pd_ix ix_seq imp_ix (pd_var 0) (pd_var 1)) pda_nil)))) pg_nil)
      (pg_one (pg_ret (pd_op op_mul imp_mul pd_int (pd_var 1)))))
abbrev s_L_office : Stmt := top 11
abbrev N_L_office : List Str := ["_law_cell_here", "_law_name", "_law_rest", "_law_k"]
abbrev P_L_office : List Str := ["_law_cell_here"]
theorem sc_L_office : FnScope N_L_office P_L_office (defScope s_L_office) := ⟨rfl, rfl, rfl, by decide +kernel, rfl, by decide +kernel, by decide +kernel⟩
def g_L_office : Gs := (seqG (asgG (st1 1) (fC (.str "")))
  (seqG (asgG (st1 2) (fL gAbs (fCons (fVar 0) fNil)))
  (seqG (forG (fIs itR1 (fCons (f2 gAdd (fC (.int 1)) (f2 gMod (fVar 2) (fC (.int 12)))) fNil)) (st1 3) (seqG (asgG (st1 1) (f2 gAdd (fVar 1) (f2 gIx (fC (.str "abcdefghijklmnopqrstuvwxyz")) (f2 gMod (f2 gDiv (fVar 2) (fC (.int 12))) (fC (.int 26))))))
  (asgG (st1 2) (f2 gAdd (f2 gDiv (fVar 2) (fC (.int 7))) (f2 gMul (fC (.int 31)) (fVar 3))))))
  (retG (fVar 1)))))
def f_L_office : List D → Option D := dF 1 N_L_office g_L_office
theorem ok_L_office {P : Program} {w : World} {K : PySem.W.Frag} {mg : Str → Option Value} {base : Heap} {f : Addr} {fd : FuncData} (T : Txt mg) (Fn : Fun K "_law_office" "_law_office" s_L_office f fd) : FnOk P w K mg base CX0 1 f fd P_L_office (spD K f_L_office) := by
  refine okD (g := g_L_office) Fn sc_L_office (fun cdv A outer s H E Hs hr => ?_) (fun ds d h => dF_ok (ps := P_L_office) (N := N_L_office) (g := g_L_office) ds d h)
  exact (pg_cons (pg_asg 1 sc_L_office.nd pd_str)
      (pg_cons (pg_asg 2 sc_L_office.nd (pd_callB call_abs imp_abs T.b_abs (pda_cons (pd_var 0) pda_nil)))
      (pg_cons (pg_for (tg_1 3) PassesOwn.never rfl (pdi_range1 T.b_range (pda_cons (pd_op op_addA imp_add pd_int (pd_op op_mod imp_mod (pd_var 2) pd_int)) pda_nil)) (pg_name (i := 3) sc_L_office.nd rfl (.inl rfl)) (pg_cons (pg_asg 1 sc_L_office.nd (pd_op op_addA imp_add (pd_var 1) (pd_ix ix_seq imp_ix pd_str (pd_op op_mod imp_mod (pd_op op_fdiv imp_div (pd_var 2) pd_int) pd_int))))
      (pg_one (pg_asg 2 sc_L_office.nd (pd_op op_addA imp_add (pd_op op_fdiv imp_div (pd_var 2) pd_int) (pd_op op_mul imp_mul pd_int (pd_var 3)))))) (hv_1 3))
      (pg_one (pg_ret (pd_var 1))))))
abbrev s_L_number : Stmt := top 12
abbrev N_L_number : List Str := ["_law_cell_here"]
abbrev P_L_number : List Str := ["_law_cell_here"]
theorem sc_L_number : FnScope N_L_number P_L_number (defScope s_L_number) := ⟨rfl, rfl, rfl, by decide +kernel, rfl, by decide +kernel, by decide +kernel⟩
def g_L_number : Gs := (retG (f2 gIx (fL gLstD (fCons (f2 gAdd (fC (.int 1)) (f2 gMod (f2 gDiv (fVar 0) (fC (.int 4))) (fC (.int 9)))) (fCons (f2 gAdd (fC (.int 1)) (f2 gMod (f2 gDiv (fVar 0) (fC (.int 4))) (fC (.int 1000000000)))) (fCons (f2 gSub (fC (.int 1000000000)) (f2 gMod (f2 gDiv (fVar 0) (fC (.int 4))) (fC (.int 3)))) (fCons (f2 gAdd (fC (.int 1)) (f2 gMod (f2 gDiv (fVar 0) (fC (.int 4))) (fC (.int 200)))) fNil))))) (f2 gMod (fVar 0) (fC (.int 4)))))
def f_L_number : List D → Option D := dF 1 N_L_number g_L_number
theorem ok_L_number {P : Program} {w : World} {K : PySem.W.Frag} {mg : Str → Option Value} {base : Heap} {f : Addr} {fd : FuncData} (T : Txt mg) (Fn : Fun K "_law_number" "_law_number" s_L_number f fd) : FnOk P w K mg base CX0 1 f fd P_L_number (spD K f_L_number) := by
  refine okD (g := g_L_number) Fn sc_L_number (fun cdv A outer s H E Hs hr => ?_) (fun ds d h => dF_ok (ps := P_L_number) (N := N_L_number) (g := g_L_number) ds d h)
  exact (pg_one (pg_ret (pd_ix ix_seq imp_ix (pd_lst (pda_cons (pd_op op_addA imp_add pd_int (pd_op op_mod imp_mod (pd_op op_fdiv imp_div (pd_var 0) pd_int) pd_int)) (pda_cons (pd_op op_addA imp_add pd_int (pd_op op_mod imp_mod (pd_op op_fdiv imp_div (pd_var 0) pd_int) pd_int)) (pda_cons (pd_op op_sub imp_sub pd_int (pd_op op_mod imp_mod (pd_op op_fdiv imp_div (pd_var 0) pd_int) pd_int)) (pda_cons (pd_op op_addA imp_add pd_int (pd_op op_mod imp_mod (pd_op op_fdiv imp_div (pd_var 0) pd_int) pd_int)) pda_nil))))) (pd_op op_mod imp_mod (pd_var 0) pd_int))))
abbrev s_L_text : Stmt := top 13
abbrev N_L_text : List Str := ["_law_cell_here", "_law_signs", "_law_text_here", "_law_rest", "_law_k"]
abbrev P_L_text : List Str := ["_law_cell_here"]
theorem sc_L_text : FnScope N_L_text P_L_text (defScope s_L_text) := ⟨rfl, rfl, rfl, by decide +kernel, rfl, by decide +kernel, by decide +kernel⟩
def g_L_text : Gs := (seqG (asgG (st1 1) (fC (.str "abz-0A19_ y-x")))
  (seqG (asgG (st1 2) (fC (.str "")))
  (seqG (asgG (st1 3) (fL gAbs (fCons (fVar 0) fNil)))
  (seqG (forG (fIs itR1 (fCons (f2 gMod (fVar 3) (fC (.int 16))) fNil)) (st1 4) (seqG (asgG (st1 2) (f2 gAdd (fVar 2) (f2 gIx (fVar 1) (f2 gMod (f2 gDiv (fVar 3) (fC (.int 16))) (fC (.int 13))))))
  (asgG (st1 3) (f2 gAdd (f2 gDiv (fVar 3) (fC (.int 13))) (f2 gMul (fC (.int 5)) (fVar 4))))))
  (retG (fVar 2))))))
def f_L_text : List D → Option D := dF 1 N_L_text g_L_text
theorem ok_L_text {P : Program} {w : World} {K : PySem.W.Frag} {mg : Str → Option Value} {base : Heap} {f : Addr} {fd : FuncData} (T : Txt mg) (Fn : Fun K "_law_text" "_law_text" s_L_text f fd) : FnOk P w K mg base CX0 1 f fd P_L_text (spD K f_L_text) := by
  refine okD (g := g_L_text) Fn sc_L_text (fun cdv A outer s H E Hs hr => ?_) (fun ds d h => dF_ok (ps := P_L_text) (N := N_L_text) (g := g_L_text) ds d h)
  exact (pg_cons (pg_asg 1 sc_L_text.nd pd_str)
      (pg_cons (pg_asg 2 sc_L_text.nd pd_str)
      (pg_cons (pg_asg 3 sc_L_text.nd (pd_callB call_abs imp_abs T.b_abs (pda_cons (pd_var 0) pda_nil)))
      (pg_cons (pg_for (tg_1 4) PassesOwn.never rfl (pdi_range1 T.b_range (pda_cons (pd_op op_mod imp_mod (pd_var 3) pd_int) pda_nil)) (pg_name (i := 4) sc_L_text.nd rfl (.inl rfl)) (pg_cons (pg_asg 2 sc_L_text.nd (pd_op op_addA imp_add (pd_var 2) (pd_ix ix_seq imp_ix (pd_var 1) (pd_op op_mod imp_mod (pd_op op_fdiv imp_div (pd_var 3) pd_int) pd_int))))
      (pg_one (pg_asg 3 sc_L_text.nd (pd_op op_addA imp_add (pd_op op_fdiv imp_div (pd_var 3) pd_int) (pd_op op_mul imp_mul pd_int (pd_var 4)))))) (hv_1 4))
      (pg_one (pg_ret (pd_var 2)))))))
abbrev s_L_is_office : Stmt := top 14
abbrev N_L_is_office : List Str := ["_law_text_here", "_law_sign"]
abbrev P_L_is_office : List Str := ["_law_text_here"]
theorem sc_L_is_office : FnScope N_L_is_office P_L_is_office (defScope s_L_is_office) := ⟨rfl, rfl, rfl, by decide +kernel, rfl, by decide +kernel, by decide +kernel⟩
def g_L_is_office : Gs := (retG (fAnd (fChain gLe gLe (fC (.int 1)) (fL gLen (fCons (fVar 0) fNil)) (fC (.int 12))) (f2 gEq (fLc (fI itS (fVar 0)) (st1 1) (ftOr (ftB (f2 gLt (fVar 1) (fC (.str "a")))) (ftB (f2 gGt (fVar 1) (fC (.str "z"))))) (fVar 1) [1]) (fL gLstD fNil))))
def f_L_is_office : List D → Option D := dF 1 N_L_is_office g_L_is_office
theorem ok_L_is_office {P : Program} {w : World} {K : PySem.W.Frag} {mg : Str → Option Value} {base : Heap} {f : Addr} {fd : FuncData} (T : Txt mg) (Fn : Fun K "_law_is_office" "_law_is_office" s_L_is_office f fd) : FnOk P w K mg base CX0 1 f fd P_L_is_office (spD K f_L_is_office) := by
  refine okD (g := g_L_is_office) Fn sc_L_is_office (fun cdv A outer s H E Hs hr => ?_) (fun ds d h => dF_ok (ps := P_L_is_office) (N := N_L_is_office) (g := g_L_is_office) ds d h)
  exact (pg_one (pg_ret (pd_and (pd_chain op_leA op_leA imp_ord imp_ord pd_int (pd_callB call_len imp_len T.b_len (pda_cons (pd_var 0) pda_nil)) pd_int) (pd_one (pd_cmp (op_eqA hr.units) imp_eq (pd_lc (own := [("_law_sign", 1)]) rfl sc_L_is_office.nd (pdi_str (pd_var 0)) (blkOk_by (own := [("_law_sign", 1)]) (N := N_L_is_office) (sc := defScope s_L_is_office) (by decide +kernel)) (tg_1 1) (fun _ _ _ _ _ => (pg_name (i := 1) sc_L_is_office.nd rfl (.inl rfl))) (fun _ _ _ h => h) (fun _ _ _ _ _ => (pts_one (pdt_w (pdw_or (pdt_cmp op_ltA imp_ord (pd_var 1) pd_str) (pdw_or1 (pdt_cmp op_gtA imp_ord (pd_var 1) pd_str)))))) (fun _ _ _ _ _ => (pd_var 1))) (pd_lst pda_nil))))))
abbrev s_L_is_number : Stmt := top 15
abbrev N_L_is_number : List Str := ["_law_text_here", "_law_sign"]
abbrev P_L_is_number : List Str := ["_law_text_here"]
theorem sc_L_is_number : FnScope N_L_is_number P_L_is_number (defScope s_L_is_number) := ⟨rfl, rfl, rfl, by decide +kernel, rfl, by decide +kernel, by decide +kernel⟩
def g_L_is_number : Gs := (seqG (ifG (ftOr (ftB (f2 gEq (fVar 0) (fC (.str "")))) (ftOr (ftB (f2 gEq (f2 gIx (fVar 0) (fC (.int 0))) (fC (.str "0")))) (ftOr (ftB (f2 gGt (fL gLen (fCons (fVar 0) fNil)) (fC (.int 10)))) (ftB (f2 gNe (fLc (fI itS (fVar 0)) (st1 1) (ftOr (ftB (f2 gLt (fVar 1) (fC (.str "0")))) (ftB (f2 gGt (fVar 1) (fC (.str "9"))))) (fVar 1) [1]) (fL gLstD fNil)))))) (retG (fC (.bool false))) nilG)
  (retG (f2 gLe (fL gInt (fCons (fVar 0) fNil)) (fC (.int 1000000000)))))
def f_L_is_number : List D → Option D := dF 1 N_L_is_number g_L_is_number
theorem ok_L_is_number {P : Program} {w : World} {K : PySem.W.Frag} {mg : Str → Option Value} {base : Heap} {f : Addr} {fd : FuncData} (T : Txt mg) (Fn : Fun K "_law_is_number" "_law_is_number" s_L_is_number f fd) : FnOk P w K mg base CX0 1 f fd P_L_is_number (spD K f_L_is_number) := by
  refine okD (g := g_L_is_number) Fn sc_L_is_number (fun cdv A outer s H E Hs hr => ?_) (fun ds d h => dF_ok (ps := P_L_is_number) (N := N_L_is_number) (g := g_L_is_number) ds d h)
  exact (pg_cons (pg_if (pdt_w (pdw_or (pdt_cmp (op_eqA hr.units) imp_eq (pd_var 0) pd_str) (pdw_or (pdt_cmp (op_eqA hr.units) imp_eq (pd_ix ix_seq imp_ix (pd_var 0) pd_int) pd_str) (pdw_or (pdt_cmp op_gtA imp_ord (pd_callB call_len imp_len T.b_len (pda_cons (pd_var 0) pda_nil)) pd_int) (pdw_or1 (pdt_cmp (op_neA hr.units) imp_ne (pd_lc (own := [("_law_sign", 1)]) rfl sc_L_is_number.nd (pdi_str (pd_var 0)) (blkOk_by (own := [("_law_sign", 1)]) (N := N_L_is_number) (sc := defScope s_L_is_number) (by decide +kernel)) (tg_1 1) (fun _ _ _ _ _ => (pg_name (i := 1) sc_L_is_number.nd rfl (.inl rfl))) (fun _ _ _ h => h) (fun _ _ _ _ _ => (pts_one (pdt_w (pdw_or (pdt_cmp op_ltA imp_ord (pd_var 1) pd_str) (pdw_or1 (pdt_cmp op_gtA imp_ord (pd_var 1) pd_str)))))) (fun _ _ _ _ _ => (pd_var 1))) (pd_lst pda_nil))))))) (pg_one (pg_ret pd_bool)) pg_nil)
      (pg_one (pg_ret (pd_cmp op_leA imp_ord (pd_callTy call_intA imp_int T.b_int (pda_cons (pd_var 0) pda_nil)) pd_int))))
abbrev s_L_is_thing : Stmt := top 16
abbrev N_L_is_thing : List Str := ["_law_text_here", "_law_places", "_law_k"]
abbrev P_L_is_thing : List Str := ["_law_text_here"]
theorem sc_L_is_thing : FnScope N_L_is_thing P_L_is_thing (defScope s_L_is_thing) := ⟨rfl, rfl, rfl, by decide +kernel, rfl, by decide +kernel, by decide +kernel⟩
def g_L_is_thing : Gs := (seqG (asgG (st1 1) (fLc (fIs itR1 (fCons (fL gLen (fCons (fVar 0) fNil)) fNil)) (st1 2) (ftB (f2 gEq (f2 gIx (fVar 0) (fVar 2)) (fC (.str "-")))) (fVar 2) [2]))
  (seqG (ifG (ftB (f2 gNe (fL gLen (fCons (fVar 1) fNil)) (fC (.int 1)))) (retG (fC (.bool false))) nilG)
  (retG (fAnd (fL f_L_is_office (fCons (fSl (fVar 0) foNo (foE (f2 gIx (fVar 1) (fC (.int 0))))) fNil)) (fL f_L_is_number (fCons (fSl (fVar 0) (foE (f2 gAdd (f2 gIx (fVar 1) (fC (.int 0))) (fC (.int 1)))) foNo) fNil))))))
def f_L_is_thing : List D → Option D := dF 1 N_L_is_thing g_L_is_thing
theorem ok_L_is_thing {P : Program} {w : World} {K : PySem.W.Frag} {mg : Str → Option Value} {base : Heap} {f : Addr} {fd : FuncData} (T : Txt mg) (C_L_is_number : Df P w K mg base 1 "_law_is_number" P_L_is_number f_L_is_number) (C_L_is_office : Df P w K mg base 1 "_law_is_office" P_L_is_office f_L_is_office) (Fn : Fun K "_law_is_thing" "_law_is_thing" s_L_is_thing f fd) : FnOk P w K mg base CX0 2 f fd P_L_is_thing (spD K f_L_is_thing) := by
  refine okD (g := g_L_is_thing) Fn sc_L_is_thing (fun cdv A outer s H E Hs hr => ?_) (fun ds d h => dF_ok (ps := P_L_is_thing) (N := N_L_is_thing) (g := g_L_is_thing) ds d h)
  have hr_L_is_number := hr.mono (show 1 ≤ 1 by decide)
  have hr_L_is_office := hr.mono (show 1 ≤ 1 by decide)
  exact (pg_cons (pg_asgLc 1  (own := [("_law_k", 2)]) rfl sc_L_is_thing.nd (pdi_range1 T.b_range (pda_cons (pd_callB call_len imp_len T.b_len (pda_cons (pd_var 0) pda_nil)) pda_nil)) (blkOk_by (own := [("_law_k", 2)]) (N := N_L_is_thing) (sc := defScope s_L_is_thing) (by decide +kernel)) (tg_1 2) (fun _ _ _ _ _ => (pg_name (i := 2) sc_L_is_thing.nd rfl (.inl rfl))) (fun _ _ _ h => h) (fun _ _ _ _ _ => (pts_one (pdt_cmp (op_eqA hr.units) imp_eq (pd_ix ix_seq imp_ix (pd_var 0) (pd_var 2)) pd_str))) (fun _ _ _ _ _ => (pd_var 2)))
      (pg_cons (pg_if (pdt_cmp (op_neA hr.units) imp_ne (pd_callB call_len imp_len T.b_len (pda_cons (pd_var 1) pda_nil)) pd_int) (pg_one (pg_ret pd_bool)) pg_nil)
      (pg_one (pg_ret (pd_and (pd_df C_L_is_office hr_L_is_office (pda_cons (pd_slice (pd_var 0) pdo_none (pdo_some (pd_ix ix_seq imp_ix (pd_var 1) pd_int))) pda_nil)) (pd_one (pd_df C_L_is_number hr_L_is_number (pda_cons (pd_slice (pd_var 0) (pdo_some (pd_op op_addA imp_add (pd_ix ix_seq imp_ix (pd_var 1) pd_int) pd_int)) pdo_none) pda_nil))))))))
abbrev s_law : Stmt := top 17
abbrev N_law : List Str := ["_law_script", "_law_office_here", "_law_number_here", "_law_thing", "_law_texts", "_law_text_here", "_law_k"]
abbrev P_law : List Str := ["_law_script"]
theorem sc_law : FnScope N_law P_law (defScope s_law) := ⟨rfl, rfl, rfl, by decide +kernel, rfl, by decide +kernel, by decide +kernel⟩
def g_law : Gs := (seqG (asgG (st1 1) (fL f_L_office (fCons (fL f_L_cell (fCons (fVar 0) (fCons (fC (.int 0)) fNil))) fNil)))
  (seqG (asgG (st1 2) (fL f_L_number (fCons (fL f_L_cell (fCons (fVar 0) (fCons (fC (.int 1)) fNil))) fNil)))
  (seqG (asgG (st1 3) (fL f_id_of (fCons (fVar 1) (fCons (fVar 2) fNil))))
  (seqG (ifG (ftOr (ftB (f2 gNe (fVar 3) (f2 gAdd (f2 gAdd (fVar 1) (fC (.str "-"))) (fL gStr (fCons (fVar 2) fNil))))) (ftB (f2 gNe (fL f_maker_of (fCons (fVar 3) fNil)) (fL gTupD (fCons (fVar 1) (fCons (fVar 2) fNil)))))) (retG (fC (.bool false))) nilG)
  (seqG (asgG (st1 4) (fL gLstD (fCons (fVar 1) (fCons (fVar 3) (fCons (f2 gAdd (fVar 1) (fC (.str "-"))) (fCons (f2 gAdd (fC (.str "-")) (fL gStr (fCons (fVar 2) fNil))) (fCons (f2 gAdd (f2 gAdd (fVar 1) (fC (.str "-0"))) (fL gStr (fCons (fVar 2) fNil))) (fCons (f2 gAdd (fVar 1) (fL gStr (fCons (fVar 2) fNil))) (fCons (f2 gAdd (fVar 3) (fC (.str "-1"))) fNil)))))))))
  (seqG (asgG (st1 4) (f2 gAdd (fVar 4) (fL gLstD (fCons (f2 gAdd (fVar 1) (fC (.str "-1000000001"))) (fCons (f2 gAdd (fVar 1) (fC (.str "-1000000000"))) (fCons (f2 gAdd (fVar 1) (fC (.str "abcdefghijkl-3"))) (fCons (fM gUpper (fVar 1) fNil) (fCons (fC (.str "")) fNil))))))))
  (seqG (asgG (st1 4) (f2 gAdd (fVar 4) (fLc (fIs itR2 (fCons (fC (.int 2)) (fCons (fC (.int 20)) fNil))) (st1 6) ftYes (fL f_L_text (fCons (fL f_L_cell (fCons (fVar 0) (fCons (fVar 6) fNil))) fNil)) [6])))
  (seqG (forG (fI itL (fVar 4)) (st1 5) (seqG (ifG (ftOr (ftB (f2 gNe (fL f_is_office (fCons (fVar 5) fNil)) (fL f_L_is_office (fCons (fVar 5) fNil)))) (ftB (f2 gNe (fL f_is_thing (fCons (fVar 5) fNil)) (fL f_L_is_thing (fCons (fVar 5) fNil))))) (retG (fC (.bool false))) nilG)
  (ifG (ftOr (ftNot (ftV (f1 (gIsi "bool") (fL f_is_office (fCons (fVar 5) fNil))))) (ftNot (ftV (f1 (gIsi "bool") (fL f_is_thing (fCons (fVar 5) fNil)))))) (retG (fC (.bool false))) nilG)))
  (retG (fC (.bool true)))))))))))
def f_law : List D → Option D := dF 1 N_law g_law
theorem ok_law {P : Program} {w : World} {K : PySem.W.Frag} {mg : Str → Option Value} {base : Heap} {f : Addr} {fd : FuncData} (T : Txt mg) (C_is_thing : Df P w K mg base 2 "is_thing" P_is_thing f_is_thing) (C_is_office : Df P w K mg base 1 "is_office" P_is_office f_is_office) (C_L_is_thing : Df P w K mg base 2 "_law_is_thing" P_L_is_thing f_L_is_thing) (C_L_is_office : Df P w K mg base 1 "_law_is_office" P_L_is_office f_L_is_office) (C_L_text : Df P w K mg base 1 "_law_text" P_L_text f_L_text) (C_L_cell : Df P w K mg base 1 "_law_cell" P_L_cell f_L_cell) (C_maker_of : Df P w K mg base 1 "maker_of" P_maker_of f_maker_of) (C_id_of : Df P w K mg base 1 "id_of" P_id_of f_id_of) (C_L_number : Df P w K mg base 1 "_law_number" P_L_number f_L_number) (C_L_office : Df P w K mg base 1 "_law_office" P_L_office f_L_office) (Fn : Fun K "law" "law" s_law f fd) : FnOk P w K mg base CX0 3 f fd P_law (spD K f_law) := by
  refine okD (g := g_law) Fn sc_law (fun cdv A outer s H E Hs hr => ?_) (fun ds d h => dF_ok (ps := P_law) (N := N_law) (g := g_law) ds d h)
  have hr_is_thing := hr.mono (show 2 ≤ 2 by decide)
  have hr_is_office := hr.mono (show 1 ≤ 2 by decide)
  have hr_L_is_thing := hr.mono (show 2 ≤ 2 by decide)
  have hr_L_is_office := hr.mono (show 1 ≤ 2 by decide)
  have hr_L_text := hr.mono (show 1 ≤ 2 by decide)
  have hr_L_cell := hr.mono (show 1 ≤ 2 by decide)
  have hr_maker_of := hr.mono (show 1 ≤ 2 by decide)
  have hr_id_of := hr.mono (show 1 ≤ 2 by decide)
  have hr_L_number := hr.mono (show 1 ≤ 2 by decide)
  have hr_L_office := hr.mono (show 1 ≤ 2 by decide)
  exact (pg_cons (pg_asg 1 sc_law.nd (pd_df C_L_office hr_L_office (pda_cons (pd_df C_L_cell hr_L_cell (pda_cons (pd_var 0) (pda_cons pd_int pda_nil))) pda_nil)))
      (pg_cons (pg_asg 2 sc_law.nd (pd_df C_L_number hr_L_number (pda_cons (pd_df C_L_cell hr_L_cell (pda_cons (pd_var 0) (pda_cons pd_int pda_nil))) pda_nil)))
      (pg_cons (pg_asg 3 sc_law.nd (pd_df C_id_of hr_id_of (pda_cons (pd_var 1) (pda_cons (pd_var 2) pda_nil))))
      (pg_cons (pg_if (pdt_w (pdw_or (pdt_cmp (op_neA hr.units) imp_ne (pd_var 3) (pd_op op_addA imp_add (pd_op op_addA imp_add (pd_var 1) pd_str) (pd_callTy call_strA imp_str T.b_str (pda_cons (pd_var 2) pda_nil)))) (pdw_or1 (pdt_cmp (op_neA hr.units) imp_ne (pd_df C_maker_of hr_maker_of (pda_cons (pd_var 3) pda_nil)) (pd_tup (pda_cons (pd_var 1) (pda_cons (pd_var 2) pda_nil))))))) (pg_one (pg_ret pd_bool)) pg_nil)
      (pg_cons (pg_asg 4 sc_law.nd (pd_lst (pda_cons (pd_var 1) (pda_cons (pd_var 3) (pda_cons (pd_op op_addA imp_add (pd_var 1) pd_str) (pda_cons (pd_op op_addA imp_add pd_str (pd_callTy call_strA imp_str T.b_str (pda_cons (pd_var 2) pda_nil))) (pda_cons (pd_op op_addA imp_add (pd_op op_addA imp_add (pd_var 1) pd_str) (pd_callTy call_strA imp_str T.b_str (pda_cons (pd_var 2) pda_nil))) (pda_cons (pd_op op_addA imp_add (pd_var 1) (pd_callTy call_strA imp_str T.b_str (pda_cons (pd_var 2) pda_nil))) (pda_cons (pd_op op_addA imp_add (pd_var 3) pd_str) pda_nil)))))))))
      (pg_cons (pg_asg 4 sc_law.nd (pd_op op_addA imp_add (pd_var 4) (pd_lst (pda_cons (pd_op op_addA imp_add (pd_var 1) pd_str) (pda_cons (pd_op op_addA imp_add (pd_var 1) pd_str) (pda_cons (pd_op op_addA imp_add (pd_var 1) pd_str) (pda_cons (pd_upper (pd_var 1)) (pda_cons pd_str pda_nil))))))))
      (pg_cons (pg_asg 4 sc_law.nd (pd_op op_addA imp_add (pd_var 4) (pd_lc (own := [("_law_k", 6)]) rfl sc_law.nd (pdi_range2 T.b_range (pda_cons pd_int (pda_cons pd_int pda_nil))) (blkOk_by (own := [("_law_k", 6)]) (N := N_law) (sc := defScope s_law) (by decide +kernel)) (tg_1 6) (fun _ _ _ _ _ => (pg_name (i := 6) sc_law.nd rfl (.inl rfl))) tYes_D (fun _ _ _ _ _ => pts_nil) (fun _ _ _ _ _ => (pd_df C_L_text hr_L_text (pda_cons (pd_df C_L_cell hr_L_cell (pda_cons (pd_var 0) (pda_cons (pd_var 6) pda_nil))) pda_nil))))))
      (pg_cons (pg_for (tg_1 5) PassesOwn.never rfl (pdi_list (pd_var 4)) (pg_name (i := 5) sc_law.nd rfl (.inl rfl)) (pg_cons (pg_if (pdt_w (pdw_or (pdt_cmp (op_neA hr.units) imp_ne (pd_df C_is_office hr_is_office (pda_cons (pd_var 5) pda_nil)) (pd_df C_L_is_office hr_L_is_office (pda_cons (pd_var 5) pda_nil))) (pdw_or1 (pdt_cmp (op_neA hr.units) imp_ne (pd_df C_is_thing hr_is_thing (pda_cons (pd_var 5) pda_nil)) (pd_df C_L_is_thing hr_L_is_thing (pda_cons (pd_var 5) pda_nil)))))) (pg_one (pg_ret pd_bool)) pg_nil)
      (pg_one (pg_if (pdt_w (pdw_or (pdt_not (pdt_val (pd_isi (pd_df C_is_office hr_is_office (pda_cons (pd_var 5) pda_nil)) T.b_isinstance T.b_bool))) (pdw_or1 (pdt_not (pdt_val (pd_isi (pd_df C_is_thing hr_is_thing (pda_cons (pd_var 5) pda_nil)) T.b_isinstance T.b_bool)))))) (pg_one (pg_ret pd_bool)) pg_nil))) (hv_1 5))
      (pg_one (pg_ret pd_bool))))))))))
end Lh

namespace Lh
open PySem PySem.Spec L2 SkE Pd
open PyProof.Rows hiding St
open TL NumText
local macro_rules | `(tactic| walk_at "xcall") => `(tactic| fail)
local macro_rules | `(tactic| walk_at "xd") => `(tactic| first | assumption | omega | decide | (rw [sizeLine_eq]; omega) | (rw [sizeLine_eq]; simp; done) | (simp; done) | (simp [sizeLine_eq]; omega))
local macro_rules | `(tactic| walk_at "xo") => `(tactic| with_reducible first
  | exact x_add | exact x_sub | exact x_eqI | exact x_eqS | exact x_eqB | exact x_neI | exact x_neS | exact x_neB | exact x_lt | exact x_le | exact x_gt | exact x_ge | exact x_ltS | exact x_gtS
  | exact x_inC | exact x_notInC | exact x_lenL | exact x_lenT | exact x_lenN | exact x_int | exact x_intB | exact x_strS | exact x_abs | exact x_neg | exact x_startsM | exact x_truB | exact x_truL | exact x_truT | exact x_truI | exact x_truN | apply x_truS | exact x_endsM
  | apply x_addS | apply x_addL | apply x_addT | apply x_mulL | apply x_div | apply x_mod | apply x_lenS | apply x_intS | apply x_str | apply x_tupD | apply x_lstD
  | apply x_splitM | apply x_partM | apply x_upperM | apply x_ixL | apply x_ixT | apply x_ixN | apply x_ixS | apply x_isi | exact x_isN0 | exact x_notN0)
local macro_rules | `(tactic| walk_at "x1") => `(tactic| first
  | with_reducible exact x_C | with_reducible exact x_nil | with_reducible exact x_no | with_reducible exact x_yes | ((with_reducible apply x_var); rfl)
  | with_reducible apply x_f2 | with_reducible apply x_f1 | with_reducible apply x_cons | with_reducible apply x_L | with_reducible apply x_M | with_reducible apply x_I | with_reducible apply x_Is | with_reducible apply x_oE | with_reducible apply x_sl
  | with_reducible apply x_tB | with_reducible apply x_tV | with_reducible apply x_tand | with_reducible apply x_tor | with_reducible apply x_tnot | with_reducible apply x_and | with_reducible apply x_or | with_reducible apply x_not | with_reducible apply x_chain
  | walk_at "xo" | (intro _) | walk_at "xcall" | walk_at "xd")
local macro_rules | `(tactic| walk_at "x") => `(tactic| repeat' (walk_at "x1"))

/-! the notation's functions -/

def isOff (l : List Nat) : Bool := decide (1 ≤ l.length ∧ l.length ≤ 12) && l.all fun c => decide (97 ≤ c ∧ c ≤ 122)
theorem az_mem (c : Nat) : c ∈ (Str.ofString "abcdefghijklmnopqrstuvwxyz").cps.toList ↔ 97 ≤ c ∧ c ≤ 122 := by
  have e : (Str.ofString "abcdefghijklmnopqrstuvwxyz").cps.toList = (List.range 26).map (· + 97) := by decide +kernel
  rw [e, List.mem_map]
  constructor
  · rintro ⟨k, h1, rfl⟩
    have := List.mem_range.mp h1
    omega
  · rintro ⟨h1, h2⟩
    exact ⟨c - 97, List.mem_range.mpr (by omega), by omega⟩
theorem dig_mem (c : Nat) : c ∈ (Str.ofString "0123456789").cps.toList ↔ 48 ≤ c ∧ c ≤ 57 := by
  have e : (Str.ofString "0123456789").cps.toList = (List.range 10).map (· + 48) := by decide +kernel
  rw [e, List.mem_map]
  constructor
  · rintro ⟨k, h1, rfl⟩
    have := List.mem_range.mp h1
    omega
  · rintro ⟨h1, h2⟩
    exact ⟨c - 48, List.mem_range.mpr (by omega), by omega⟩
abbrev chD (c : Nat) : D := .str ⟨#[c]⟩
theorem itS_str (s : Str) : itS (.str s) = some ((tl s).map chD) := rfl
theorem e_is_office (s : Str) (hs : s.length ≤ 100000) : f_is_office [.str s] = some (.bool (isOff (tl s))) := by
  refine f_of rfl (w_seq ?_)
  refine w_for (fun rest ρ => ∃ (l m : List Nat) (o : Sl), tl s = l ++ m ∧ rest = m.map chD ∧ (l.all fun c => decide (97 ≤ c ∧ c ≤ 122)) = true ∧ ρ = [.val (.str s), o]) (x_I (x_var rfl) (itS_str s)) ⟨[], tl s, .junk, rfl, rfl, rfl, rfl⟩ ?_ ?_
  · rintro d rest ρ ⟨l, m, o, e1, e2, e3, rfl⟩
    cases m with
    | nil => cases e2
    | cons c m =>
      cases e2
      refine ⟨_, rfl, ?_⟩
      refine w_if (x := !decide (c ∈ (Str.ofString "abcdefghijklmnopqrstuvwxyz").cps.toList)) (by walk_at "x") (fun h => ?_) (fun h => ?_)
      · refine w_ret (d := .bool false) (by walk_at "x") ?_
        have hc : ¬ (97 ≤ c ∧ c ≤ 122) := by
          rw [← az_mem]
          simpa using h
        have : isOff (tl s) = false := by
          unfold isOff
          rw [e1, List.all_append, List.all_cons, decide_eq_false hc]
          simp
        rw [this]
        exact rfl
      · refine w_nil ⟨l ++ [c], m, _, by rw [e1]; simp, rfl, ?_, rfl⟩
        have hc : 97 ≤ c ∧ c ≤ 122 := by
          rw [← az_mem]
          simpa using h
        rw [List.all_append, e3]
        simp [hc]
  · rintro ρ ⟨l, m, o, e1, e2, e3, rfl⟩
    cases m with
    | cons c m => cases e2
    | nil =>
      rw [List.append_nil] at e1
      have hl : s.length = (tl s).length := len_tl s
      refine w_ret (d := .bool (isOff (tl s))) ?_ rfl
      have e : isOff (tl s) = (decide ((1 : Int) ≤ (s.length : Int)) && decide ((s.length : Int) ≤ 12)) := by
        unfold isOff
        rw [e1, e3, Bool.and_true, ← e1, ← hl, Bool.eq_iff_iff]
        simp only [decide_eq_true_eq, Bool.and_eq_true]
        omega
      rw [e]
      walk_at "x"

def digs (l : List Nat) : Bool := l.all fun c => decide (48 ≤ c ∧ c ≤ 57)
theorem digs_all {l : List Nat} (h : digs l = true) : AllDigits l := fun c hc => by
  have := List.all_eq_true.mp h c hc
  exact of_decide_eq_true this
def numOf (l : List Nat) : Option Nat := if digs l = true ∧ l ≠ [] ∧ l.take 1 ≠ [48] ∧ l.length ≤ 10 ∧ digitsVal l ≤ 1000000000 then some (digitsVal l) else none
def numD (l : List Nat) : D := match numOf l with
  | some n => .int n
  | none => .non
theorem str_empty_iff (s : Str) : s = ("" : Str) ↔ tl s = [] := by
  have e : tl ("" : Str) = [] := by decide +kernel
  constructor
  · rintro rfl; exact e
  · intro h; exact ext_tl (h.trans e.symm)
theorem tl_0 : tl ("0" : Str) = [48] := by decide +kernel
theorem numD_bad {l : List Nat} (h : ¬ (digs l = true ∧ l ≠ [] ∧ l.take 1 ≠ [48] ∧ l.length ≤ 10 ∧ digitsVal l ≤ 1000000000)) : numD l = .non := by
  unfold numD numOf
  rw [if_neg h]
theorem e_number_of (s : Str) (hs : s.length ≤ 100000) : f_number_of [.str s] = some (numD (tl s)) := by
  have hl : s.length = (tl s).length := len_tl s
  refine f_of rfl (w_seq ?_)
  refine w_for (fun rest ρ => ∃ (l m : List Nat) (o : Sl), tl s = l ++ m ∧ rest = m.map chD ∧ digs l = true ∧ ρ = [.val (.str s), o]) (x_I (x_var rfl) (itS_str s)) ⟨[], tl s, .junk, rfl, rfl, rfl, rfl⟩ ?_ ?_
  · rintro d rest ρ ⟨l, m, o, e1, e2, e3, rfl⟩
    cases m with
    | nil => cases e2
    | cons c m =>
      cases e2
      refine ⟨_, rfl, ?_⟩
      refine w_if (x := !decide (c ∈ (Str.ofString "0123456789").cps.toList)) (by walk_at "x") (fun h => ?_) (fun h => ?_)
      · refine w_ret (d := .non) (by walk_at "x") ?_
        have hc : ¬ (48 ≤ c ∧ c ≤ 57) := by
          rw [← dig_mem]
          simpa using h
        refine (numD_bad fun hb => hc ?_).symm
        have := List.all_eq_true.mp hb.1 c (by rw [e1]; simp)
        exact of_decide_eq_true this
      · refine w_nil ⟨l ++ [c], m, _, by rw [e1]; simp, rfl, ?_, rfl⟩
        have hc : 48 ≤ c ∧ c ≤ 57 := by
          rw [← dig_mem]
          simpa using h
        unfold digs at e3 ⊢
        rw [List.all_append, e3]
        simp [hc]
  · rintro ρ ⟨l, m, o, e1, e2, e3, rfl⟩
    cases m with
    | cons c m => cases e2
    | nil =>
      rw [List.append_nil] at e1
      rw [← e1] at e3
      have hiv : tl s ≠ [] → PySem.intText? s = some ((digitsVal (tl s) : Nat) : Int) ∨ ¬ s.length ≤ 10 := fun h0 => by
        by_cases h10 : s.length ≤ 10
        · exact .inl (intText_digits (digs_all e3) h0 (by omega))
        · exact .inr h10
      refine w_seq (w_if (x := decide (s = ("" : Str)) || (Txt.startswith s "0" || (decide ((10 : Int) < (s.length : Int)) || decide ((1000000000 : Int) < ((digitsVal (tl s) : Nat) : Int))))) ?_ (fun h => ?_) (fun h => ?_))
      · refine x_tor (by walk_at "x") fun h1 => x_tor (by walk_at "x") fun h2 => x_tor (by walk_at "x") fun h3 => ?_
        have h0 : tl s ≠ [] := fun z => by
          have := of_decide_eq_false h1
          exact this ((str_empty_iff s).mpr z)
        have h10 : s.length ≤ 10 := by
          have := of_decide_eq_false h3
          omega
        rcases hiv h0 with hv | hv
        · refine x_tB (x_f2 (x_L (x_cons (x_var rfl) x_nil) (x_intS (by omega) hv)) x_C x_gt)
        · exact absurd h10 hv
      · refine w_ret (d := .non) (by walk_at "x") ?_
        refine (numD_bad fun hb => ?_).symm
        obtain ⟨b1, b2, b3, b4, b5⟩ := hb
        rw [starts_eq, tl_0] at h
        simp only [Bool.or_eq_true, decide_eq_true_eq, beq_iff_eq] at h
        rcases h with h | h | h | h
        · exact b2 ((str_empty_iff s).mp h)
        · exact b3 h
        · omega
        · omega
      · rw [starts_eq, tl_0] at h
        simp only [Bool.or_eq_false_iff, decide_eq_false_iff_not, beq_eq_false_iff_ne] at h
        obtain ⟨h1, h2, h3, h4⟩ := h
        have h0 : tl s ≠ [] := fun z => h1 ((str_empty_iff s).mpr z)
        have h10 : s.length ≤ 10 := by omega
        have e : numD (tl s) = .int ((digitsVal (tl s) : Nat) : Int) := by
          unfold numD numOf
          rw [if_pos ⟨e3, h0, h2, by omega, by omega⟩]
        refine w_nil ?_
        refine w_ret (d := .int ((digitsVal (tl s) : Nat) : Int)) ?_ e.symm
        rcases hiv h0 with hv | hv
        · exact x_L (x_cons (x_var rfl) x_nil) (x_intS (by omega) hv)
        · exact absurd h10 hv
def isThg (l : List Nat) : Bool := match dash l with
  | some (a, b) => isOff a && (numOf b).isSome
  | none => false
theorem dash_len {l a b : List Nat} (h : dash l = some (a, b)) : a.length + b.length + 1 = l.length := by
  rw [(dash_some h).1, List.length_append, List.length_cons]
  omega
theorem x_notN_num {l : List Nat} : gNotN (numD l) .non = some (.bool (numOf l).isSome) := by
  unfold numD
  cases numOf l <;> rfl
theorem e_is_thing (s : Str) (hs : s.length ≤ 100000) : f_is_thing [.str s] = some (.bool (isThg (tl s))) := by
  have hl : s.length = (tl s).length := len_tl s
  refine f_of rfl (w_seq ?_)
  have hp := partition_dash s
  have hx : fM gPartition (fVar 0) (fCons (fC (.str "-")) fNil) (rho0 N_is_thing [D.str s]) = some (.tup [.str (Txt.partition s "-").1, .str (Txt.partition s "-").2.1, .str (Txt.partition s "-").2.2]) :=
    x_M (x_var rfl) (x_cons x_C x_nil) (x_partM (by decide +kernel) (by rw [sizeLine_eq]; omega))
  refine w_asg3 hx ?_
  unfold isThg
  cases q : dash (tl s) with
  | none =>
    rw [q] at hp
    rw [hp]
    refine w_ret (d := .bool false) ?_ rfl
    have e : decide (Str.empty = ("" : Str)) = true := by decide +kernel
    refine x_and (x := false) (x_f2 (x_var rfl) x_C (x_neS.trans (by rw [e]; rfl))) (y := false) fun h => nomatch h
  | some p =>
    obtain ⟨a, b⟩ := p
    rw [q] at hp
    have hab := dash_len q
    rw [hp]
    have e : decide (("-" : Str) = ("" : Str)) = false := by decide +kernel
    have ha := e_is_office ⟨a.toArray⟩ (by rw [len_tl, tl_mk]; omega)
    have hb := e_number_of ⟨b.toArray⟩ (by rw [len_tl, tl_mk]; omega)
    rw [tl_mk] at ha hb
    refine w_ret (d := .bool (isOff a && (numOf b).isSome)) ?_ rfl
    refine (x_and (x := true) (x_f2 (x_var rfl) x_C (x_neS.trans (by rw [e]; rfl))) fun _ => ?_)
    refine x_and (x_L (x_cons (x_var rfl) x_nil) ha) fun _ => ?_
    exact x_f2 (x_L (x_cons (x_var rfl) x_nil) hb) x_C x_notN_num

theorem e_id_of (o : Str) (n : Nat) (ho : o.length ≤ 100000) (hn : n ≤ 1000000000) : f_id_of [.str o, .int (n : Int)] = some (.str (o ++ "-" ++ Str.ofString (toString (n : Int)))) := by
  have e1 : ("-" : Str).length = 1 := by decide +kernel
  have h2 : (Str.ofString (toString (n : Int))).length ≤ 10 := by
    rw [len_tl, tl_num]
    exact numL_len (by decide) (by omega)
  refine f_of rfl (w_ret ?_ rfl)
  refine x_f2 (x_f2 (x_var rfl) x_C (x_addS (by rw [e1, sizeLine_eq]; omega))) (x_L (x_cons (x_var rfl) x_nil) (x_str ?_)) (x_addS ?_)
  · have : (n : Int).natAbs.log2 ≤ 40 := by
      have h3 : (n : Int).natAbs = n := Int.natAbs_natCast n
      rw [h3]
      by_cases h0 : n = 0
      · subst h0; decide
      · have := (Nat.log2_lt h0 (k := 40)).mpr (by omega)
        omega
    omega
  · have e3 : (o ++ ("-" : Str)).length = o.length + 1 := by rw [len_tl, tl_append, List.length_append, ← len_tl, ← len_tl, e1]
    rw [sizeLine_eq]
    show (o ++ ("-" : Str)).length + (Str.ofString (toString (n : Int))).length ≤ _
    omega
theorem e_maker_of (s : Str) (hs : s.length ≤ 100000) {a b : List Nat} {n : Nat} (h : dash (tl s) = some (a, b)) (hb : numOf b = some n) : f_maker_of [.str s] = some (.tup [.str ⟨a.toArray⟩, .int (n : Int)]) := by
  have hl : s.length = (tl s).length := len_tl s
  have hp := partition_dash s
  rw [h] at hp
  have hx : fM gPartition (fVar 0) (fCons (fC (.str "-")) fNil) (rho0 N_maker_of [D.str s]) = some (.tup [.str (Txt.partition s "-").1, .str (Txt.partition s "-").2.1, .str (Txt.partition s "-").2.2]) :=
    x_M (x_var rfl) (x_cons x_C x_nil) (x_partM (by decide +kernel) (by rw [sizeLine_eq]; omega))
  rw [hp] at hx
  simp only [] at hx
  have hab := dash_len h
  have hv : PySem.intText? (⟨b.toArray⟩ : Str) = some (n : Int) ∧ (⟨b.toArray⟩ : Str).length ≤ 10 := by
    unfold numOf at hb
    by_cases hc : digs b = true ∧ b ≠ [] ∧ b.take 1 ≠ [48] ∧ b.length ≤ 10 ∧ digitsVal b ≤ 1000000000
    · rw [if_pos hc] at hb
      cases hb
      have hl2 : (⟨b.toArray⟩ : Str).length = b.length := by rw [len_tl, tl_mk]
      exact ⟨intText_digits (x := ⟨b.toArray⟩) (by rw [show (⟨b.toArray⟩ : Str).cps.toList = b from rfl]; exact digs_all hc.1) hc.2.1 (by omega), by omega⟩
    · rw [if_neg hc] at hb
      cases hb
  refine f_of rfl (w_seq (w_asg3 hx (w_ret ?_ rfl)))
  exact x_L (x_cons (x_var rfl) (x_cons (x_L (x_cons (x_var rfl) x_nil) (x_intS (by omega) hv.1)) x_nil)) (x_tupD (by rw [sizeLine_eq]; simp))
/-! the law's own functions -/
theorem e_cell (ns : List Int) (k : Nat) (hk : k < 1000) : ∃ c : Int, f_L_cell [.scr ns, .int (k : Int)] = some (.int c) := by
  obtain ⟨d, h1, c, rfl⟩ := f_ex (n := 2) (N := N_L_cell) (g := g_L_cell) (ds := [.scr ns, .int (k : Int)]) (P := fun d => ∃ c, d = .int c) rfl (w_seq (w_if (x := decide ((k : Int) < (ns.length : Int))) (by walk_at "x") (fun h => by
    have hk' : k < ns.length := by have := of_decide_eq_true h; omega
    exact w_ret (d := .int ns[k]) (x_L (x_cons (x_f2 (x_var rfl) (x_var rfl) (x_ixN (atI_n (a := ns[k]) (by simp [hk'])))) x_nil) x_int) ⟨_, rfl⟩) (fun h => w_nil (w_ret (d := .int (7 * (k : Int))) (by walk_at "x") ⟨_, rfl⟩))))
  exact ⟨c, h1⟩

theorem rngD_eq (n : Nat) : rngD 0 n = (List.range n).map fun (k : Nat) => D.int (0 + (k : Nat)) := rfl
theorem isOff_app {l : List Nat} {c : Nat} (h : (l.all fun c => decide (97 ≤ c ∧ c ≤ 122)) = true) (hc : 97 ≤ c ∧ c ≤ 122) : ((l ++ [c]).all fun c => decide (97 ≤ c ∧ c ≤ 122)) = true := by
  rw [List.all_append, h]
  simp [hc]
theorem len26 : (Str.ofString "abcdefghijklmnopqrstuvwxyz").cps.toList.length = 26 := by decide +kernel
theorem len26' : (Str.ofString "abcdefghijklmnopqrstuvwxyz").length = 26 := by decide +kernel
theorem e_office (c : Int) : ∃ s : Str, f_L_office [.int c] = some (.str s) ∧ isOff (tl s) = true := by
  obtain ⟨d, h1, s, rfl, h2⟩ := f_ex (n := 1) (N := N_L_office) (g := g_L_office) (ds := [.int c]) (P := fun d => ∃ s : Str, d = .str s ∧ isOff (tl s) = true) rfl
    (by
      refine w_seq (w_asg x_C (w_seq (w_asg (d := .int (if c < 0 then -c else c)) (by walk_at "x") (w_seq ?_))))
      have hr0 : 0 ≤ (if c < 0 then -c else c) := by split <;> omega
      generalize (if c < 0 then -c else c) = r0 at hr0
      have hm0 : 0 ≤ r0 % 12 := Int.emod_nonneg _ (by decide)
      have hm1 : r0 % 12 < 12 := Int.emod_lt_of_pos _ (by decide)
      refine w_for (fun rest ρ => ∃ (i n : Nat) (s : Str) (r : Int) (o : Sl), i + n = (1 + r0 % 12).toNat ∧ rest = ((List.range n).map fun (k : Nat) => D.int (((i + k : Nat) : Int))) ∧ s.length = i ∧ ((tl s).all fun c => decide (97 ≤ c ∧ c ≤ 122)) = true ∧ 0 ≤ r ∧ ρ = [.val (.int c), .val (.str s), .val (.int r), o])
        (ds := rngD 0 (1 + r0 % 12).toNat) (x_Is (x_cons (a := .int (1 + r0 % 12)) (by walk_at "x") x_nil) (x_R1' (by omega) (by omega)))
        ⟨0, (1 + r0 % 12).toNat, Str.ofString "", r0, .junk, by omega, ?_, by decide +kernel, by decide +kernel, hr0, rfl⟩ ?_ ?_
      · unfold rngD
        simp
      · rintro d rest ρ ⟨i, n, s, r, o, e1, e2, e3, e4, e5, rfl⟩
        cases n with
        | zero => cases e2
        | succ n =>
          rw [List.range_succ_eq_map, List.map_cons] at e2
          cases e2
          have hi12 : i < 12 := by omega
          have q0 : 0 ≤ r / 12 % 26 := Int.emod_nonneg _ (by decide)
          have q1 : r / 12 % 26 < 26 := Int.emod_lt_of_pos _ (by decide)
          have hix : (r / 12 % 26).toNat < (Str.ofString "abcdefghijklmnopqrstuvwxyz").cps.toList.length := by rw [len26]; omega
          have hc := (az_mem _).mp (List.getElem_mem hix)
          generalize hg : (Str.ofString "abcdefghijklmnopqrstuvwxyz").cps.toList[(r / 12 % 26).toNat] = ch at hc
          have e6 : atI (Str.ofString "abcdefghijklmnopqrstuvwxyz").cps.toList (r / 12 % 26) = some ch := atI_pos q0 (by rw [List.getElem?_eq_getElem hix, hg])
          refine ⟨_, rfl, w_seq (w_asg (d := .str (s ++ ⟨#[ch]⟩)) ?_ (w_asg (d := .int (r / 7 + 31 * ((i + 0 : Nat) : Int))) (by walk_at "x") ?_))⟩
          · refine x_f2 (x_var rfl) (x_f2 x_C (b := .int (r / 12 % 26)) (by walk_at "x") (x_ixS (by rw [len26', sizeLine_eq]; omega) e6)) (x_addS ?_)
            show s.length + 1 ≤ sizeLine
            rw [sizeLine_eq]
            omega
          · refine ⟨i + 1, n, _, _, _, by omega, ?_, ?_, ?_, ?_, rfl⟩
            · rw [List.map_map]
              refine List.map_congr_left fun k _ => ?_
              show D.int _ = D.int _
              congr 2
              omega
            · rw [len_tl, tl_append, List.length_append, ← len_tl, e3]
              rfl
            · rw [tl_append]
              exact isOff_app e4 hc
            · have h7 : 0 ≤ r / 7 := Int.ediv_nonneg e5 (by decide)
              omega
      · rintro ρ ⟨i, n, s, r, o, e1, e2, e3, e4, e5, rfl⟩
        cases n with
        | succ n => rw [List.range_succ_eq_map, List.map_cons] at e2; cases e2
        | zero =>
          refine w_ret (x_var rfl) ⟨s, rfl, ?_⟩
          unfold isOff
          rw [e4, Bool.and_true, decide_eq_true_eq, ← len_tl, e3]
          omega)
  exact ⟨s, h1, h2⟩
theorem e_number (c : Int) : ∃ n : Nat, f_L_number [.int c] = some (.int (n : Int)) ∧ 1 ≤ n ∧ n ≤ 1000000000 := by
  have m0 : 0 ≤ c % 4 := Int.emod_nonneg _ (by decide)
  have m1 : c % 4 < 4 := Int.emod_lt_of_pos _ (by decide)
  have a0 : 0 ≤ c / 4 % 9 := Int.emod_nonneg _ (by decide)
  have a1 : c / 4 % 9 < 9 := Int.emod_lt_of_pos _ (by decide)
  have b0 : 0 ≤ c / 4 % 1000000000 := Int.emod_nonneg _ (by decide)
  have b1 : c / 4 % 1000000000 < 1000000000 := Int.emod_lt_of_pos _ (by decide)
  have c0 : 0 ≤ c / 4 % 3 := Int.emod_nonneg _ (by decide)
  have c1 : c / 4 % 3 < 3 := Int.emod_lt_of_pos _ (by decide)
  have d0 : 0 ≤ c / 4 % 200 := Int.emod_nonneg _ (by decide)
  have d1 : c / 4 % 200 < 200 := Int.emod_lt_of_pos _ (by decide)
  have key : ∀ n : Int, atI [D.int (1 + c / 4 % 9), .int (1 + c / 4 % 1000000000), .int (1000000000 - c / 4 % 3), .int (1 + c / 4 % 200)] (c % 4) = some (.int n) → f_L_number [.int c] = some (.int n) := fun n hn =>
    f_of rfl (w_ret (x_f2 (a := .lst [D.int (1 + c / 4 % 9), .int (1 + c / 4 % 1000000000), .int (1000000000 - c / 4 % 3), .int (1 + c / 4 % 200)]) (b := .int (c % 4)) (by walk_at "x") (by walk_at "x") (x_ixL hn)) rfl)
  have cases : c % 4 = 0 ∨ c % 4 = 1 ∨ c % 4 = 2 ∨ c % 4 = 3 := by omega
  rcases cases with h | h | h | h
  · exact ⟨(1 + c / 4 % 9).toNat, by rw [Int.toNat_of_nonneg (by omega)]; exact key _ (by rw [h]; rfl), by omega, by omega⟩
  · exact ⟨(1 + c / 4 % 1000000000).toNat, by rw [Int.toNat_of_nonneg (by omega)]; exact key _ (by rw [h]; rfl), by omega, by omega⟩
  · exact ⟨(1000000000 - c / 4 % 3).toNat, by rw [Int.toNat_of_nonneg (by omega)]; exact key _ (by rw [h]; rfl), by omega, by omega⟩
  · exact ⟨(1 + c / 4 % 200).toNat, by rw [Int.toNat_of_nonneg (by omega)]; exact key _ (by rw [h]; rfl), by omega, by omega⟩
theorem len13 : (Str.ofString "abz-0A19_ y-x").cps.toList.length = 13 := by decide +kernel
theorem len13' : (Str.ofString "abz-0A19_ y-x").length = 13 := by decide +kernel
theorem e_text (c : Int) : ∃ s : Str, f_L_text [.int c] = some (.str s) ∧ s.length ≤ 100 ∧ ∀ ch ∈ tl s, ch < 0x110000 := by
  obtain ⟨d, h1, s, rfl, h2⟩ := f_ex (n := 1) (N := N_L_text) (g := g_L_text) (ds := [.int c]) (P := fun d => ∃ s : Str, d = .str s ∧ s.length ≤ 100 ∧ ∀ ch ∈ tl s, ch < 0x110000) rfl
    (by
      refine w_seq (w_asg x_C (w_seq (w_asg x_C (w_seq (w_asg (d := .int (if c < 0 then -c else c)) (by walk_at "x") (w_seq ?_))))))
      have hr0 : 0 ≤ (if c < 0 then -c else c) := by split <;> omega
      generalize (if c < 0 then -c else c) = r0 at hr0
      have hm0 : 0 ≤ r0 % 16 := Int.emod_nonneg _ (by decide)
      have hm1 : r0 % 16 < 16 := Int.emod_lt_of_pos _ (by decide)
      refine w_for (fun rest ρ => ∃ (i n : Nat) (s : Str) (r : Int) (o : Sl), i + n = (r0 % 16).toNat ∧ rest = ((List.range n).map fun (k : Nat) => D.int (((i + k : Nat) : Int))) ∧ s.length = i ∧ (∀ ch ∈ tl s, ch < 0x110000) ∧ 0 ≤ r ∧ ρ = [.val (.int c), .val (.str (Str.ofString "abz-0A19_ y-x")), .val (.str s), .val (.int r), o])
        (ds := rngD 0 (r0 % 16).toNat) (x_Is (x_cons (a := .int (r0 % 16)) (by walk_at "x") x_nil) (x_R1' (by omega) (by omega)))
        ⟨0, (r0 % 16).toNat, Str.ofString "", r0, .junk, by omega, ?_, by decide +kernel, by decide +kernel, hr0, rfl⟩ ?_ ?_
      · unfold rngD
        simp
      · rintro d rest ρ ⟨i, n, s, r, o, e1, e2, e3, e4, e5, rfl⟩
        cases n with
        | zero => cases e2
        | succ n =>
          rw [List.range_succ_eq_map, List.map_cons] at e2
          cases e2
          have q0 : 0 ≤ r / 16 % 13 := Int.emod_nonneg _ (by decide)
          have q1 : r / 16 % 13 < 13 := Int.emod_lt_of_pos _ (by decide)
          have hix : (r / 16 % 13).toNat < (Str.ofString "abz-0A19_ y-x").cps.toList.length := by rw [len13]; omega
          have e6 := atI_pos (xs := (Str.ofString "abz-0A19_ y-x").cps.toList) q0 (List.getElem?_eq_getElem hix)
          refine ⟨_, rfl, w_seq (w_asg (x_f2 (x_var rfl) (x_f2 (x_var rfl) (b := .int (r / 16 % 13)) (by walk_at "x") (x_ixS (by rw [len13', sizeLine_eq]; omega) e6)) (x_addS ?_)) (w_asg (d := .int (r / 13 + 5 * ((i + 0 : Nat) : Int))) (by walk_at "x") ?_))⟩
          · show s.length + 1 ≤ sizeLine
            rw [sizeLine_eq]
            omega
          · refine ⟨i + 1, n, _, _, _, by omega, ?_, ?_, ?_, ?_, rfl⟩
            · rw [List.map_map]
              refine List.map_congr_left fun k _ => ?_
              show D.int _ = D.int _
              congr 2
              omega
            · rw [len_tl, tl_append, List.length_append, ← len_tl, e3]
              rfl
            · intro ch hch
              rw [tl_append, List.mem_append] at hch
              rcases hch with h | h
              · exact e4 ch h
              · have e8 : ∀ c ∈ (Str.ofString "abz-0A19_ y-x").cps.toList, c < 0x110000 := by decide +kernel
                have e9 : ch = (Str.ofString "abz-0A19_ y-x").cps.toList[(r / 16 % 13).toNat] := by simpa [tl] using h
                rw [e9]
                exact e8 _ (List.getElem_mem hix)
            · have h7 : 0 ≤ r / 13 := Int.ediv_nonneg e5 (by decide)
              omega
      · rintro ρ ⟨i, n, s, r, o, e1, e2, e3, e4, e5, rfl⟩
        exact w_ret (x_var rfl) ⟨s, rfl, by omega, e4⟩)
  exact ⟨s, h1, h2⟩

def okc (l : List Nat) : Prop := ∀ c ∈ l, c < 0x110000
theorem strOk_of {s : Str} (h : okc (tl s)) : PyData.strOk s = true := by
  unfold PyData.strOk
  rw [Array.all_eq_true']
  intro c hc
  exact decide_eq_true (h c (by simpa using hc))
theorem shaped_chs {l : List Nat} (h : okc l) : SeqAt.shaped (D.lst (l.map chD)).py = true := by
  have h1 : ∀ l : List Nat, okc l → PyData.canLayAll0 (D.pyA (l.map chD)) = true ∧ PyData.depthAll (D.pyA (l.map chD)) = 0 := by
    intro l
    induction l with
    | nil => intro _; exact ⟨rfl, rfl⟩
    | cons c l ih =>
      intro h
      obtain ⟨a, b⟩ := ih fun d hd => h d (by simp [hd])
      have hc := h c (by simp)
      refine ⟨?_, ?_⟩
      · show (PyData.strOk ⟨#[c]⟩ && PyData.canLayAll0 (D.pyA (l.map chD))) = true
        rw [a, strOk_of (s := ⟨#[c]⟩) (fun d hd => by have : d = c := by simpa [tl] using hd
                                                      omega)]
        rfl
      · show max 0 (PyData.depthAll (D.pyA (l.map chD))) = 0
        rw [b]
        rfl
  obtain ⟨a, b⟩ := h1 l h
  unfold SeqAt.shaped
  show (PyData.canLayAll0 (D.pyA (l.map chD)) && decide (PyData.depthAll (D.pyA (l.map chD)) + 1 ≤ 64)) = true
  rw [a, b]
  rfl
theorem shaped_nil : SeqAt.shaped (D.lst []).py = true := by decide +kernel
theorem eqv_chs (l : List Nat) : PyData.eqv (D.lst (l.map chD)).py (D.lst []).py = l.isEmpty := by
  cases l with
  | nil => rfl
  | cons c l => rfl
theorem lt_one (a b : Nat) : decide (([a] : List Nat) < [b]) = decide (a < b) := by
  rw [Bool.eq_iff_iff, decide_eq_true_eq, decide_eq_true_eq]
  constructor
  · intro h
    cases h with
    | rel h => exact h
    | cons h => exact nomatch h
  · exact fun h => .rel h
theorem tl_a : tl ("a" : Str) = [97] := by decide +kernel
theorem tl_z : tl ("z" : Str) = [122] := by decide +kernel
theorem tl_9 : tl ("9" : Str) = [57] := by decide +kernel
theorem okc_filter {l : List Nat} (h : okc l) (p : Nat → Bool) : okc (l.filter p) := fun c hc => h c (List.mem_filter.mp hc).1
theorem comp_ends {s lo hi : Str} {a b i : Nat} {ρ : Rho} {f : F} (hs : s.length ≤ 100000) (ea : tl lo = [a]) (eb : tl hi = [b]) (h1 : f ρ = some (.str s)) (hi1 : ρ.length = i + 1) :
    fLc (fI itS f) (st1 i) (ftOr (ftB (f2 gLt (fVar i) (fC (.str lo)))) (ftB (f2 gGt (fVar i) (fC (.str hi))))) (fVar i) [i] ρ = some (.lst (((tl s).filter fun c => decide (c < a) || decide (b < c)).map chD)) := by
  refine x_lc (x_I h1 (itS_str s)) (by rw [List.length_map, ← len_tl]; omega) ?_
  refine x_lcGo (inj := chD) (p := fun c => decide (c < a) || decide (b < c)) (v := chD) fun c _ => ⟨(wipeR ρ [i]).set i (.val (chD c)), rfl, ?_, fun _ => ?_⟩
  · have hv : fVar i ((wipeR ρ [i]).set i (.val (chD c))) = some (chD c) := x_var (List.getElem?_set_self (by simp [wipeR, hi1]))
    refine x_tor (x_tB (x_f2 hv x_C (x_ltS.trans ?_))) fun _ => x_tB (x_f2 hv x_C (x_gtS.trans ?_))
    · show some (D.bool (decide ([c] < tl lo))) = _
      rw [ea, lt_one]
    · show some (D.bool (decide (tl hi < [c]))) = _
      rw [eb, lt_one]
  · exact x_var (List.getElem?_set_self (by simp [wipeR, hi1]))
theorem filter_az (l : List Nat) : (l.filter fun c => decide (c < 97) || decide (122 < c)).isEmpty = l.all fun c => decide (97 ≤ c ∧ c ≤ 122) := by
  induction l with
  | nil => rfl
  | cons c l ih =>
    rw [List.all_cons, ← ih, List.filter_cons]
    by_cases h : 97 ≤ c ∧ c ≤ 122
    · have e : (decide (c < 97) || decide (122 < c)) = false := by simp; omega
      rw [e, decide_eq_true h]
      simp
    · have e : (decide (c < 97) || decide (122 < c)) = true := by simp; omega
      rw [e, decide_eq_false h]
      simp
theorem filter_09 (l : List Nat) : (l.filter fun c => decide (c < 48) || decide (57 < c)).isEmpty = digs l := by
  unfold digs
  induction l with
  | nil => rfl
  | cons c l ih =>
    rw [List.all_cons, ← ih, List.filter_cons]
    by_cases h : 48 ≤ c ∧ c ≤ 57
    · have e : (decide (c < 48) || decide (57 < c)) = false := by simp; omega
      rw [e, decide_eq_true h]
      simp
    · have e : (decide (c < 48) || decide (57 < c)) = true := by simp; omega
      rw [e, decide_eq_false h]
      simp
theorem e_Lis_office (s : Str) (hs : s.length ≤ 100000) (ho : okc (tl s)) : f_L_is_office [.str s] = some (.bool (isOff (tl s))) := by
  have hl : s.length = (tl s).length := len_tl s
  refine f_of rfl (w_ret (d := .bool (isOff (tl s))) ?_ rfl)
  have e : isOff (tl s) = ((decide ((1 : Int) ≤ (s.length : Int)) && decide ((s.length : Int) ≤ 12)) && (tl s).all fun c => decide (97 ≤ c ∧ c ≤ 122)) := by
    unfold isOff
    congr 1
    rw [← hl, Bool.eq_iff_iff]
    simp only [decide_eq_true_eq, Bool.and_eq_true]
    omega
  rw [e, ← filter_az]
  refine x_and (by walk_at "x") fun _ => ?_
  refine x_f2 (comp_ends hs tl_a tl_z (x_var rfl) rfl) (x_L x_nil (x_lstD (by rw [sizeLine_eq]; simp))) ((x_eqD rfl (shaped_chs (okc_filter ho _)) shaped_nil).trans ?_)
  rw [eqv_chs]
theorem e_Lis_number (s : Str) (hs : s.length ≤ 100000) (ho : okc (tl s)) : f_L_is_number [.str s] = some (.bool (numOf (tl s)).isSome) := by
  have hl : s.length = (tl s).length := len_tl s
  refine f_of rfl (w_seq ?_)
  have t10 : (tl s).take 1 = [48] ↔ ∃ r, tl s = 48 :: r := by
    cases tl s with
    | nil => simp
    | cons c r => simp
  refine w_if (x := decide (s = ("" : Str)) || (decide ((tl s).take 1 = [48]) || (decide ((10 : Int) < (s.length : Int)) || !digs (tl s)))) ?_ (fun h => ?_) (fun h => ?_)
  · refine x_tor (by walk_at "x") fun h1 => x_tor ?_ fun h2 => x_tor (by walk_at "x") fun h3 => ?_
    · have h0 : tl s ≠ [] := fun z => (of_decide_eq_false h1) ((str_empty_iff s).mpr z)
      obtain ⟨c, r, hc⟩ : ∃ c r, tl s = c :: r := by
        cases q : tl s with
        | nil => exact absurd q h0
        | cons c r => exact ⟨c, r, rfl⟩
      refine x_tB (x_f2 (x_f2 (x_var rfl) x_C (x_ixS (k := c) (by rw [sizeLine_eq]; omega) (atI_pos (by decide) ?_))) x_C (x_eqS.trans ?_))
      · show (tl s)[0]? = some c
        rw [hc]
        rfl
      · congr 2
        rw [hc, Bool.eq_iff_iff, decide_eq_true_eq, decide_eq_true_eq]
        constructor
        · intro z
          have := congrArg tl z
          rw [tl_0] at this
          simpa [tl] using this
        · intro z
          refine ext_tl ?_
          rw [tl_0]
          simpa [tl] using z
    · refine x_tB (x_f2 (comp_ends hs tl_0 tl_9 (x_var rfl) rfl) (x_L x_nil (x_lstD (by rw [sizeLine_eq]; simp))) ((x_neD rfl (shaped_chs (okc_filter ho _)) shaped_nil).trans ?_))
      rw [eqv_chs, filter_09]
  · refine w_ret (d := .bool false) (by walk_at "x") ?_
    have : numOf (tl s) = none := by
      unfold numOf
      refine if_neg fun hb => ?_
      obtain ⟨b1, b2, b3, b4, b5⟩ := hb
      rw [b1] at h
      simp only [Bool.or_eq_true, decide_eq_true_eq, Bool.not_true, Bool.false_eq_true, or_false] at h
      rcases h with h | h | h
      · exact b2 ((str_empty_iff s).mp h)
      · exact b3 h
      · omega
    rw [this]
    exact rfl
  · simp only [Bool.or_eq_false_iff, decide_eq_false_iff_not, Bool.not_eq_false'] at h
    obtain ⟨h1, h2, h3, h4⟩ := h
    have h0 : tl s ≠ [] := fun z => h1 ((str_empty_iff s).mpr z)
    have hv := intText_digits (x := s) (digs_all h4) h0 (by omega)
    refine w_nil (w_ret (x_f2 (x_L (x_cons (x_var rfl) x_nil) (x_intS (by omega) hv)) x_C x_le) ?_)
    show D.bool _ = D.bool _
    congr 1
    unfold numOf
    rw [Bool.eq_iff_iff, decide_eq_true_eq]
    constructor
    · intro z
      have z' : ((digitsVal (tl s) : Nat) : Int) ≤ 1000000000 := z
      rw [if_pos ⟨h4, h0, h2, by omega, by omega⟩]
      rfl
    · intro z
      by_cases hb : digs (tl s) = true ∧ tl s ≠ [] ∧ (tl s).take 1 ≠ [48] ∧ (tl s).length ≤ 10 ∧ digitsVal (tl s) ≤ 1000000000
      · have := hb.2.2.2.2
        show ((digitsVal (tl s) : Nat) : Int) ≤ _
        omega
      · rw [if_neg hb] at z
        cases z
/-- the places of the dashes -/
def plc (l : List Nat) : List Nat := (List.range l.length).filter fun k => decide (l[k]? = some 45)
theorem plc_cons (c : Nat) (l : List Nat) : plc (c :: l) = (if c = 45 then [0] else []) ++ (plc l).map (· + 1) := by
  unfold plc
  rw [List.length_cons, List.range_succ_eq_map, List.filter_cons, List.filter_map]
  have e : (fun k => decide ((c :: l)[k]? = some 45)) ∘ Nat.succ = fun k => decide (l[k]? = some 45) := by
    funext k
    simp
  rw [e]
  by_cases h : c = 45
  · rw [if_pos h, if_pos (by simp [h])]
    rfl
  · rw [if_neg h, if_neg (by simp [h])]
    rfl
theorem plc_nil_iff (l : List Nat) : plc l = [] ↔ 45 ∉ l := by
  induction l with
  | nil => simp [plc]
  | cons c l ih =>
    rw [plc_cons]
    by_cases h : c = 45
    · simp [h]
    · rw [if_neg h, List.nil_append, List.map_eq_nil_iff, ih]
      simp only [List.mem_cons, not_or]
      exact ⟨fun z => ⟨fun w => h w.symm, z⟩, fun z => z.2⟩
theorem plc_app (a b : List Nat) (h : 45 ∉ a) : plc (a ++ 45 :: b) = a.length :: (plc b).map (· + (a.length + 1)) := by
  induction a with
  | nil => rw [List.nil_append, plc_cons]; simp
  | cons c a ih =>
    have h1 : c ≠ 45 := fun z => h (by simp [z])
    have h2 : 45 ∉ a := fun z => h (by simp [z])
    rw [List.cons_append, plc_cons, if_neg h1, List.nil_append, ih h2, List.map_cons, List.map_map, List.length_cons]
    refine congrArg _ (List.map_congr_left fun k _ => ?_)
    show k + (a.length + 1) + 1 = _
    omega
theorem six_some {n d k : Nat} (hk : k ≤ n) : HT.sIx n d (some (k : Int)) = k := by
  unfold HT.sIx
  simp only []
  rw [if_neg (by omega), Int.toNat_natCast, Nat.min_eq_left hk]
theorem cut_to (s : Str) (k : Nat) (hk : k ≤ s.length) : tl (cutS s none (some (k : Int))) = (tl s).take k := by
  show (((tl s).drop (HT.sIx s.length 0 none)).take (HT.sIx s.length s.length (some (k : Int)) - HT.sIx s.length 0 none)) = _
  rw [six_some hk, HT.sIx_none, List.drop_zero, Nat.sub_zero]
theorem cut_from (s : Str) (k : Nat) (hk : k ≤ s.length) : tl (cutS s (some (k : Int)) none) = (tl s).drop k := by
  show (((tl s).drop (HT.sIx s.length 0 (some (k : Int)))).take (HT.sIx s.length s.length none - HT.sIx s.length 0 (some (k : Int)))) = _
  rw [six_some hk, HT.sIx_none, List.take_of_length_le]
  rw [List.length_drop, ← len_tl]
  omega
theorem e_Lis_thing (s : Str) (hs : s.length ≤ 100000) (ho : okc (tl s)) : f_L_is_thing [.str s] = some (.bool (isThg (tl s))) := by
  have hl : s.length = (tl s).length := len_tl s
  have hc : fLc (fIs itR1 (fCons (fL gLen (fCons (fVar 0) fNil)) fNil)) (st1 2) (ftB (f2 gEq (f2 gIx (fVar 0) (fVar 2)) (fC (.str "-")))) (fVar 2) [2] [.val (.str s), .junk, .junk] = some (.lst ((plc (tl s)).map fun (k : Nat) => D.int (0 + (k : Nat)))) := by
    refine x_lc (x_Is (x_cons (a := .int s.length) (by walk_at "x") x_nil) (x_R1 (by omega))) (by unfold rngD; simp; omega) ?_
    unfold plc
    rw [← hl, rngD_eq]
    refine x_lcGo (inj := fun (k : Nat) => D.int (0 + (k : Nat))) (p := fun k => decide ((tl s)[k]? = some 45)) (v := fun (k : Nat) => D.int (0 + (k : Nat))) fun k hk => ?_
    have hk' : k < (tl s).length := by have := List.mem_range.mp hk; omega
    refine ⟨_, rfl, ?_, fun _ => x_var rfl⟩
    refine x_tB (x_f2 (x_f2 (x_var rfl) (x_var rfl) (x_ixS (k := (tl s)[k]) (by rw [sizeLine_eq]; omega) (atI_pos (by omega) ?_))) x_C (x_eqS.trans ?_))
    · rw [show (0 + ((k : Nat) : Int)).toNat = k by omega]
      exact List.getElem?_eq_getElem hk'
    · congr 2
      rw [List.getElem?_eq_getElem hk', Bool.eq_iff_iff, decide_eq_true_eq, decide_eq_true_eq]
      have e : tl ("-" : Str) = [45] := by decide +kernel
      constructor
      · intro z
        have := congrArg tl z
        rw [e] at this
        have h2 : (tl s)[k] = 45 := by simpa [tl] using this
        rw [h2]
      · intro z
        have h2 : (tl s)[k] = 45 := Option.some.inj z
        refine ext_tl ?_
        rw [e, h2]
  refine f_of rfl (w_seq (w_asg (i := 1) hc (w_seq ?_)))
  cases q : dash (tl s) with
  | none =>
    have e1 := (plc_nil_iff _).mpr (dash_none q)
    rw [e1]
    refine w_if (x := true) ?_ (fun _ => w_ret (d := .bool false) (by walk_at "x") ?_) (fun h => nomatch h)
    · exact x_tB (x_f2 (x_L (x_cons (x_var rfl) x_nil) x_lenL) x_C (x_neI.trans (by simp)))
    · unfold isThg
      rw [q]
      exact rfl
  | some p =>
    obtain ⟨a, b⟩ := p
    obtain ⟨e1, e2⟩ := dash_some q
    have e3 : plc (tl s) = a.length :: (plc b).map (· + (a.length + 1)) := by rw [e1]; exact plc_app a b e2
    have hab := dash_len q
    rw [e3]
    unfold isThg
    rw [q]
    simp only []
    by_cases hb : plc b = []
    · rw [hb]
      refine w_if (x := false) ?_ (fun h => nomatch h) (fun _ => w_nil ?_)
      · exact x_tB (x_f2 (x_L (x_cons (x_var rfl) x_nil) x_lenL) x_C (x_neI.trans (by simp)))
      · have oa : okc a := fun c hc => ho c (by rw [e1]; simp [hc])
        have ob : okc b := fun c hc => ho c (by rw [e1]; simp [hc])
        have h0 : (0 + ((a.length : Nat) : Int)) = ((a.length : Nat) : Int) := by omega
        have h1 : (0 + ((a.length : Nat) : Int) + 1) = ((a.length + 1 : Nat) : Int) := by omega
        have ta : tl (cutS s none (some (0 + ((a.length : Nat) : Int)))) = a := by
          rw [h0, cut_to s _ (by omega), e1]
          simp
        have tb : tl (cutS s (some (0 + ((a.length : Nat) : Int) + 1)) none) = b := by
          rw [h1, cut_from s _ (by omega), e1]
          simp
        have ea := e_Lis_office (cutS s none (some (0 + ((a.length : Nat) : Int)))) (by have := cutS_length s none (some (0 + ((a.length : Nat) : Int))); omega) (by rw [ta]; exact oa)
        have eb := e_Lis_number (cutS s (some (0 + ((a.length : Nat) : Int) + 1)) none) (by have := cutS_length s (some (0 + ((a.length : Nat) : Int) + 1)) none; omega) (by rw [tb]; exact ob)
        rw [ta] at ea
        rw [tb] at eb
        have hz : s.length ≤ sizeLine := by rw [sizeLine_eq]; omega
        have hp : f2 gIx (fVar 1) (fC (.int 0)) (shw [Sl.val (.str s), .val (.lst [D.int (0 + ((a.length : Nat) : Int))]), .junk]) = some (.int (0 + ((a.length : Nat) : Int))) := x_f2 (x_var rfl) x_C (x_ixL rfl)
        refine w_ret (d := .bool (isOff a && (numOf b).isSome)) ?_ rfl
        refine x_and (x_L (x_cons (x_sl (x_var rfl) x_no (x_oE hp) (if_pos hz)) x_nil) ea) fun _ => ?_
        exact x_L (x_cons (x_sl (x_var rfl) (x_oE (x_f2 hp x_C x_add)) x_no (if_pos hz)) x_nil) eb
    · have hlen : 0 < (plc b).length := List.length_pos_iff.mpr hb
      have hnum : numOf b = none := by
        unfold numOf
        refine if_neg fun z => ?_
        have h45 : 45 ∈ b := Classical.byContradiction fun w => hb ((plc_nil_iff b).mpr w)
        have := digs_all z.1 45 h45
        omega
      refine w_if (x := true) ?_ (fun _ => w_ret (d := .bool false) (by walk_at "x") ?_) (fun h => nomatch h)
      · refine x_tB (x_f2 (x_L (x_cons (x_var rfl) x_nil) x_lenL) x_C (x_neI.trans ?_))
        congr 2
        rw [Bool.not_eq_true', decide_eq_false_iff_not, List.length_map, List.length_cons, List.length_map]
        omega
      · rw [hnum, Option.isSome_none, Bool.and_false]
        exact rfl

def gd (k : Nat) (s : Str) : Prop := s.length ≤ k ∧ okc (tl s)
theorem gd_app {a b : Str} {k m : Nat} (h : gd k a) (h2 : gd m b) : gd (k + m) (a ++ b) := by
  refine ⟨?_, fun c hc => ?_⟩
  · have := h.1
    have := h2.1
    rw [len_tl] at *
    rw [tl_append, List.length_append]
    omega
  · rw [tl_append, List.mem_append] at hc
    rcases hc with hc | hc
    · exact h.2 c hc
    · exact h2.2 c hc
theorem gd_lit {s : Str} (k : Nat) (h : (decide (s.length ≤ k) && (tl s).all fun c => decide (c < 1114112)) = true) : gd k s := by
  rw [Bool.and_eq_true, decide_eq_true_eq, List.all_eq_true] at h
  exact ⟨h.1, fun c hc => of_decide_eq_true (h.2 c hc)⟩
theorem gd_num {n : Nat} (h : n ≤ 1000000000) : gd 10 (Str.ofString (toString ((n : Nat) : Int))) := by
  refine ⟨?_, fun c hc => ?_⟩
  · rw [len_tl, tl_num]
    exact numL_len (by decide) (by omega)
  · rw [tl_num] at hc
    have := numL_digits n c hc
    omega
theorem isOff_gd {s : Str} (h : isOff (tl s) = true) : gd 12 s ∧ ∀ c ∈ tl s, 97 ≤ c ∧ c ≤ 122 := by
  unfold isOff at h
  rw [Bool.and_eq_true, decide_eq_true_eq, ← len_tl, List.all_eq_true] at h
  have h2 : ∀ c ∈ tl s, 97 ≤ c ∧ c ≤ 122 := fun c hc => of_decide_eq_true (h.2 c hc)
  exact ⟨⟨h.1.2, fun c hc => by have := h2 c hc; omega⟩, h2⟩
theorem upper_az : ∀ c, 97 ≤ c → c ≤ 122 → Unicode.upperOf c = [c - 32] := by
  have : ∀ k : _root_.Fin 26, Unicode.upperOf (97 + k.val) = [97 + k.val - 32] := by decide +kernel
  intro c h1 h2
  have := this ⟨c - 97, by omega⟩
  simp only [] at this
  rw [show 97 + (c - 97) = c by omega] at this
  exact this
theorem tl_upper (s : Str) : tl (Txt.upper s) = (tl s).flatMap Unicode.upperOf := by
  unfold Txt.upper placed tl
  rw [Array.toList_flatten, Array.toList_mapIdx]
  simp only []
  rw [show (fun (i c : Nat) => (Unicode.upperOf c).toArray) = fun i c => (fun c => (Unicode.upperOf c).toArray) c from rfl, List.mapIdx_eq_zipIdx_map]
  rw [List.map_map, List.flatMap_def]
  congr 1
  have : ∀ (l : List Nat) (k : Nat), List.map (Array.toList ∘ fun x => (Unicode.upperOf x.1).toArray) (l.zipIdx k) = List.map Unicode.upperOf l := by
    intro l
    induction l with
    | nil => intro k; rfl
    | cons c l ih =>
      intro k
      rw [List.zipIdx_cons, List.map_cons, List.map_cons, ih]
      rfl
  exact this _ 0
theorem gd_upper {s : Str} (h : isOff (tl s) = true) : gd 12 (Txt.upper s) := by
  obtain ⟨h1, h2⟩ := isOff_gd h
  have e : tl (Txt.upper s) = (tl s).map fun c => c - 32 := by
    rw [tl_upper]
    have : ∀ l : List Nat, (∀ c ∈ l, 97 ≤ c ∧ c ≤ 122) → l.flatMap Unicode.upperOf = l.map fun c => c - 32 := by
      intro l
      induction l with
      | nil => intro _; rfl
      | cons c l ih =>
        intro hl
        have hc := hl c (by simp)
        rw [List.flatMap_cons, ih (fun d hd => hl d (by simp [hd])), upper_az c hc.1 hc.2]
        rfl
    exact this _ h2
  refine ⟨?_, fun c hc => ?_⟩
  · rw [len_tl, e, List.length_map, ← len_tl]
    exact h1.1
  · rw [e, List.mem_map] at hc
    obtain ⟨d, hd, rfl⟩ := hc
    have := h2 d hd
    omega
def gdD (d : D) : Prop := ∃ s : Str, d = .str s ∧ gd 100000 s
theorem gd_mono {s : Str} {k m : Nat} (h : gd k s) (hk : k ≤ m) : gd m s := ⟨Nat.le_trans h.1 hk, h.2⟩
theorem shaped_pair {s : Str} {i : Int} (h : okc (tl s)) : SeqAt.shaped (D.tup [.str s, .int i]).py = true ∧ PyData.eqv (D.tup [.str s, .int i]).py (D.tup [.str s, .int i]).py = true := by
  have h1 : (D.tup [.str s, .int i]).py.canLay0 = true := by
    show (PyData.strOk s && (true && true)) = true
    rw [strOk_of h] <;> rfl
  refine ⟨?_, SeqAt.eqv_refl _ h1⟩
  unfold SeqAt.shaped
  simp only [h1, Bool.true_and]
  exact decide_eq_true (by show 1 ≤ 64; decide)
theorem numL_head : ∀ n, 1 ≤ n → (numL n).take 1 ≠ [48] := by
  intro n
  induction n using Nat.strongRecOn with
  | _ n ih =>
    intro hn h
    by_cases h10 : n < 10
    · rw [numL_lt h10] at h
      simp at h
      omega
    · rw [numL_step (by omega), List.take_append_of_le_length] at h
      · exact ih (n / 10) (by omega) (by omega) h
      · exact List.length_pos_iff.mpr (numL_ne _)
theorem digs_num (n : Nat) : digs (numL n) = true := by
  unfold digs
  rw [List.all_eq_true]
  intro c hc
  exact decide_eq_true (numL_digits n c hc)
theorem numOf_num {n : Nat} (h1 : 1 ≤ n) (h2 : n ≤ 1000000000) : numOf (numL n) = some n := by
  have hc : digs (numL n) = true ∧ numL n ≠ [] ∧ (numL n).take 1 ≠ [48] ∧ (numL n).length ≤ 10 ∧ digitsVal (numL n) ≤ 1000000000 :=
    ⟨digs_num n, numL_ne n, numL_head n h1, numL_len (by decide) (by omega), by rw [numL_val]; exact h2⟩
  unfold numOf
  rw [if_pos hc, numL_val]
set_option maxHeartbeats 8000000 in
theorem law_true : ∀ ns : List Int, ns.length ≤ 63 → f_law [.scr ns] = some (.bool true) := by
  intro ns _
  obtain ⟨c0, hc0⟩ := e_cell ns 0 (by decide)
  obtain ⟨c1, hc1⟩ := e_cell ns 1 (by decide)
  obtain ⟨o, ho, hof⟩ := e_office c0
  obtain ⟨n, hn, n1, n2⟩ := e_number c1
  obtain ⟨go, hoz⟩ := isOff_gd hof
  have ht : ∀ k : Nat, ∃ s : Str, k < 1000 → fL f_L_text (fCons (fL f_L_cell (fCons (fVar 0) (fCons (fVar 6) fNil))) fNil) [.val (.scr ns), .val (.str o), .val (.int (n : Int)), .junk, .junk, .junk, .val (.int (k : Int))] = some (.str s) ∧ gd 100 s := by
    intro k
    by_cases hk : k < 1000
    · obtain ⟨c, hc⟩ := e_cell ns k hk
      obtain ⟨s, hs, h1, h2⟩ := e_text c
      exact ⟨s, fun _ => ⟨x_L (x_cons (x_L (x_cons (x_var rfl) (x_cons (x_var rfl) x_nil)) hc) x_nil) hs, h1, h2⟩⟩
    · exact ⟨o, fun z => absurd z hk⟩
  have gn := gd_num n2
  have gmin : gd 1 ("-" : Str) := gd_lit 1 (by decide +kernel)
  generalize hnum : Str.ofString (toString ((n : Nat) : Int)) = num at gn
  have hth := e_id_of o n (by have := go.1; omega) n2
  rw [hnum] at hth
  have gth := gd_app (gd_app go gmin) gn
  have hz : ∀ {a b : Str} {k m : Nat}, gd k a → gd m b → k + m ≤ 1000000 → a.length + b.length ≤ sizeLine := fun h1 h2 h3 => by
    have := h1.1
    have := h2.1
    rw [sizeLine_eq]
    omega
  have hlog : (n : Int).natAbs.log2 < 1920 := by
    rw [Int.natAbs_natCast]
    by_cases h0 : n = 0
    · omega
    · have := (Nat.log2_lt h0 (k := 40)).mpr (by omega)
      omega
  have hstr : gStr [.int (n : Int)] = some (.str num) := (x_str hlog).trans (by rw [hnum])
  have tlm : tl ("-" : Str) = [45] := by decide +kernel
  have htl : tl (o ++ "-" ++ num) = tl o ++ 45 :: tl num := by
    rw [tl_append, tl_append, tlm]
    simp
  have hd : dash (tl (o ++ "-" ++ num)) = some (tl o, tl num) := by
    rw [htl]
    exact dash_app fun z => by have := hoz 45 z; omega
  have hmk := e_maker_of (o ++ "-" ++ num) (by have := gth.1; omega) hd (n := n) (by rw [← hnum, tl_num]; exact numOf_num n1 n2)
  have eo : (⟨(tl o).toArray⟩ : Str) = o := mk_tl o
  rw [eo] at hmk
  have g1 := gd_app go gmin
  have l2 : gd 2 ("-0" : Str) := gd_lit 2 (by decide +kernel)
  have l3 : gd 2 ("-1" : Str) := gd_lit 2 (by decide +kernel)
  have l4 : gd 11 ("-1000000001" : Str) := gd_lit 11 (by decide +kernel)
  have l5 : gd 11 ("-1000000000" : Str) := gd_lit 11 (by decide +kernel)
  have l6 : gd 14 ("abcdefghijkl-3" : Str) := gd_lit 14 (by decide +kernel)
  have l7 : gd 0 ("" : Str) := gd_lit 0 (by decide +kernel)
  obtain ⟨t, htx⟩ := Classical.axiomOfChoice ht
  refine f_of rfl (w_seq (w_asg (x_L (x_cons (x_L (x_cons (x_var rfl) (x_cons x_C x_nil)) hc0) x_nil) ho) (w_seq (w_asg (x_L (x_cons (x_L (x_cons (x_var rfl) (x_cons x_C x_nil)) hc1) x_nil) hn) (w_seq (w_asg (x_L (x_cons (x_var rfl) (x_cons (x_var rfl) x_nil)) hth) (w_seq ?_)))))))
  refine w_if (x := false) ?_ (fun h => nomatch h) (fun _ => w_nil ?_)
  · refine x_tor (x := false) (y := false) ?_ fun _ => ?_
    · exact x_tB (x_f2 (x_var rfl) (x_f2 (x_f2 (x_var rfl) x_C (x_addS (hz go gmin (by decide)))) (x_L (x_cons (x_var rfl) x_nil) hstr) (x_addS (hz g1 gn (by decide)))) (x_neS.trans (by simp)))
    · refine x_tB (x_f2 (x_L (x_cons (x_var rfl) x_nil) hmk) (x_L (x_cons (x_var rfl) (x_cons (x_var rfl) x_nil)) (x_tupD (by rw [sizeLine_eq]; simp))) ((x_neD rfl (shaped_pair go.2).1 (shaped_pair go.2).1).trans ?_))
      rw [(shaped_pair go.2).2]
      rfl
  refine w_seq (w_asg (d := .lst [.str o, .str (o ++ "-" ++ num), .str (o ++ "-"), .str ("-" ++ num), .str (o ++ "-0" ++ num), .str (o ++ num), .str (o ++ "-" ++ num ++ "-1")]) ?_ (w_seq (w_asg (d := .lst ([.str o, .str (o ++ "-" ++ num), .str (o ++ "-"), .str ("-" ++ num), .str (o ++ "-0" ++ num), .str (o ++ num), .str (o ++ "-" ++ num ++ "-1")] ++ [.str (o ++ "-1000000001"), .str (o ++ "-1000000000"), .str (o ++ "abcdefghijkl-3"), .str (Txt.upper o), .str ""])) ?_
    (w_seq (w_asg (d := .lst (([.str o, .str (o ++ "-" ++ num), .str (o ++ "-"), .str ("-" ++ num), .str (o ++ "-0" ++ num), .str (o ++ num), .str (o ++ "-" ++ num ++ "-1")] ++ [.str (o ++ "-1000000001"), .str (o ++ "-1000000000"), .str (o ++ "abcdefghijkl-3"), .str (Txt.upper o), .str ""]) ++ (((List.range 18).filter fun _ => true).map fun k => .str (t (2 + k))))) ?_ (w_seq ?_))))))
  · have s1 : f2 gAdd (fVar 1) (fC (.str "-")) [.val (.scr ns), .val (.str o), .val (.int (n : Int)), .val (.str (o ++ "-" ++ num)), .junk, .junk, .junk] = some (.str (o ++ "-")) := x_f2 (x_var rfl) x_C (x_addS (hz go gmin (by decide)))
    have s2 : fL gStr (fCons (fVar 2) fNil) [.val (.scr ns), .val (.str o), .val (.int (n : Int)), .val (.str (o ++ "-" ++ num)), .junk, .junk, .junk] = some (.str num) := x_L (x_cons (x_var rfl) x_nil) hstr
    refine x_L (x_cons (x_var rfl) (x_cons (x_var rfl) (x_cons s1 (x_cons (x_f2 x_C s2 (x_addS (hz gmin gn (by decide)))) (x_cons (x_f2 (x_f2 (x_var rfl) x_C (x_addS (hz go l2 (by decide)))) s2 (x_addS (hz (gd_app go l2) gn (by decide)))) (x_cons (x_f2 (x_var rfl) s2 (x_addS (hz go gn (by decide)))) (x_cons (x_f2 (x_var rfl) x_C (x_addS (hz gth l3 (by decide)))) x_nil))))))) (x_lstD (by rw [sizeLine_eq]; simp))
  · refine x_f2 (x_var rfl) (x_L (x_cons (x_f2 (x_var rfl) x_C (x_addS (hz go l4 (by decide)))) (x_cons (x_f2 (x_var rfl) x_C (x_addS (hz go l5 (by decide)))) (x_cons (x_f2 (x_var rfl) x_C (x_addS (hz go l6 (by decide)))) (x_cons (x_M (x_var rfl) x_nil (x_upperM (by have := go.1; omega))) (x_cons x_C x_nil))))) (x_lstD (by rw [sizeLine_eq]; simp))) (x_addL (by rw [sizeLine_eq]; simp))
  · refine x_f2 (x_var rfl) (x_lc (ds := (List.range 18).map fun (k : Nat) => D.int (2 + (k : Nat))) (x_Is (x_cons x_C (x_cons x_C x_nil)) (x_R2 (by decide) (by decide) (by decide) (by decide))) (by simp) (x_lcGo (inj := fun (k : Nat) => D.int (2 + (k : Nat))) (p := fun _ => true) (v := fun k => .str (t (2 + k))) fun k hk => ⟨_, rfl, x_yes, fun _ => ?_⟩)) (x_addL (by
      have e := List.length_filter_le (fun (_ : Nat) => true) (List.range 18)
      rw [sizeLine_eq]
      simp only [List.length_append, List.length_cons, List.length_nil, List.length_map, List.length_range] at e ⊢
      omega))
    have hk' := List.mem_range.mp hk
    obtain ⟨q1, q2⟩ := htx (2 + k) (by omega)
    rw [← q1]
    rfl
  refine w_for (fun rest ρ => (∀ d ∈ rest, gdD d) ∧ ∃ (x3 x4 x5 x6 : Sl), ρ = [.val (.scr ns), .val (.str o), .val (.int (n : Int)), x3, x4, x5, x6]) (x_I (x_var rfl) rfl) ⟨?_, _, _, _, _, rfl⟩ ?_ ?_
  · intro d hd
    have B : ∀ {s : Str} {k : Nat}, gd k s → k ≤ 100000 → gdD (.str s) := fun h1 h2 => ⟨_, rfl, gd_mono h1 h2⟩
    simp only [List.mem_append, List.mem_cons, List.not_mem_nil, or_false, List.mem_map] at hd
    rcases hd with ((rfl | rfl | rfl | rfl | rfl | rfl | rfl) | (rfl | rfl | rfl | rfl | rfl)) | ⟨k, hk, rfl⟩
    · exact B go (by decide)
    · exact B gth (by decide)
    · exact B g1 (by decide)
    · exact B (gd_app gmin gn) (by decide)
    · exact B (gd_app (gd_app go l2) gn) (by decide)
    · exact B (gd_app go gn) (by decide)
    · exact B (gd_app gth l3) (by decide)
    · exact B (gd_app go l4) (by decide)
    · exact B (gd_app go l5) (by decide)
    · exact B (gd_app go l6) (by decide)
    · exact B (gd_upper hof) (by decide)
    · exact B l7 (by decide)
    · have hk' := List.mem_range.mp (List.mem_filter.mp hk).1
      exact B (htx (2 + k) (by omega)).2 (by decide)
  · rintro d rest ρ ⟨hg, x3, x4, x5, x6, rfl⟩
    obtain ⟨s, rfl, hs⟩ := hg d (by simp)
    have a1 := e_is_office s hs.1
    have a2 := e_Lis_office s hs.1 hs.2
    have a3 := e_is_thing s hs.1
    have a4 := e_Lis_thing s hs.1 hs.2
    refine ⟨_, rfl, w_seq (w_if (x := false) ?_ (fun h => nomatch h) (fun _ => w_nil (w_if (x := false) ?_ (fun h => nomatch h) (fun _ => w_nil ⟨fun d hd => hg d (by simp [hd]), _, _, _, _, rfl⟩))))⟩
    · refine x_tor (x := false) (y := false) (x_tB (x_f2 (x_L (x_cons (x_var rfl) x_nil) a1) (x_L (x_cons (x_var rfl) x_nil) a2) (x_neB.trans (by simp)))) fun _ => x_tB (x_f2 (x_L (x_cons (x_var rfl) x_nil) a3) (x_L (x_cons (x_var rfl) x_nil) a4) (x_neB.trans (by simp)))
    · refine x_tor (x := false) (y := false) (x_tnot (x := true) (x_tV (x_f1 (x_L (x_cons (x_var rfl) x_nil) a1) (x_isi kit_bool)) rfl)) fun _ => x_tnot (x := true) (x_tV (x_f1 (x_L (x_cons (x_var rfl) x_nil) a3) (x_isi kit_bool)) rfl)
  · rintro ρ ⟨_, x3, x4, x5, x6, rfl⟩
    exact w_ret x_C rfl
end Lh

namespace Lh
open PySem PySem.Spec L2 SkE Pd
open PyProof.Rows hiding St
theorem all_mk {l : PySem.W.OpenLaw} {w : World} {K : PySem.W.Frag} {h : Heap} {mg : Str → Option Value} {fa : Addr} (X : K.In h) (G : h.Ns mainGlobals mg) (hfa : mg "law" = some (.ref fa))
    {f0 : Addr} {od0 an0 : Option Addr} {sl0 : Array (Option Value)} {oc0 kV0 dc0 pm0 cd0 ct0 : Value}
    (a0 : PySem.W.nsIn K mainGlobals "is_office" = some (some (.ref f0))) (l0 : K.lookup f0 = some ⟨oc0, od0, .func (PySem.W.fnOf "is_office" "is_office" (defArgs s_is_office) (defBody s_is_office) (defScope s_is_office) .none kV0 dc0 pm0 an0 cd0 ct0), sl0⟩) (c0 : PySem.W.codeIn K cd0 "is_office" = true) (k0 : PySem.W.keepIn K (.ref f0) = true)
    {f1 : Addr} {od1 an1 : Option Addr} {sl1 : Array (Option Value)} {oc1 kV1 dc1 pm1 cd1 ct1 : Value}
    (a1 : PySem.W.nsIn K mainGlobals "number_of" = some (some (.ref f1))) (l1 : K.lookup f1 = some ⟨oc1, od1, .func (PySem.W.fnOf "number_of" "number_of" (defArgs s_number_of) (defBody s_number_of) (defScope s_number_of) .none kV1 dc1 pm1 an1 cd1 ct1), sl1⟩) (c1 : PySem.W.codeIn K cd1 "number_of" = true) (k1 : PySem.W.keepIn K (.ref f1) = true)
    {f2 : Addr} {od2 an2 : Option Addr} {sl2 : Array (Option Value)} {oc2 kV2 dc2 pm2 cd2 ct2 : Value}
    (a2 : PySem.W.nsIn K mainGlobals "is_thing" = some (some (.ref f2))) (l2 : K.lookup f2 = some ⟨oc2, od2, .func (PySem.W.fnOf "is_thing" "is_thing" (defArgs s_is_thing) (defBody s_is_thing) (defScope s_is_thing) .none kV2 dc2 pm2 an2 cd2 ct2), sl2⟩) (c2 : PySem.W.codeIn K cd2 "is_thing" = true) (k2 : PySem.W.keepIn K (.ref f2) = true)
    {f3 : Addr} {od3 an3 : Option Addr} {sl3 : Array (Option Value)} {oc3 kV3 dc3 pm3 cd3 ct3 : Value}
    (a3 : PySem.W.nsIn K mainGlobals "id_of" = some (some (.ref f3))) (l3 : K.lookup f3 = some ⟨oc3, od3, .func (PySem.W.fnOf "id_of" "id_of" (defArgs s_id_of) (defBody s_id_of) (defScope s_id_of) .none kV3 dc3 pm3 an3 cd3 ct3), sl3⟩) (c3 : PySem.W.codeIn K cd3 "id_of" = true) (k3 : PySem.W.keepIn K (.ref f3) = true)
    {f4 : Addr} {od4 an4 : Option Addr} {sl4 : Array (Option Value)} {oc4 kV4 dc4 pm4 cd4 ct4 : Value}
    (a4 : PySem.W.nsIn K mainGlobals "maker_of" = some (some (.ref f4))) (l4 : K.lookup f4 = some ⟨oc4, od4, .func (PySem.W.fnOf "maker_of" "maker_of" (defArgs s_maker_of) (defBody s_maker_of) (defScope s_maker_of) .none kV4 dc4 pm4 an4 cd4 ct4), sl4⟩) (c4 : PySem.W.codeIn K cd4 "maker_of" = true) (k4 : PySem.W.keepIn K (.ref f4) = true)
    {f5 : Addr} {od5 an5 : Option Addr} {sl5 : Array (Option Value)} {oc5 kV5 dc5 pm5 cd5 ct5 : Value}
    (a5 : PySem.W.nsIn K mainGlobals "_law_cell" = some (some (.ref f5))) (l5 : K.lookup f5 = some ⟨oc5, od5, .func (PySem.W.fnOf "_law_cell" "_law_cell" (defArgs s_L_cell) (defBody s_L_cell) (defScope s_L_cell) .none kV5 dc5 pm5 an5 cd5 ct5), sl5⟩) (c5 : PySem.W.codeIn K cd5 "_law_cell" = true) (k5 : PySem.W.keepIn K (.ref f5) = true)
    {f6 : Addr} {od6 an6 : Option Addr} {sl6 : Array (Option Value)} {oc6 kV6 dc6 pm6 cd6 ct6 : Value}
    (a6 : PySem.W.nsIn K mainGlobals "_law_office" = some (some (.ref f6))) (l6 : K.lookup f6 = some ⟨oc6, od6, .func (PySem.W.fnOf "_law_office" "_law_office" (defArgs s_L_office) (defBody s_L_office) (defScope s_L_office) .none kV6 dc6 pm6 an6 cd6 ct6), sl6⟩) (c6 : PySem.W.codeIn K cd6 "_law_office" = true) (k6 : PySem.W.keepIn K (.ref f6) = true)
    {f7 : Addr} {od7 an7 : Option Addr} {sl7 : Array (Option Value)} {oc7 kV7 dc7 pm7 cd7 ct7 : Value}
    (a7 : PySem.W.nsIn K mainGlobals "_law_number" = some (some (.ref f7))) (l7 : K.lookup f7 = some ⟨oc7, od7, .func (PySem.W.fnOf "_law_number" "_law_number" (defArgs s_L_number) (defBody s_L_number) (defScope s_L_number) .none kV7 dc7 pm7 an7 cd7 ct7), sl7⟩) (c7 : PySem.W.codeIn K cd7 "_law_number" = true) (k7 : PySem.W.keepIn K (.ref f7) = true)
    {f8 : Addr} {od8 an8 : Option Addr} {sl8 : Array (Option Value)} {oc8 kV8 dc8 pm8 cd8 ct8 : Value}
    (a8 : PySem.W.nsIn K mainGlobals "_law_text" = some (some (.ref f8))) (l8 : K.lookup f8 = some ⟨oc8, od8, .func (PySem.W.fnOf "_law_text" "_law_text" (defArgs s_L_text) (defBody s_L_text) (defScope s_L_text) .none kV8 dc8 pm8 an8 cd8 ct8), sl8⟩) (c8 : PySem.W.codeIn K cd8 "_law_text" = true) (k8 : PySem.W.keepIn K (.ref f8) = true)
    {f9 : Addr} {od9 an9 : Option Addr} {sl9 : Array (Option Value)} {oc9 kV9 dc9 pm9 cd9 ct9 : Value}
    (a9 : PySem.W.nsIn K mainGlobals "_law_is_office" = some (some (.ref f9))) (l9 : K.lookup f9 = some ⟨oc9, od9, .func (PySem.W.fnOf "_law_is_office" "_law_is_office" (defArgs s_L_is_office) (defBody s_L_is_office) (defScope s_L_is_office) .none kV9 dc9 pm9 an9 cd9 ct9), sl9⟩) (c9 : PySem.W.codeIn K cd9 "_law_is_office" = true) (k9 : PySem.W.keepIn K (.ref f9) = true)
    {f10 : Addr} {od10 an10 : Option Addr} {sl10 : Array (Option Value)} {oc10 kV10 dc10 pm10 cd10 ct10 : Value}
    (a10 : PySem.W.nsIn K mainGlobals "_law_is_number" = some (some (.ref f10))) (l10 : K.lookup f10 = some ⟨oc10, od10, .func (PySem.W.fnOf "_law_is_number" "_law_is_number" (defArgs s_L_is_number) (defBody s_L_is_number) (defScope s_L_is_number) .none kV10 dc10 pm10 an10 cd10 ct10), sl10⟩) (c10 : PySem.W.codeIn K cd10 "_law_is_number" = true) (k10 : PySem.W.keepIn K (.ref f10) = true)
    {f11 : Addr} {od11 an11 : Option Addr} {sl11 : Array (Option Value)} {oc11 kV11 dc11 pm11 cd11 ct11 : Value}
    (a11 : PySem.W.nsIn K mainGlobals "_law_is_thing" = some (some (.ref f11))) (l11 : K.lookup f11 = some ⟨oc11, od11, .func (PySem.W.fnOf "_law_is_thing" "_law_is_thing" (defArgs s_L_is_thing) (defBody s_L_is_thing) (defScope s_L_is_thing) .none kV11 dc11 pm11 an11 cd11 ct11), sl11⟩) (c11 : PySem.W.codeIn K cd11 "_law_is_thing" = true) (k11 : PySem.W.keepIn K (.ref f11) = true)
    {f12 : Addr} {od12 an12 : Option Addr} {sl12 : Array (Option Value)} {oc12 kV12 dc12 pm12 cd12 ct12 : Value}
    (a12 : PySem.W.nsIn K mainGlobals "law" = some (some (.ref f12))) (l12 : K.lookup f12 = some ⟨oc12, od12, .func (PySem.W.fnOf "law" "law" (defArgs s_law) (defBody s_law) (defScope s_law) .none kV12 dc12 pm12 an12 cd12 ct12), sl12⟩) (c12 : PySem.W.codeIn K cd12 "law" = true) (k12 : PySem.W.keepIn K (.ref f12) = true)
    (z_len : PySem.W.nsIn K mainGlobals "len" = some none)
    (z_int : PySem.W.nsIn K mainGlobals "int" = some none)
    (z_str : PySem.W.nsIn K mainGlobals "str" = some none)
    (z_range : PySem.W.nsIn K mainGlobals "range" = some none)
    (z_abs : PySem.W.nsIn K mainGlobals "abs" = some none)
    (z_isinstance : PySem.W.nsIn K mainGlobals "isinstance" = some none)
    (z_bool : PySem.W.nsIn K mainGlobals "bool" = some none)
    {t_LETTERS : Tok} (z_LETTERS : PySem.W.nsIn K mainGlobals "LETTERS" = some (some (.str "abcdefghijklmnopqrstuvwxyz" t_LETTERS)))
    {t_GREATEST : Tok} (z_GREATEST : PySem.W.nsIn K mainGlobals "GREATEST" = some (some (.int 1000000000 t_GREATEST)))
    {t_DIGITS : Tok} (z_DIGITS : PySem.W.nsIn K mainGlobals "DIGITS" = some (some (.str "0123456789" t_DIGITS)))
    : ∃ fd : FuncData, (∀ (s : Shared) (v : Value), BindsTo s fd ⟨[v], []⟩ [("_law_script", v)]) ∧ ∀ base : Heap, K.In base → base.Ns mainGlobals mg → FnOk l.prog w K mg base CX0 3 fa fd P_law (spD K f_law) := by
  have e := hfa.symm.trans (PySem.W.mg_of X G a12)
  cases e
  have T : Txt mg := ⟨PySem.W.mg_none_of X G z_len, PySem.W.mg_none_of X G z_int, PySem.W.mg_none_of X G z_str, PySem.W.mg_none_of X G z_range, PySem.W.mg_none_of X G z_abs, PySem.W.mg_none_of X G z_isinstance, PySem.W.mg_none_of X G z_bool, ⟨_, PySem.W.mg_of X G z_LETTERS⟩, ⟨_, PySem.W.mg_of X G z_GREATEST⟩, ⟨_, PySem.W.mg_of X G z_DIGITS⟩⟩
  have F0 := fun_mk (st := s_is_office) l0 c0 k0
  have b0 := F0.binds (ps := P_is_office) fun _ _ _ _ _ _ us hl => match us, hl with | [_], _ => rfl
  have F1 := fun_mk (st := s_number_of) l1 c1 k1
  have b1 := F1.binds (ps := P_number_of) fun _ _ _ _ _ _ us hl => match us, hl with | [_], _ => rfl
  have F2 := fun_mk (st := s_is_thing) l2 c2 k2
  have b2 := F2.binds (ps := P_is_thing) fun _ _ _ _ _ _ us hl => match us, hl with | [_], _ => rfl
  have F3 := fun_mk (st := s_id_of) l3 c3 k3
  have b3 := F3.binds (ps := P_id_of) fun _ _ _ _ _ _ us hl => match us, hl with | [_, _], _ => rfl
  have F4 := fun_mk (st := s_maker_of) l4 c4 k4
  have b4 := F4.binds (ps := P_maker_of) fun _ _ _ _ _ _ us hl => match us, hl with | [_], _ => rfl
  have F5 := fun_mk (st := s_L_cell) l5 c5 k5
  have b5 := F5.binds (ps := P_L_cell) fun _ _ _ _ _ _ us hl => match us, hl with | [_, _], _ => rfl
  have F6 := fun_mk (st := s_L_office) l6 c6 k6
  have b6 := F6.binds (ps := P_L_office) fun _ _ _ _ _ _ us hl => match us, hl with | [_], _ => rfl
  have F7 := fun_mk (st := s_L_number) l7 c7 k7
  have b7 := F7.binds (ps := P_L_number) fun _ _ _ _ _ _ us hl => match us, hl with | [_], _ => rfl
  have F8 := fun_mk (st := s_L_text) l8 c8 k8
  have b8 := F8.binds (ps := P_L_text) fun _ _ _ _ _ _ us hl => match us, hl with | [_], _ => rfl
  have F9 := fun_mk (st := s_L_is_office) l9 c9 k9
  have b9 := F9.binds (ps := P_L_is_office) fun _ _ _ _ _ _ us hl => match us, hl with | [_], _ => rfl
  have F10 := fun_mk (st := s_L_is_number) l10 c10 k10
  have b10 := F10.binds (ps := P_L_is_number) fun _ _ _ _ _ _ us hl => match us, hl with | [_], _ => rfl
  have F11 := fun_mk (st := s_L_is_thing) l11 c11 k11
  have b11 := F11.binds (ps := P_L_is_thing) fun _ _ _ _ _ _ us hl => match us, hl with | [_], _ => rfl
  have F12 := fun_mk (st := s_law) l12 c12 k12
  refine ⟨PySem.W.fnOf "law" "law" (defArgs s_law) (defBody s_law) (defScope s_law) .none kV12 dc12 pm12 an12 cd12 ct12, fun s v => .of_eq rfl, fun base _ _ => ?_⟩
  have C0 : Df l.prog w K mg base 1 "is_office" P_is_office f_is_office := ⟨f0, _, ok_is_office T F0, PySem.W.mg_of X G a0, k0, b0⟩
  have C1 : Df l.prog w K mg base 1 "number_of" P_number_of f_number_of := ⟨f1, _, ok_number_of T F1, PySem.W.mg_of X G a1, k1, b1⟩
  have C2 : Df l.prog w K mg base 2 "is_thing" P_is_thing f_is_thing := ⟨f2, _, ok_is_thing T C1 C0 F2, PySem.W.mg_of X G a2, k2, b2⟩
  have C3 : Df l.prog w K mg base 1 "id_of" P_id_of f_id_of := ⟨f3, _, ok_id_of T F3, PySem.W.mg_of X G a3, k3, b3⟩
  have C4 : Df l.prog w K mg base 1 "maker_of" P_maker_of f_maker_of := ⟨f4, _, ok_maker_of T F4, PySem.W.mg_of X G a4, k4, b4⟩
  have C5 : Df l.prog w K mg base 1 "_law_cell" P_L_cell f_L_cell := ⟨f5, _, ok_L_cell T F5, PySem.W.mg_of X G a5, k5, b5⟩
  have C6 : Df l.prog w K mg base 1 "_law_office" P_L_office f_L_office := ⟨f6, _, ok_L_office T F6, PySem.W.mg_of X G a6, k6, b6⟩
  have C7 : Df l.prog w K mg base 1 "_law_number" P_L_number f_L_number := ⟨f7, _, ok_L_number T F7, PySem.W.mg_of X G a7, k7, b7⟩
  have C8 : Df l.prog w K mg base 1 "_law_text" P_L_text f_L_text := ⟨f8, _, ok_L_text T F8, PySem.W.mg_of X G a8, k8, b8⟩
  have C9 : Df l.prog w K mg base 1 "_law_is_office" P_L_is_office f_L_is_office := ⟨f9, _, ok_L_is_office T F9, PySem.W.mg_of X G a9, k9, b9⟩
  have C10 : Df l.prog w K mg base 1 "_law_is_number" P_L_is_number f_L_is_number := ⟨f10, _, ok_L_is_number T F10, PySem.W.mg_of X G a10, k10, b10⟩
  have C11 : Df l.prog w K mg base 2 "_law_is_thing" P_L_is_thing f_L_is_thing := ⟨f11, _, ok_L_is_thing T C10 C9 F11, PySem.W.mg_of X G a11, k11, b11⟩
  exact ok_law T C2 C0 C11 C9 C8 C5 C4 C3 C7 C6 F12
theorem walk {l : PySem.W.OpenLaw} {q : Program} {loose : List Str} {XP : (Str → Option Value) → Heap → Prop} {YP : World → Heap → Prop} {d : DefRec} {K : Params → PySem.W.Frag} (hn : l.most = some 63) (hdf : d.params.defaults = [])
    (hY : ∀ (w : World) (h : Heap), YP w h → (K w.params).In h)
    (F : ∀ (w : World) (mg : Str → Option Value) (fa : Addr) (h : Heap), (K w.params).In h → h.Ns mainGlobals mg → mg d.name = some (.ref fa) →
      ∃ fd : FuncData, (∀ (s : Shared) (u : Value), BindsTo s fd ⟨[u], []⟩ [("_law_script", u)]) ∧ ∀ base : Heap, (K w.params).In base → base.Ns mainGlobals mg → FnOk l.prog w (K w.params) mg base CX0 3 fa fd P_law (spD (K w.params) f_law)) :
    PySem.W.WalkO q loose XP YP l.row.toRowW d [] (fun f vs => PySem.call f vs) :=
  L2.walk_of (n := 63) (k := 3) (x := "_law_script") (CX := fun _ => CX0) (sp := fun w => spD (K w.params) f_law) hn (by decide) hdf ⟨rfl, by decide, by decide⟩ hY F (fun w H a ns hl _ hS => law_sp law_true H a ns hl hS) fun _ _ _ _ _ z => z
end Lh
open PySem PySem.W PyProof.Rows in
set_option maxRecDepth 100000 in
set_option maxHeartbeats 0 in
theorem PySem.Challenge.cw_letterheld_k14_names_and_ids_holds : PySem.Challenge.rw_letterheld_k14_names_and_ids.Holds := by
  w_on; o_law; k_head; (case hw => w_witness2)
  k_fill
  refine Lh.walk (l := PySem.Challenge.rw_letterheld_k14_names_and_ids) rfl rfl (fun w h Y => PySem.W.kIn_of Y) ?F
  case F =>
    intro w mg fa h KX G hmg
    refine' Lh.all_mk KX G hmg ?a0 ?l0 ?c0 ?k0 ?a1 ?l1 ?c1 ?k1 ?a2 ?l2 ?c2 ?k2 ?a3 ?l3 ?c3 ?k3 ?a4 ?l4 ?c4 ?k4 ?a5 ?l5 ?c5 ?k5 ?a6 ?l6 ?c6 ?k6 ?a7 ?l7 ?c7 ?k7 ?a8 ?l8 ?c8 ?k8 ?a9 ?l9 ?c9 ?k9 ?a10 ?l10 ?c10 ?k10 ?a11 ?l11 ?c11 ?k11 ?a12 ?l12 ?c12 ?k12 ?z_len ?z_int ?z_str ?z_range ?z_abs ?z_isinstance ?z_bool ?z_LETTERS ?z_GREATEST ?z_DIGITS
    (case a0 => k_is)
    (case l0 => k_is)
    (case c0 => k_is)
    (case k0 => k_is)
    (case a1 => k_is)
    (case l1 => k_is)
    (case c1 => k_is)
    (case k1 => k_is)
    (case a2 => k_is)
    (case l2 => k_is)
    (case c2 => k_is)
    (case k2 => k_is)
    (case a3 => k_is)
    (case l3 => k_is)
    (case c3 => k_is)
    (case k3 => k_is)
    (case a4 => k_is)
    (case l4 => k_is)
    (case c4 => k_is)
    (case k4 => k_is)
    (case a5 => k_is)
    (case l5 => k_is)
    (case c5 => k_is)
    (case k5 => k_is)
    (case a6 => k_is)
    (case l6 => k_is)
    (case c6 => k_is)
    (case k6 => k_is)
    (case a7 => k_is)
    (case l7 => k_is)
    (case c7 => k_is)
    (case k7 => k_is)
    (case a8 => k_is)
    (case l8 => k_is)
    (case c8 => k_is)
    (case k8 => k_is)
    (case a9 => k_is)
    (case l9 => k_is)
    (case c9 => k_is)
    (case k9 => k_is)
    (case a10 => k_is)
    (case l10 => k_is)
    (case c10 => k_is)
    (case k10 => k_is)
    (case a11 => k_is)
    (case l11 => k_is)
    (case c11 => k_is)
    (case k11 => k_is)
    (case a12 => k_is)
    (case l12 => k_is)
    (case c12 => k_is)
    (case k12 => k_is)
    (case z_len => k_is)
    (case z_int => k_is)
    (case z_str => k_is)
    (case z_range => k_is)
    (case z_abs => k_is)
    (case z_isinstance => k_is)
    (case z_bool => k_is)
    (case z_LETTERS => k_is)
    (case z_GREATEST => k_is)
    (case z_DIGITS => k_is)
#print axioms PySem.Challenge.cw_letterheld_k14_names_and_ids_holds

