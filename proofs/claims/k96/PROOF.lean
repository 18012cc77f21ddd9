import PyProof.Rows.All
import Wide.All
import OpenK.AllK
import Wide.FinOn
import HandS.ForMost
import HandS.Flow
import HandS.IsInst
import HandS.TupAny
import HandS.TupMul
import HandS.TupLe
import HandS.Star
import HandS.Zip
import HandS.Walk
import HandS.Wide
import HandS.Deep
import HandS.Conv
import HandS.Style
import PySem.Challenge.RW_counterlines_k96_whole_counts_by_people
set_option Elab.async false
set_option linter.all false
set_option maxRecDepth 100000
/-! FLa: data that a value reads as (Rv), what may grow (Ext), the judgements of pure expressions (FE), tests (FT), arguments (FA). -/
namespace FL
open PySem PySem.Spec PyProof.Rows L2

abbrev D := PyData
abbrev Env' := List (Option D)
abbrev AP' := Addr → Prop

/-! ### what a value reads as -/
/-- a thing of which only the address is known -/
def hnd (a : Addr) : D := .dict [(.dict [], .int (a : Nat))]
mutual
inductive Rv (K : PySem.W.Frag) (F : AP') (H : Hp) : V → D → Prop
  | non : Rv K F H .non .none
  | bl (b : Bool) : Rv K F H (.bl b) (.bool b)
  | int (i : Int) : Rv K F H (.int i) (.int i)
  | str (x : Str) : Rv K F H (.str x) (.str x)
  | tup {a : Addr} {xs : List V} {ds : List D} : SqT K H a xs → RvL K F H xs ds → Rv K F H (.ref a) (.tuple ds)
  | lst {a : Addr} {xs : List V} {ds : List D} : F a → H a = some (.lst xs) → RvL K F H xs ds → Rv K F H (.ref a) (.list ds)
  | hnd (a : Addr) : Rv K F H (.ref a) (hnd a)
inductive RvL (K : PySem.W.Frag) (F : AP') (H : Hp) : List V → List D → Prop
  | nil : RvL K F H [] []
  | cons {v : V} {vs : List V} {d : D} {ds : List D} : Rv K F H v d → RvL K F H vs ds → RvL K F H (v :: vs) (d :: ds)
end

section
variable {K : PySem.W.Frag} {F F' F'' : AP'} {H H' H'' : Hp}

/-- what is read stays: the frozen ones and the tuples -/
structure Stay (F : AP') (H H' : Hp) : Prop where
  fz : ∀ a o, F a → H a = some o → H' a = some o
  tp : ∀ a xs, H a = some (.tup xs) → H' a = some (.tup xs)
  tz : ∀ a o u, H a = some (.frz o u) → H' a = some (.frz o u)
theorem Stay.of_same (h : Same H H') : Stay F H H' := ⟨fun a o _ e => h a o e, fun a _ e => h a _ e, fun a _ _ e => h a _ e⟩
theorem Stay.refl : Stay F H H := .of_same (Same.refl H)
theorem Stay.trans (a : Stay F H H') (b : Stay F H' H'') : Stay F H H'' := ⟨fun c o f e => b.fz c o f (a.fz c o f e), fun c xs e => b.tp c xs (a.tp c xs e), fun c o u e => b.tz c o u (a.tz c o u e)⟩
theorem Stay.mono (h : ∀ a, F a → F' a) (s : Stay F' H H') : Stay F H H' := ⟨fun a o f e => s.fz a o (h a f) e, s.tp, s.tz⟩
theorem Stay.rdT {a : Addr} {xs : List V} (s : Stay F H H') (h : SqT K H a xs) : SqT K H' a xs := by
  rcases h with (h | ⟨o, h⟩) | h
  · exact .inl (.inl (s.tp a xs h))
  · exact .inl (.inr ⟨o, s.tz a _ _ h⟩)
  · exact .inr h
theorem Stay.rdL {a : Addr} {xs : List V} (s : Stay F H H') (f : F a) (h : SqL K H a xs) : SqL K H' a xs := by
  rcases h with (h | ⟨o, h⟩) | h
  · exact .inl (.inl (s.fz a _ f h))
  · exact .inl (.inr ⟨o, s.tz a _ _ h⟩)
  · exact .inr h

mutual
theorem Rv.stay (hs : Stay F H H') (hf : ∀ a, F a → F' a) : ∀ {v : V} {d : D}, Rv K F H v d → Rv K F' H' v d
  | _, _, .non => .non
  | _, _, .bl b => .bl b
  | _, _, .int i => .int i
  | _, _, .str x => .str x
  | _, _, .tup h r => .tup (hs.rdT h) (RvL.stay hs hf r)
  | _, _, .lst f h r => .lst (hf _ f) (hs.fz _ _ f h) (RvL.stay hs hf r)
  | _, _, .hnd a => .hnd a
theorem RvL.stay (hs : Stay F H H') (hf : ∀ a, F a → F' a) : ∀ {vs : List V} {ds : List D}, RvL K F H vs ds → RvL K F' H' vs ds
  | _, _, .nil => .nil
  | _, _, .cons h r => .cons (Rv.stay hs hf h) (RvL.stay hs hf r)
end
theorem RvL.length : ∀ {vs : List V} {ds : List D}, RvL K F H vs ds → vs.length = ds.length
  | _, _, .nil => rfl
  | _, _, .cons _ r => by simp [RvL.length r]
theorem RvL.append : ∀ {vs : List V} {ds : List D} {ws : List V} {es : List D}, RvL K F H vs ds → RvL K F H ws es → RvL K F H (vs ++ ws) (ds ++ es)
  | _, _, _, _, .nil, s => s
  | _, _, _, _, .cons h r, s => .cons h (RvL.append r s)
theorem RvL.take : ∀ (n : Nat) {vs : List V} {ds : List D}, RvL K F H vs ds → RvL K F H (vs.take n) (ds.take n)
  | 0, _, _, _ => by simpa using RvL.nil
  | _ + 1, _, _, .nil => by simpa using RvL.nil
  | n + 1, _, _, .cons h r => by simpa using RvL.cons h (RvL.take n r)
theorem RvL.drop : ∀ (n : Nat) {vs : List V} {ds : List D}, RvL K F H vs ds → RvL K F H (vs.drop n) (ds.drop n)
  | 0, _, _, r => by simpa using r
  | _ + 1, _, _, .nil => by simpa using RvL.nil
  | n + 1, _, _, .cons _ r => by simpa using RvL.drop n r
theorem RvL.get : ∀ {vs : List V} {ds : List D} {i : Nat} {v : V}, RvL K F H vs ds → vs[i]? = some v → ∃ d, ds[i]? = some d ∧ Rv K F H v d
  | _, _, _, _, .nil, e => by simp at e
  | _, _, 0, _, .cons h _, e => by simp at e; subst e; exact ⟨_, rfl, h⟩
  | _, _, i + 1, _, .cons _ r, e => by
    obtain ⟨d, h1, h2⟩ := RvL.get (i := i) r (by simpa using e)
    exact ⟨d, by simpa using h1, h2⟩
theorem RvL.getD : ∀ {vs : List V} {ds : List D} {i : Nat} {d : D}, RvL K F H vs ds → ds[i]? = some d → ∃ v, vs[i]? = some v ∧ Rv K F H v d
  | _, _, _, _, .nil, e => by simp at e
  | _, _, 0, _, .cons h _, e => by simp at e; subst e; exact ⟨_, rfl, h⟩
  | _, _, i + 1, _, .cons _ r, e => by
    obtain ⟨v, h1, h2⟩ := RvL.getD (i := i) r (by simpa using e)
    exact ⟨v, by simpa using h1, h2⟩
theorem RvL.set : ∀ {vs : List V} {ds : List D} (i : Nat) {v : V} {d : D}, RvL K F H vs ds → Rv K F H v d → RvL K F H (vs.set i v) (ds.set i d)
  | _, _, _, _, _, .nil, _ => .nil
  | _, _, 0, _, _, .cons _ r, h => .cons h r
  | _, _, i + 1, _, _, .cons h r, q => .cons h (RvL.set i r q)
theorem RvL.rep (n : Nat) {v : V} {d : D} (h : Rv K F H v d) : RvL K F H (List.replicate n v) (List.replicate n d) := by
  induction n with
  | zero => exact .nil
  | succ n ih => simp only [List.replicate_succ]; exact .cons h ih

mutual
theorem Rv.dp {v : V} {d : D} (r : Rv K F H v d) : d.canLay0 = true → Dp K H v d := fun h => match r with
  | .non => .non
  | .bl b => .bl b
  | .int i => .int i
  | .str x => .str x
  | .tup s q => .tup s (RvL.dp q (by simpa [PyData.canLay0] using h))
  | .lst _ s q => .lst (.inl (.inl s)) (RvL.dp q (by simpa [PyData.canLay0] using h))
  | .hnd a => nomatch h
theorem RvL.dp {vs : List V} {ds : List D} (r : RvL K F H vs ds) : PyData.canLayAll0 ds = true → DpAll K H vs ds := fun h => match r with
  | .nil => .nil
  | .cons a b => by
    simp only [PyData.canLayAll0, Bool.and_eq_true] at h
    exact .cons (Rv.dp a h.1) (RvL.dp b h.2)
end
theorem shaped_lay {d : D} (h : SeqAt.shaped d = true) : d.canLay0 = true := by
  unfold SeqAt.shaped at h
  rw [Bool.and_eq_true] at h
  exact h.1

/-! ### how a pure step goes on: all that was stays, what is frozen now was so or is new -/
structure Ext (F : AP') (H : Hp) (F' : AP') (H' : Hp) : Prop where
  same : Same H H'
  up : ∀ a, F a → F' a
  new : ∀ a, F' a → F a ∨ (H a = none ∧ H' a ≠ none)
theorem Ext.refl (F : AP') (H : Hp) : Ext F H F H := ⟨Same.refl H, fun _ h => h, fun _ h => .inl h⟩
theorem Ext.trans (a : Ext F H F' H') (b : Ext F' H' F'' H'') : Ext F H F'' H'' := ⟨a.same.trans b.same, fun c h => b.up c (a.up c h), fun c h => by
  rcases b.new c h with h | h
  · rcases a.new c h with h | ⟨h1, h2⟩
    · exact .inl h
    · refine .inr ⟨h1, fun z => ?_⟩
      exact h2 (b.same.free z)
  · exact .inr ⟨a.same.free h.1, h.2⟩⟩
theorem Ext.stay (e : Ext F H F' H') : Stay F H H' := .of_same e.same
theorem Ext.rv {v : V} {d : D} (e : Ext F H F' H') (r : Rv K F H v d) : Rv K F' H' v d := Rv.stay e.stay e.up r
theorem Ext.rvl {vs : List V} {ds : List D} (e : Ext F H F' H') (r : RvL K F H vs ds) : RvL K F' H' vs ds := RvL.stay e.stay e.up r
theorem Ext.upd {p : Addr} {o : HO} (h : H p = none) : Ext F H F (upd H p o) := ⟨fun b u e => by
  rw [upd_ne (ne_of_none e h)]
  exact e, fun _ h => h, fun _ h => .inl h⟩
/-- a new object that may be read from now on -/
def Fz (F : AP') (p : Addr) : AP' := fun a => F a ∨ a = p
theorem Ext.fz {p : Addr} (h : H p = none) (e : Ext F H F' H') (h' : H' p ≠ none) : Ext F H (Fz F' p) H' := ⟨e.same, fun a f => .inl (e.up a f), fun a f => by
  rcases f with f | rfl
  · exact e.new a f
  · exact .inr ⟨h, h'⟩⟩
/-- what is frozen is there -/
def Fd (F : AP') (H : Hp) : Prop := ∀ a, F a → H a ≠ none
theorem Ext.fd (e : Ext F H F' H') (d : Fd F H) : Fd F' H' := fun a f => by
  rcases e.new a f with h | h
  · exact fun z => d a h (e.same.free z)
  · exact h.2
theorem Fz.sub {p : Addr} : ∀ a, F a → Fz F p a := fun _ h => .inl h
theorem Fz.at {p : Addr} : Fz F p p := .inr rfl
theorem Rv.up {v : V} {d : D} (h : ∀ a, F a → F' a) (r : Rv K F H v d) : Rv K F' H v d := Rv.stay Stay.refl h r
theorem RvL.up {vs : List V} {ds : List D} (h : ∀ a, F a → F' a) (r : RvL K F H vs ds) : RvL K F' H vs ds := RvL.stay Stay.refl h r

/-! ### slots -/
structure EnvR (K : PySem.W.Frag) (F : AP') (H : Hp) (env : Env') (σ : L2.St) : Prop where
  fd : Fd F H
  len : env.length = σ.length
  at_ : ∀ (i : Nat) (d : D), env[i]? = some (some d) → ∃ v, σ[i]? = some (some v) ∧ Rv K F H v d
theorem EnvR.ext {env : Env'} {σ : L2.St} (e : EnvR K F H env σ) (x : Ext F H F' H') : EnvR K F' H' env σ := ⟨x.fd e.fd, e.len, fun i d h =>
  let ⟨v, h1, h2⟩ := e.at_ i d h
  ⟨v, h1, x.rv h2⟩⟩
theorem EnvR.set {env : Env'} {σ : L2.St} (e : EnvR K F H env σ) {i : Nat} {v : V} {d : D} (r : Rv K F H v d) : EnvR K F H (env.set i (some d)) (σ.set i (some v)) := ⟨e.fd, by simp [e.len], fun j x h => by
  have hl := e.len
  by_cases hj : i = j
  · subst hj
    by_cases hi : i < env.length
    · rw [List.getElem?_set_self hi] at h
      cases h
      exact ⟨v, List.getElem?_set_self (by omega), r⟩
    · rw [List.set_eq_of_length_le (by omega)] at h
      rw [List.getElem?_eq_none (by omega)] at h
      cases h
  · rw [List.getElem?_set_ne hj] at h ⊢
    exact e.at_ j x h⟩
end

/-! ### judgements -/
def tP (K : PySem.W.Frag) (m : Env' → Option D) : TE := fun σ H Q => ∃ F env d, EnvR K F H env σ ∧ m env = some d ∧ ∀ v H' F', Ext F H F' H' → Rv K F' H' v d → Q v H'
def tPT (K : PySem.W.Frag) (m : Env' → Option Bool) : TT := fun σ H Q => ∃ F env b, EnvR K F H env σ ∧ m env = some b ∧ ∀ H' F', Ext F H F' H' → Q b H'
def tPA (K : PySem.W.Frag) (m : Env' → Option (List D)) : TA := fun σ H Q => ∃ F env ds, EnvR K F H env σ ∧ m env = some ds ∧ ∀ vs H' F', Ext F H F' H' → RvL K F' H' vs ds → Q vs H'
/-- a new list -/
def tPF (K : PySem.W.Frag) (m : Env' → Option (List D)) : TE := fun σ H Q => ∃ F env ds, EnvR K F H env σ ∧ m env = some ds ∧ ∀ p vs H' F', Ext F H F' H' → H p = none → ¬ F' p → H' p = some (.lst vs) → RvL K F' H' vs ds → Q (.ref p) H'
structure FE (X : Cx) (e : Expr) (m : Env' → Option D) : Prop where
  pe : PE X e (tP X.K m)
structure FT (X : Cx) (e : Expr) (m : Env' → Option Bool) : Prop where
  pt : PT X e (tPT X.K m)
structure FA (X : Cx) (es : List Expr) (m : Env' → Option (List D)) : Prop where
  pa : PA X es (tPA X.K m)
structure FF (X : Cx) (e : Expr) (m : Env' → Option (List D)) : Prop where
  pe : PE X e (tPF X.K m)

theorem pe_mono {X : Cx} {e : Expr} {t t' : TE} (h : PE X e t) (i : ∀ σ H Q, t' σ H Q → t σ H Q) : PE X e t' := ⟨fun pins s σ H Q I q => h.run pins s σ H Q I (i σ H Q q)⟩
theorem pt_mono {X : Cx} {e : Expr} {t t' : TT} (h : PT X e t) (i : ∀ σ H Q, t' σ H Q → t σ H Q) : PT X e t' := ⟨fun pins s σ H Q I q => h.run pins s σ H Q I (i σ H Q q)⟩
theorem pa_mono {X : Cx} {e : List Expr} {t t' : TA} (h : PA X e t) (i : ∀ σ H Q, t' σ H Q → t σ H Q) : PA X e t' := ⟨fun pos pins s σ H Q I q => h.run pos pins s σ H Q I (i σ H Q q)⟩
theorem ps_mono {X : Cx} {e : Stmt} {t t' : TS} (h : PS X e t) (i : ∀ D σ H, t' D σ H → t D σ H) : PS X e t' := ⟨fun pins s σ H D I q => h.run pins s σ H D I (i D σ H q)⟩
theorem pss_mono {X : Cx} {e : List Stmt} {t t' : TS} (h : PSs X e t) (i : ∀ D σ H, t' D σ H → t D σ H) : PSs X e t' := ⟨fun pins s σ H D I q => h.run pins s σ H D I (i D σ H q)⟩

/-! ### the words of the mirror: expressions -/
def eVar (i : Nat) : Env' → Option D := fun env => (env[i]?).bind id
def eC (d : D) : Env' → Option D := fun _ => some d
def e1 (f : D → Option D) (a : Env' → Option D) : Env' → Option D := fun env => (a env).bind f
def e2 (f : D → D → Option D) (a b : Env' → Option D) : Env' → Option D := fun env => (a env).bind fun x => (b env).bind fun y => f x y
def eAnd (a b : Env' → Option D) : Env' → Option D := fun env => (a env).bind fun x => match x with
  | .bool true => b env
  | .bool false => some (.bool false)
  | _ => none
def eOr (a b : Env' → Option D) : Env' → Option D := fun env => (a env).bind fun x => match x with
  | .bool true => some (.bool true)
  | .bool false => b env
  | _ => none
def eIf (c : Env' → Option Bool) (a b : Env' → Option D) : Env' → Option D := fun env => (c env).bind fun k => match k with
  | true => a env
  | false => b env
def eCh (f g : D → D → Option D) (a b c : Env' → Option D) : Env' → Option D := fun env => (a env).bind fun x => (b env).bind fun y => (f x y).bind fun z => match z with
  | .bool true => (c env).bind fun u => g y u
  | .bool false => some (.bool false)
  | _ => none
def eTup (a : Env' → Option (List D)) : Env' → Option D := fun env => (a env).map .tuple
def eLst (a : Env' → Option (List D)) : Env' → Option D := fun env => (a env).map .list
def eF (f : List D → Option D) (a : Env' → Option (List D)) : Env' → Option D := fun env => (a env).bind f
def aNil : Env' → Option (List D) := fun _ => some []
def aCons (a : Env' → Option D) (r : Env' → Option (List D)) : Env' → Option (List D) := fun env => (a env).bind fun x => (r env).map fun xs => x :: xs
def seqD : D → Option (List D)
  | .tuple xs => some xs
  | .list xs => some xs
  | _ => none
def aStar (a : Env' → Option D) (r : Env' → Option (List D)) : Env' → Option (List D) := fun env => (a env).bind fun x => (seqD x).bind fun ys => (r env).map fun xs => ys ++ xs
def tV (a : Env' → Option D) : Env' → Option Bool := fun env => (a env).bind fun x => match x with
  | .bool b => some b
  | _ => none
def tNot (a : Env' → Option Bool) : Env' → Option Bool := fun env => (a env).map fun b => !b
def tAnd (a b : Env' → Option Bool) : Env' → Option Bool := fun env => (a env).bind fun k => match k with
  | true => b env
  | false => some false
def tOr (a b : Env' → Option Bool) : Env' → Option Bool := fun env => (a env).bind fun k => match k with
  | true => some true
  | false => b env

/-! ### values -/
/-- a two-place operation on values, as data -/
def rD2 (K : PySem.W.Frag) (f : D → D → Option D) : R2 := fun x y H Q => ∃ F dx dy d, Rv K F H x dx ∧ Rv K F H y dy ∧ f dx dy = some d ∧ ∀ v H' F', Ext F H F' H' → Rv K F' H' v d → Q v H'
def rD1 (K : PySem.W.Frag) (f : D → Option D) : V → Hp → VK → Prop := fun x H Q => ∃ F dx d, Rv K F H x dx ∧ f dx = some d ∧ ∀ v H' F', Ext F H F' H' → Rv K F' H' v d → Q v H'
def rDL (K : PySem.W.Frag) (f : List D → Option D) : List V → Hp → VK → Prop := fun xs H Q => ∃ F dx d, RvL K F H xs dx ∧ f dx = some d ∧ ∀ v H' F', Ext F H F' H' → Rv K F' H' v d → Q v H'
def rDLF (K : PySem.W.Frag) (f : List D → Option (List D)) : List V → Hp → VK → Prop := fun xs H Q => ∃ F dx ds, Fd F H ∧ RvL K F H xs dx ∧ f dx = some ds ∧ ∀ p vs H' F', Ext F H F' H' → H p = none → ¬ F' p → H' p = some (.lst vs) → RvL K F' H' vs ds → Q (.ref p) H'

/-! ### rules: expressions -/
section
variable {X : Cx} {a b c e : Expr} {es : List Expr} {ma mb mc : Env' → Option D} {ms : Env' → Option (List D)} {mt mu : Env' → Option Bool} {pos : Pos}

theorem FE.to {m m' : Env' → Option D} (h : FE X e m) (q : ∀ env d, m' env = some d → m env = some d) : FE X e m' := ⟨pe_mono h.pe fun σ H Q ⟨F, env, d, h1, h2, h3⟩ => ⟨F, env, d, h1, q _ _ h2, h3⟩⟩
theorem fe_var (i : Nat) {x : Str} {pos : Pos} (h : PE X (.Name x pos) (tVar i)) : FE X (.Name x pos) (eVar i) := ⟨pe_mono h fun σ H Q ⟨F, env, d, hE, hm, q⟩ => by
  have hm' : env[i]? = some (some d) := by
    unfold eVar at hm
    cases z : env[i]? with
    | none => rw [z] at hm; cases hm
    | some o => rw [z] at hm; simpa using hm
  obtain ⟨v, h1, h2⟩ := hE.at_ i d hm'
  exact ⟨v, h1, q v H F (Ext.refl F H) h2⟩⟩
theorem fe_const {v : V} {d : D} (h : PE X e (tC v)) (r : ∀ F H, Rv X.K F H v d) : FE X e (eC d) := ⟨pe_mono h fun σ H Q ⟨F, env, d', hE, hm, q⟩ => by
  cases (show some d = some d' from hm)
  exact q v H F (Ext.refl F H) (r F H)⟩
theorem fe_int {i j pos} : FE X (.Constant (.int i) j pos) (eC (.int i)) := fe_const pe_int fun _ _ => .int i
theorem fe_bl {i j pos} : FE X (.Constant (.bool i) j pos) (eC (.bool i)) := fe_const pe_bl fun _ _ => .bl i
theorem fe_non {j pos} : FE X (.Constant .none j pos) (eC .none) := fe_const pe_non fun _ _ => .non
theorem fe_str {i j pos} : FE X (.Constant (.str i) j pos) (eC (.str i)) := fe_const pe_str fun _ _ => .str i

/-- two in a row -/
theorem two {ta tb : TE} {σ : L2.St} {H : Hp} {R : V → V → Hp → Prop} {F : AP'} {env : Env'} {dx dy : D} (hta : tP X.K ma = ta) (htb : tP X.K mb = tb) (hE : EnvR X.K F H env σ) (h1 : ma env = some dx) (h2 : mb env = some dy)
    (q : ∀ x y H2 F2, Ext F H F2 H2 → Rv X.K F2 H2 x dx → Rv X.K F2 H2 y dy → R x y H2) : ta σ H fun x H1 => tb σ H1 fun y H2 => R x y H2 := by
  subst hta htb
  exact ⟨F, env, dx, hE, h1, fun x H1 F1 e1 r1 => ⟨F1, env, dy, hE.ext e1, h2, fun y H2 F2 e2 r2 => q x y H2 F2 (e1.trans e2) (e2.rv r1) r2⟩⟩
theorem bind2 {α β γ : Type} {x : Option α} {y : Option β} {f : α → β → Option γ} {z : γ} (h : (x.bind fun u => y.bind fun v => f u v) = some z) : ∃ u v, x = some u ∧ y = some v ∧ f u v = some z := by
  cases x with
  | none => cases h
  | some u =>
    cases y with
    | none => cases h
    | some v => exact ⟨u, v, rfl, rfl, h⟩
theorem bind1 {α β : Type} {x : Option α} {f : α → Option β} {z : β} (h : x.bind f = some z) : ∃ u, x = some u ∧ f u = some z := by
  cases x with
  | none => cases h
  | some u => exact ⟨u, rfl, h⟩
theorem fe_op {op : Operator} {f : D → D → Option D} (ho : OpR X (binaryOp op) (rD2 X.K f)) (ha : FE X a ma) (hb : FE X b mb) : FE X (.BinOp a op b pos) (e2 f ma mb) := ⟨pe_mono (pe_op ho ha.pe hb.pe) fun σ H Q ⟨F, env, d, hE, hm, q⟩ => by
  obtain ⟨dx, dy, h1, h2, h3⟩ := bind2 hm
  exact two rfl rfl hE h1 h2 fun x y H2 F2 e2 rx ry => ⟨F2, dx, dy, d, rx, ry, h3, fun v H' F' e' r' => q v H' F' (e2.trans e') r'⟩⟩
theorem fe_cmp {op : CmpOp} {f : D → D → Option D} (ho : OpR X (compareOp op) (rD2 X.K f)) (ha : FE X a ma) (hb : FE X b mb) (hm : behindInMarks op b = false) : FE X (.Compare a [op] [b] pos) (e2 f ma mb) := ⟨pe_mono (pe_cmpR ho ha.pe hb.pe hm) fun σ H Q ⟨F, env, d, hE, hm, q⟩ => by
  obtain ⟨dx, dy, h1, h2, h3⟩ := bind2 hm
  exact two rfl rfl hE h1 h2 fun x y H2 F2 e2 rx ry => ⟨F2, dx, dy, d, rx, ry, h3, fun v H' F' e' r' => q v H' F' (e2.trans e') r'⟩⟩
theorem fe_un {op : UnaryOp} {f : D → Option D} (ho : UnR X (unaryOp op) (rD1 X.K f)) (ha : FE X a ma) : FE X (.UnaryOp op a pos) (e1 f ma) := ⟨pe_mono (pe_un ho ha.pe) fun σ H Q ⟨F, env, d, hE, hm, q⟩ => by
  obtain ⟨dx, h1, h2⟩ := bind1 hm
  exact ⟨F, env, dx, hE, h1, fun x H1 F1 e1 r1 => ⟨F1, dx, d, r1, h2, fun v H' F' e' r' => q v H' F' (e1.trans e') r'⟩⟩⟩
theorem fe_chain {op op' : CmpOp} {f g : D → D → Option D} (ho : OpR X (compareOp op) (rD2 X.K f)) (ho' : OpR X (compareOp op') (rD2 X.K g)) (ha : FE X a ma) (hb : FE X b mb) (hc : FE X c mc) (hm : lastMarks [op, op'] [b, c] = false) : FE X (.Compare a [op, op'] [b, c] pos) (eCh f g ma mb mc) := ⟨pe_mono (pe_chain ho ho' ha.pe hb.pe hc.pe hm) fun σ H Q ⟨F, env, d, hE, hm, q⟩ => by
  obtain ⟨dx, dy, h1, h2, h3⟩ := bind2 hm
  obtain ⟨z, h4, h5⟩ := bind1 h3
  refine two rfl rfl hE h1 h2 fun x y H2 F2 e2 rx ry => ⟨F2, dx, dy, z, rx, ry, h4, fun v H3 F3 e3 r3 => ?_⟩
  cases z with
  | bool k =>
    cases r3
    refine ⟨k, rfl, ?_⟩
    cases k with
    | true =>
      obtain ⟨du, h6, h7⟩ := bind1 h5
      exact iteT ⟨F3, env, du, hE.ext (e2.trans e3), h6, fun u H4 F4 e4 r4 => ⟨F4, dy, du, d, (e3.trans e4).rv ry, r4, h7, fun v H' F' e' r' => q v H' F' (((e2.trans e3).trans e4).trans e') r'⟩⟩
    | false =>
      cases h5
      exact iteF (q _ _ _ (e2.trans e3) (.bl false))
  | _ => cases h5⟩
theorem fe_and1 (ha : FE X a ma) : FE X (.BoolOp .And [a] pos) ma := ⟨pe_one ha.pe⟩
theorem fe_or1 (ha : FE X a ma) : FE X (.BoolOp .Or [a] pos) ma := ⟨pe_one ha.pe⟩
theorem fe_and {rest : List Expr} (ha : FE X a ma) (hb : FE X (.BoolOp .And (b :: rest) pos) mb) : FE X (.BoolOp .And (a :: b :: rest) pos) (eAnd ma mb) := ⟨pe_mono (pe_and ha.pe hb.pe) fun σ H Q ⟨F, env, d, hE, hm, q⟩ => by
  obtain ⟨dx, h1, h2⟩ := bind1 hm
  refine ⟨F, env, dx, hE, h1, fun x H1 F1 e1 r1 => ?_⟩
  cases dx with
  | bool k =>
    cases r1
    refine ⟨k, rfl, ?_⟩
    cases k with
    | true => exact iteT ⟨F1, env, d, hE.ext e1, h2, fun v H' F' e' r' => q v H' F' (e1.trans e') r'⟩
    | false =>
      cases h2
      exact iteF (q _ _ _ e1 (.bl false))
  | _ => cases h2⟩
theorem fe_or {rest : List Expr} (ha : FE X a ma) (hb : FE X (.BoolOp .Or (b :: rest) pos) mb) : FE X (.BoolOp .Or (a :: b :: rest) pos) (eOr ma mb) := ⟨pe_mono (pe_or ha.pe hb.pe) fun σ H Q ⟨F, env, d, hE, hm, q⟩ => by
  obtain ⟨dx, h1, h2⟩ := bind1 hm
  refine ⟨F, env, dx, hE, h1, fun x H1 F1 e1 r1 => ?_⟩
  cases dx with
  | bool k =>
    cases r1
    refine ⟨k, rfl, ?_⟩
    cases k with
    | true =>
      cases h2
      exact iteT (q _ _ _ e1 (.bl true))
    | false => exact iteF ⟨F1, env, d, hE.ext e1, h2, fun v H' F' e' r' => q v H' F' (e1.trans e') r'⟩
  | _ => cases h2⟩
def notD : D → Option D
  | .bool b => some (.bool (!b))
  | _ => none
theorem fe_not (ha : FE X a ma) : FE X (.UnaryOp .Not a pos) (e1 notD ma) := ⟨pe_mono (pe_not ha.pe) fun σ H Q ⟨F, env, d, hE, hm, q⟩ => by
  obtain ⟨dx, h1, h2⟩ := bind1 hm
  refine ⟨F, env, dx, hE, h1, fun x H1 F1 e1 r1 => ?_⟩
  cases dx with
  | bool k =>
    cases r1
    cases h2
    exact ⟨k, rfl, q _ _ _ e1 (.bl _)⟩
  | _ => cases h2⟩
theorem fe_if (hc : FT X c mt) (ha : FE X a ma) (hb : FE X b mb) : FE X (.IfExp c a b pos) (eIf mt ma mb) := ⟨pe_mono (pe_ifExp hc.pt ha.pe hb.pe) fun σ H Q ⟨F, env, d, hE, hm, q⟩ => by
  obtain ⟨k, h1, h2⟩ := bind1 hm
  refine ⟨F, env, k, hE, h1, fun H1 F1 e1 => ?_⟩
  cases k with
  | true => exact iteT ⟨F1, env, d, hE.ext e1, h2, fun v H' F' e' r' => q v H' F' (e1.trans e') r'⟩
  | false => exact iteF ⟨F1, env, d, hE.ext e1, h2, fun v H' F' e' r' => q v H' F' (e1.trans e') r'⟩⟩

/-! ### arguments, displays -/
theorem fa_nil : FA X [] aNil := ⟨pa_mono pa_nil fun σ H Q ⟨F, env, ds, hE, hm, q⟩ => by
  cases (show some [] = some ds from hm)
  exact q [] H F (Ext.refl F H) .nil⟩
theorem map1 {α β : Type} {x : Option α} {f : α → β} {z : β} (h : x.map f = some z) : ∃ u, x = some u ∧ f u = z := by
  cases x with
  | none => cases h
  | some u => exact ⟨u, rfl, by simpa using h⟩
theorem fa_cons (ha : FE X e ma) (hr : FA X es ms) (hs : starEach (e :: es) X.env = (false, eval e X.env) :: starEach es X.env := by rfl) : FA X (e :: es) (aCons ma ms) := ⟨pa_mono (pa_cons ha.pe hr.pa hs) fun σ H Q ⟨F, env, ds, hE, hm, q⟩ => by
  obtain ⟨dx, h1, h2⟩ := bind1 hm
  obtain ⟨xs, h3, rfl⟩ := map1 h2
  exact ⟨F, env, dx, hE, h1, fun x H1 F1 e1 r1 => ⟨F1, env, xs, hE.ext e1, h3, fun ys H2 F2 e2 r2 => q _ _ _ (e1.trans e2) (.cons (e2.rv r1) r2)⟩⟩⟩
theorem fa_star {p : Pos} (ha : FE X e ma) (hr : FA X es ms) (hs : starEach (.Starred e p :: es) X.env = (true, eval e X.env) :: starEach es X.env := by rfl) : FA X (.Starred e p :: es) (aStar ma ms) := ⟨pa_mono (StX.pa_star ha.pe hr.pa hs) fun σ H Q ⟨F, env, ds, hE, hm, q⟩ => by
  obtain ⟨dx, h1, h2⟩ := bind1 hm
  obtain ⟨ys, h3, h4⟩ := bind1 h2
  obtain ⟨xs, h5, rfl⟩ := map1 h4
  refine ⟨F, env, dx, hE, h1, fun x H1 F1 e1 r1 => ?_⟩
  have key : ∃ p vs, x = .ref p ∧ (SqT X.K H1 p vs ∨ SqL X.K H1 p vs) ∧ RvL X.K F1 H1 vs ys := by
    cases dx with
    | tuple zs =>
      cases h3
      cases r1 with
      | tup h r => exact ⟨_, _, rfl, .inl h, r⟩
    | list zs =>
      cases h3
      cases r1 with
      | lst f h r => exact ⟨_, _, rfl, .inr (.inl (.inl h)), r⟩
    | _ => cases h3
  obtain ⟨p, vs, rfl, hs, r⟩ := key
  exact ⟨p, vs, rfl, hs, F1, env, xs, hE.ext e1, h5, fun ys H2 F2 e2 r2 => q _ _ _ (e1.trans e2) ((e2.rvl r).append r2)⟩⟩
/-- no more items than a list may hold -/
def capD (xs : List D) : Option (List D) := if xs.length ≤ 16777216 then some xs else none
theorem capD_some {xs ys : List D} (h : capD xs = some ys) : ys = xs ∧ xs.length ≤ sizeLine := by
  unfold capD at h
  split at h
  · cases h
    exact ⟨rfl, by rw [sizeLine_eq]; assumption⟩
  · cases h
theorem fe_tup {x1} (h : FA X es ms) : FE X (.Tuple es x1 pos) (eTup fun env => (ms env).bind capD) := ⟨pe_mono (pe_tup h.pa) fun σ H Q ⟨F, env, d, hE, hm, q⟩ => by
  obtain ⟨ds, h1, rfl⟩ := map1 hm
  obtain ⟨ds', h1, h2⟩ := bind1 h1
  obtain ⟨rfl, hl⟩ := capD_some h2
  exact ⟨F, env, ds, hE, h1, fun vs H1 F1 e1 r1 => ⟨by rw [r1.length]; exact hl, fun p np => q _ _ _ (e1.trans (Ext.upd np)) (.tup (.inl (.inl upd_same)) ((Ext.upd np).rvl r1))⟩⟩⟩
theorem ff_lst (h : FA X es ms) : FF X (.List es pos) (fun env => (ms env).bind capD) := ⟨pe_mono (pe_lst h.pa) fun σ H Q ⟨F, env, ds, hE, hm, q⟩ => by
  obtain ⟨ds', h1, h2⟩ := bind1 hm
  obtain ⟨rfl, hl⟩ := capD_some h2
  refine ⟨F, env, ds, hE, h1, fun vs H1 F1 e1 r1 => ⟨by rw [r1.length]; exact hl, fun p np => ?_⟩⟩
  have hn : H p = none := e1.same.free np
  exact q p vs _ F1 (e1.trans (Ext.upd np)) hn (fun f => e1.fd hE.fd p f np) upd_same ((Ext.upd np).rvl r1)⟩
theorem FF.fe (h : FF X e ms) : FE X e (eLst ms) := ⟨pe_mono h.pe fun σ H Q ⟨F, env, d, hE, hm, q⟩ => by
  obtain ⟨ds, h1, rfl⟩ := map1 hm
  refine ⟨F, env, ds, hE, h1, fun p vs H1 F1 e1 np nf hp r => q _ _ (Fz F1 p) (e1.fz np (by rw [hp]; exact fun z => nomatch z)) (.lst Fz.at hp (r.up Fz.sub))⟩⟩

/-! ### tests -/
theorem ft_val (ha : FE X a ma) (h : PE X a (tP X.K ma) → PT X a (tB (tP X.K ma))) : FT X a (tV ma) := ⟨pt_mono (h ha.pe) fun σ H Q ⟨F, env, b, hE, hm, q⟩ => by
  obtain ⟨dx, h1, h2⟩ := bind1 hm
  refine ⟨F, env, dx, hE, h1, fun x H1 F1 e1 r1 => ?_⟩
  cases dx with
  | bool k =>
    cases r1
    cases h2
    exact ⟨_, rfl, q _ _ e1⟩
  | _ => cases h2⟩
theorem ft_cmp {op : CmpOp} {f : D → D → Option D} (ho : OpR X (compareOp op) (rD2 X.K f)) (ha : FE X a ma) (hb : FE X b mb) (hm : behindInMarks op b = false) : FT X (.Compare a [op] [b] pos) (tV (e2 f ma mb)) := ⟨pt_mono (pt_cmpR ho ha.pe hb.pe hm) fun σ H Q ⟨F, env, b, hE, hm, q⟩ => by
  obtain ⟨d, hd, h2⟩ := bind1 hm
  obtain ⟨dx, dy, h3, h4, h5⟩ := bind2 hd
  refine two rfl rfl hE h3 h4 fun x y H2 F2 e2 rx ry => ⟨F2, dx, dy, d, rx, ry, h5, fun v H' F' e' r' => ?_⟩
  cases d with
  | bool k =>
    cases r'
    cases h2
    exact ⟨_, rfl, q _ _ (e2.trans e')⟩
  | _ => cases h2⟩
theorem ft_chain {op op' : CmpOp} {f g : D → D → Option D} (ho : OpR X (compareOp op) (rD2 X.K f)) (ho' : OpR X (compareOp op') (rD2 X.K g)) (ha : FE X a ma) (hb : FE X b mb) (hc : FE X c mc) (hm : lastMarks [op, op'] [b, c] = false) : FT X (.Compare a [op, op'] [b, c] pos) (tV (eCh f g ma mb mc)) := ⟨pt_mono (pt_chain ho ho' ha.pe hb.pe hc.pe hm) fun σ H Q ⟨F, env, bb, hE, hm, q⟩ => by
  obtain ⟨d, hd, hz⟩ := bind1 hm
  obtain ⟨dx, dy, h1, h2, h3⟩ := bind2 hd
  obtain ⟨z, h4, h5⟩ := bind1 h3
  have fin : ∀ v H' F', Ext F H F' H' → Rv X.K F' H' v d → ∃ k, v = .bl k ∧ Q k H' := fun v H' F' e' r' => by
    cases d with
    | bool k =>
      cases r'
      cases hz
      exact ⟨_, rfl, q _ _ e'⟩
    | _ => cases hz
  refine two rfl rfl hE h1 h2 fun x y H2 F2 e2 rx ry => ⟨F2, dx, dy, z, rx, ry, h4, fun v H3 F3 e3 r3 => ?_⟩
  cases z with
  | bool k =>
    cases r3
    refine ⟨k, rfl, ?_⟩
    cases k with
    | true =>
      obtain ⟨du, h6, h7⟩ := bind1 h5
      exact iteT ⟨F3, env, du, hE.ext (e2.trans e3), h6, fun u H4 F4 e4 r4 => ⟨F4, dy, du, d, (e3.trans e4).rv ry, r4, h7, fun v H' F' e' r' => fin v H' F' (((e2.trans e3).trans e4).trans e') r'⟩⟩
    | false =>
      cases h5
      exact iteF (fin _ _ _ (e2.trans e3) (.bl false))
  | _ => cases h5⟩
theorem ft_not (ha : FT X a mt) : FT X (.UnaryOp .Not a pos) (tNot mt) := ⟨pt_mono (pt_not ha.pt) fun σ H Q ⟨F, env, b, hE, hm, q⟩ => by
  obtain ⟨k, h1, rfl⟩ := map1 hm
  exact ⟨F, env, k, hE, h1, q⟩⟩
/-- and, or as tests, whatever their whole is -/
structure FW (X : Cx) (e : Expr) (m : Env' → Option Bool) : Prop where
  pw : PW X e (tPT X.K m)
theorem pw_mono {t t' : TT} (h : PW X e t) (i : ∀ σ H Q, t' σ H Q → t σ H Q) : PW X e t' := ⟨fun w pins s σ H Q I q => h.run w pins s σ H Q I (i σ H Q q)⟩
theorem fw_and1 (ha : FT X a mt) : FW X (.BoolOp .And [a] pos) mt := ⟨pw_and1 ha.pt⟩
theorem fw_or1 (ha : FT X a mt) : FW X (.BoolOp .Or [a] pos) mt := ⟨pw_or1 ha.pt⟩
theorem fw_and {rest : List Expr} (ha : FT X a mt) (hb : FW X (.BoolOp .And (b :: rest) pos) mu) : FW X (.BoolOp .And (a :: b :: rest) pos) (tAnd mt mu) := ⟨pw_mono (pw_and ha.pt hb.pw) fun σ H Q ⟨F, env, b, hE, hm, q⟩ => by
  obtain ⟨k, h1, h2⟩ := bind1 hm
  refine ⟨F, env, k, hE, h1, fun H1 F1 e1 => ?_⟩
  cases k with
  | true => exact iteT ⟨F1, env, b, hE.ext e1, h2, fun H' F' e' => q H' F' (e1.trans e')⟩
  | false =>
    cases h2
    exact iteF (q _ _ e1)⟩
theorem fw_or {rest : List Expr} (ha : FT X a mt) (hb : FW X (.BoolOp .Or (b :: rest) pos) mu) : FW X (.BoolOp .Or (a :: b :: rest) pos) (tOr mt mu) := ⟨pw_mono (pw_or ha.pt hb.pw) fun σ H Q ⟨F, env, b, hE, hm, q⟩ => by
  obtain ⟨k, h1, h2⟩ := bind1 hm
  refine ⟨F, env, k, hE, h1, fun H1 F1 e1 => ?_⟩
  cases k with
  | true =>
    cases h2
    exact iteT (q _ _ e1)
  | false => exact iteF ⟨F1, env, b, hE.ext e1, h2, fun H' F' e' => q H' F' (e1.trans e')⟩⟩
theorem FW.ft (h : FW X e mt) : FT X e mt := ⟨h.pw.pt⟩
end
end FL

set_option Elab.async false
set_option linter.all false
set_option maxRecDepth 100000
/-! FLb: operations on values as functions on data. -/
namespace FL
open PySem PySem.Spec PyProof.Rows L2

theorem OpR.imp {X : Cx} {f : Value → Value → Sem Value} {r r' : R2} (h : OpR X f r) (i : ∀ x y H Q, r' x y H Q → r x y H Q) : OpR X f r' := fun pins s σ H x y v u Q I rx ry q => h pins s σ H x y v u Q I rx ry (i x y H Q q)
theorem UnR.imp {X : Cx} {f : Value → Sem Value} {r r' : V → Hp → VK → Prop} (h : UnR X f r) (i : ∀ x H Q, r' x H Q → r x H Q) : UnR X f r' := fun pins s σ H x v Q I rx q => h pins s σ H x v Q I rx (i x H Q q)
theorem CallR.imp {X : Cx} {f : Value} {r r' : List V → Hp → VK → Prop} (h : CallR X f r) (i : ∀ xs H Q, r' xs H Q → r xs H Q) : CallR X f r' := fun pins s σ H xs us Q I rx q => h pins s σ H xs us Q I rx (i xs H Q q)
theorem IxR.imp {X : Cx} {r r' : R2} (h : IxR X r) (i : ∀ x y H Q, r' x y H Q → r x y H Q) : IxR X r' := fun a b pins s σ H x y v u Q I rx ry q => h a b pins s σ H x y v u Q I rx ry (i x y H Q q)
theorem SlR.imp {X : Cx} {r r' : V → Option Int → Option Int → Hp → VK → Prop} (h : SlR X r) (i : ∀ x lo hi H Q, r' x lo hi H Q → r x lo hi H Q) : SlR X r' := fun pins s σ H x v vl vu lo hi sl Q I rx hs pl pu q => h pins s σ H x v vl vu lo hi sl Q I rx hs pl pu (i x lo hi H Q q)

section
variable {K : PySem.W.Frag} {F : AP'} {H : Hp} {v : V}
theorem Rv.int_inv {i : Int} (r : Rv K F H v (.int i)) : v = .int i := by cases r; rfl
theorem Rv.bl_inv {b : Bool} (r : Rv K F H v (.bool b)) : v = .bl b := by cases r; rfl
theorem Rv.str_inv {x : Str} (r : Rv K F H v (.str x)) : v = .str x := by cases r; rfl
theorem Rv.non_inv (r : Rv K F H v .none) : v = .non := by cases r; rfl
theorem Rv.tup_inv {ds : List D} (r : Rv K F H v (.tuple ds)) : ∃ a xs, v = .ref a ∧ SqT K H a xs ∧ RvL K F H xs ds := by cases r with | tup h r => exact ⟨_, _, rfl, h, r⟩
theorem Rv.lst_inv {ds : List D} (r : Rv K F H v (.list ds)) : ∃ a xs, v = .ref a ∧ F a ∧ H a = some (.lst xs) ∧ RvL K F H xs ds := by cases r with | lst f h r => exact ⟨_, _, rfl, f, h, r⟩
theorem RvL.nil_inv {vs : List V} (r : RvL K F H vs []) : vs = [] := by cases r; rfl
theorem RvL.cons_inv {vs : List V} {d : D} {ds : List D} (r : RvL K F H vs (d :: ds)) : ∃ w ws, vs = w :: ws ∧ Rv K F H w d ∧ RvL K F H ws ds := by cases r with | cons h r => exact ⟨_, _, rfl, h, r⟩
theorem RvL.one_inv {vs : List V} {d : D} (r : RvL K F H vs [d]) : ∃ w, vs = [w] ∧ Rv K F H w d := by
  obtain ⟨w, ws, rfl, h, r⟩ := r.cons_inv
  cases r
  exact ⟨w, rfl, h⟩
theorem RvL.two_inv {vs : List V} {d e : D} (r : RvL K F H vs [d, e]) : ∃ w u, vs = [w, u] ∧ Rv K F H w d ∧ Rv K F H u e := by
  obtain ⟨w, ws, rfl, h, r⟩ := r.cons_inv
  obtain ⟨u, rfl, r'⟩ := r.one_inv
  exact ⟨w, u, rfl, h, r'⟩
end

/-! ### numbers -/
def int2 (f : Int → Int → Option D) : D → D → Option D
  | .int i, .int j => f i j
  | _, _ => none
def subD : D → D → Option D := int2 fun i j => some (.int (i - j))
def mulI (i j : Int) : Option D := if i.natAbs.log2 + j.natAbs.log2 < 1000000 then some (.int (i * j)) else none
def fdivD : D → D → Option D := int2 fun i j => if 0 < j ∧ j.natAbs.log2 < 9000 then some (.int (i / j)) else none
def modD : D → D → Option D := int2 fun i j => if 0 < j then some (.int (i % j)) else none
def ltD : D → D → Option D := int2 fun i j => some (.bool (decide (i < j)))
def leD : D → D → Option D := int2 fun i j => some (.bool (decide (i ≤ j)))
def gtD : D → D → Option D := int2 fun i j => some (.bool (decide (j < i)))
def geD : D → D → Option D := int2 fun i j => some (.bool (decide (j ≤ i)))
def negD : D → Option D
  | .int i => some (.int (-i))
  | _ => none
theorem int2_some {f : Int → Int → Option D} {x y d : D} (h : int2 f x y = some d) : ∃ i j, x = .int i ∧ y = .int j ∧ f i j = some d := by
  unfold int2 at h
  split at h
  · exact ⟨_, _, rfl, rfl, h⟩
  · cases h
section
variable {X : Cx}
theorem op2I {op : Value → Value → Sem Value} {C : Int → Int → Prop} {g : Int → Int → V} {f : Int → Int → Option D} (h : OpR X op (rI C g)) (hf : ∀ i j d, f i j = some d → C i j ∧ ∀ F H, Rv X.K F H (g i j) d) : OpR X op (rD2 X.K (int2 f)) :=
  OpR.imp h fun x y H Q h' => by
    obtain ⟨F, dx, dy, d, rx, ry, hd, q⟩ := h'
    obtain ⟨i, j, rfl, rfl, hd⟩ := int2_some hd
    obtain rfl := rx.int_inv
    obtain rfl := ry.int_inv
    exact ⟨i, j, rfl, rfl, (hf i j d hd).1, q _ _ _ (Ext.refl F H) ((hf i j d hd).2 F H)⟩
theorem op2I0 {op : Value → Value → Sem Value} {g : Int → Int → V} {f : Int → Int → Option D} (h : OpR X op (rI0 g)) (hf : ∀ i j d, f i j = some d → ∀ F H, Rv X.K F H (g i j) d) : OpR X op (rD2 X.K (int2 f)) :=
  OpR.imp h fun x y H Q h' => by
    obtain ⟨F, dx, dy, d, rx, ry, hd, q⟩ := h'
    obtain ⟨i, j, rfl, rfl, hd⟩ := int2_some hd
    obtain rfl := rx.int_inv
    obtain rfl := ry.int_inv
    exact ⟨i, j, rfl, rfl, q _ _ _ (Ext.refl F H) (hf i j d hd F H)⟩
theorem od_sub : OpR X (binaryOp .Sub) (rD2 X.K subD) := op2I0 op_sub fun i j d h F H => by cases h; exact .int _
theorem od_fdiv : OpR X (binaryOp .FloorDiv) (rD2 X.K fdivD) := op2I op_fdivW fun i j d h => by
  split at h
  · rename_i hc
    cases h
    exact ⟨hc, fun _ _ => .int _⟩
  · cases h
theorem od_mod : OpR X (binaryOp .Mod) (rD2 X.K modD) := op2I op_mod fun i j d h => by
  split at h
  · rename_i hc
    cases h
    exact ⟨hc, fun _ _ => .int _⟩
  · cases h
theorem od_lt : OpR X (compareOp .Lt) (rD2 X.K ltD) := op2I0 op_lt fun i j d h F H => by cases h; exact .bl _
theorem od_le : OpR X (compareOp .LtE) (rD2 X.K leD) := op2I0 op_le fun i j d h F H => by cases h; exact .bl _
theorem od_gt : OpR X (compareOp .Gt) (rD2 X.K gtD) := op2I0 op_gt fun i j d h F H => by cases h; exact .bl _
theorem od_ge : OpR X (compareOp .GtE) (rD2 X.K geD) := op2I0 op_ge fun i j d h F H => by cases h; exact .bl _
theorem od_neg : UnR X (unaryOp .USub) (rD1 X.K negD) := UnR.imp un_neg fun x H Q h => by
  obtain ⟨F, dx, d, rx, hd, q⟩ := h
  cases dx with
  | int i =>
    obtain rfl := rx.int_inv
    cases hd
    exact ⟨i, rfl, q _ _ _ (Ext.refl F H) (.int _)⟩
  | _ => cases hd

/-! ### +, *: numbers, texts, tuples, lists -/
def addD : D → D → Option D
  | .int i, .int j => some (.int (i + j))
  | .str a, .str b => if a.length + b.length ≤ 16777216 then some (.str (a ++ b)) else none
  | .tuple xs, .tuple ys => if xs.length + ys.length ≤ 16777216 then some (.tuple (xs ++ ys)) else none
  | .list xs, .list ys => if xs.length + ys.length ≤ 16777216 then some (.list (xs ++ ys)) else none
  | _, _ => none
theorem od_add : OpR X (binaryOp .Add) (rD2 X.K addD) := OpR.imp (op_add.or (op_add_str.or (op_catA.or op_cat))) fun x y H Q h => by
  obtain ⟨F, dx, dy, d, rx, ry, hd, q⟩ := h
  have hs := sizeLine_eq
  unfold addD at hd
  split at hd
  · obtain rfl := rx.int_inv
    obtain rfl := ry.int_inv
    cases hd
    exact .inl ⟨_, _, rfl, rfl, q _ _ _ (Ext.refl F H) (.int _)⟩
  · obtain rfl := rx.str_inv
    obtain rfl := ry.str_inv
    split at hd
    · cases hd
      exact .inr (.inl ⟨_, _, rfl, rfl, by omega, q _ _ _ (Ext.refl F H) (.str _)⟩)
    · cases hd
  · obtain ⟨a, xs, rfl, h1, r1⟩ := rx.tup_inv
    obtain ⟨b, ys, rfl, h2, r2⟩ := ry.tup_inv
    split at hd
    · rename_i hl
      cases hd
      have e1 := r1.length
      have e2 := r2.length
      refine .inr (.inr (.inl ⟨a, b, xs, ys, rfl, rfl, h1, h2, by omega, fun z => ?_, fun _ z => ?_, fun _ _ p np => ?_⟩))
      · subst z
        cases r1
        exact q _ _ _ (Ext.refl F H) ry
      · subst z
        cases r2
        rw [List.append_nil] at q
        exact q _ _ _ (Ext.refl F H) rx
      · exact q _ _ _ (Ext.upd np) (.tup (.inl (.inl upd_same)) ((Ext.upd np).rvl (r1.append r2)))
    · cases hd
  · obtain ⟨a, xs, rfl, f1, h1, r1⟩ := rx.lst_inv
    obtain ⟨b, ys, rfl, f2, h2, r2⟩ := ry.lst_inv
    split at hd
    · rename_i hl
      cases hd
      have e1 := r1.length
      have e2 := r2.length
      refine .inr (.inr (.inr ⟨a, b, xs, ys, rfl, rfl, h1, h2, by omega, fun p np => ?_⟩))
      exact q _ _ (Fz F p) ((Ext.upd np).fz np (by rw [upd_same]; exact fun z => nomatch z)) (.lst Fz.at upd_same (RvL.up Fz.sub ((Ext.upd np).rvl (r1.append r2))))
    · cases hd
  · cases hd
/-- [x] * n, n * m; a tuple n times (HandS has it from two turns on) -/
def mulD : D → D → Option D
  | .int i, .int j => mulI i j
  | .list xs, .int n => if 0 ≤ n ∧ n ≤ 1000000 ∧ xs.length ≤ 16 then some (.list (List.replicate n.toNat xs).flatten) else none
  | .tuple xs, .int n => if 2 ≤ n ∧ n ≤ 1000 ∧ xs ≠ [] ∧ xs.length ≤ 1000 then some (.tuple (List.replicate n.toNat xs).flatten) else none
  | _, _ => none
theorem RvL.flat {F : AP'} {H : Hp} {vs : List V} {ds : List D} (r : RvL X.K F H vs ds) : ∀ n : Nat, RvL X.K F H (List.replicate n vs).flatten (List.replicate n ds).flatten
  | 0 => .nil
  | n + 1 => by
    simp only [List.replicate_succ, List.flatten_cons]
    exact r.append (RvL.flat r n)
theorem od_mul : OpR X (binaryOp .Mult) (rD2 X.K mulD) := OpR.imp (op_mulW.or (op_rep.or op_repT)) fun x y H Q h => by
  obtain ⟨F, dx, dy, d, rx, ry, hd, q⟩ := h
  have hs := sizeLine_eq
  unfold mulD at hd
  split at hd
  · obtain rfl := rx.int_inv
    obtain rfl := ry.int_inv
    unfold mulI at hd
    split at hd
    · rename_i hc
      cases hd
      exact .inl ⟨_, _, rfl, rfl, hc, q _ _ _ (Ext.refl F H) (.int _)⟩
    · cases hd
  · obtain ⟨a, xs, rfl, f1, h1, r1⟩ := rx.lst_inv
    obtain rfl := ry.int_inv
    split at hd
    · rename_i n hc
      cases hd
      have e1 := r1.length
      have hb : xs.length * n.toNat ≤ sizeLine := by
        have h2 : xs.length * n.toNat ≤ 16 * 1000000 := Nat.mul_le_mul (by omega) (by omega)
        omega
      refine .inr (.inl ⟨a, n, xs, rfl, rfl, h1, by omega, by omega, hb, fun p np => ?_⟩)
      exact q _ _ (Fz F p) ((Ext.upd np).fz np (by rw [upd_same]; exact fun z => nomatch z)) (.lst Fz.at upd_same (RvL.up Fz.sub ((Ext.upd np).rvl (r1.flat _))))
    · cases hd
  · obtain ⟨a, xs, rfl, h1, r1⟩ := rx.tup_inv
    obtain rfl := ry.int_inv
    split at hd
    · rename_i n hc
      cases hd
      have e1 := r1.length
      have hne : xs ≠ [] := fun z => by
        subst z
        cases r1
        exact hc.2.2.1 rfl
      refine .inr (.inr ⟨a, n, xs, rfl, rfl, h1, hne, by omega, by omega, by omega, fun p np => ?_⟩)
      exact q _ _ _ (Ext.upd np) (.tup (.inl (.inl upd_same)) ((Ext.upd np).rvl (r1.flat _)))
    · cases hd
  · cases hd

/-! ### ==, in, is -/
def eqD (x y : D) : Option D := if SeqAt.shaped x = true ∧ SeqAt.shaped y = true then some (.bool (PyData.eqv x y)) else none
def neD (x y : D) : Option D := if SeqAt.shaped x = true ∧ SeqAt.shaped y = true then some (.bool (!PyData.eqv x y)) else none
theorem od_eq (hu : X.A.units + 64 < cLine) : OpR X (compareOp .Eq) (rD2 X.K eqD) := OpR.imp (op_eqD hu) fun x y H Q h => by
  obtain ⟨F, dx, dy, d, rx, ry, hd, q⟩ := h
  unfold eqD at hd
  split at hd
  · rename_i hc
    cases hd
    exact ⟨dx, dy, rx.dp (shaped_lay hc.1), ry.dp (shaped_lay hc.2), hc.1, hc.2, q _ _ _ (Ext.refl F H) (.bl _)⟩
  · cases hd
theorem od_ne (hu : X.A.units + 64 < cLine) : OpR X (compareOp .NotEq) (rD2 X.K neD) := OpR.imp (op_neD hu) fun x y H Q h => by
  obtain ⟨F, dx, dy, d, rx, ry, hd, q⟩ := h
  unfold neD at hd
  split at hd
  · rename_i hc
    cases hd
    exact ⟨dx, dy, rx.dp (shaped_lay hc.1), ry.dp (shaped_lay hc.2), hc.1, hc.2, q _ _ _ (Ext.refl F H) (.bl _)⟩
  · cases hd
def flatD : D → Bool
  | .none | .bool _ | .int _ | .str _ => true
  | _ => false
theorem Rv.flatV {F : AP'} {H : Hp} {v : V} {d : D} (r : Rv X.K F H v d) : L2.flatV v = flatD d := by cases r <;> rfl
theorem RvL.flatV {F : AP'} {H : Hp} : ∀ {vs : List V} {ds : List D}, RvL X.K F H vs ds → vs.all L2.flatV = ds.all flatD
  | _, _, .nil => rfl
  | _, _, .cons h r => by simp only [List.all_cons]; rw [RvL.flatV r, h.flatV]
theorem Rv.eqV {F : AP'} {H : Hp} {v w : V} {d e : D} (r : Rv X.K F H v d) (s : Rv X.K F H w e) (h1 : flatD d = true) (h2 : flatD e = true) : L2.eqV v w = PyData.eqv d e := by
  cases r <;> cases s <;> first | rfl | (exfalso; exact Bool.false_ne_true h1) | (exfalso; exact Bool.false_ne_true h2) | simp [L2.eqV, PyData.eqv]
theorem RvL.inV {F : AP'} {H : Hp} {v : V} {d : D} (r : Rv X.K F H v d) (h1 : flatD d = true) : ∀ {vs : List V} {ds : List D}, RvL X.K F H vs ds → ds.all flatD = true → L2.inV v vs = ds.any fun z => PyData.eqv z d
  | _, _, .nil, _ => rfl
  | _, _, .cons h t, q => by
    simp only [List.all_cons, Bool.and_eq_true] at q
    have e := RvL.inV r h1 t q.2
    unfold L2.inV at e ⊢
    simp only [List.any_cons]
    rw [e, h.eqV r q.1 h1]
def hasD (x : D) : D → Option Bool
  | .tuple ds => if flatD x = true ∧ ds.all flatD = true then some (ds.any fun z => PyData.eqv z x) else none
  | .list ds => if flatD x = true ∧ ds.all flatD = true then some (ds.any fun z => PyData.eqv z x) else if SeqAt.shaped x = true ∧ SeqAt.shaped (.list ds) = true then some (ds.any fun z => PyData.eqv z x) else none
  | _ => none
def inD (x y : D) : Option D := (hasD x y).map fun b => .bool b
def notInD (x y : D) : Option D := (hasD x y).map fun b => .bool (!b)
theorem hasD_split {F : AP'} {H : Hp} {x y : V} {dx dy : D} {b : Bool} (rx : Rv X.K F H x dx) (ry : Rv X.K F H y dy) (h : hasD dx dy = some b) :
    (∃ p xs, y = .ref p ∧ (SqL X.K H p xs ∨ SqT X.K H p xs) ∧ L2.flatV x = true ∧ xs.all L2.flatV = true ∧ L2.inV x xs = b) ∨
    (∃ d ds, Dp X.K H x d ∧ Dp X.K H y (.list ds) ∧ SeqAt.shaped d = true ∧ SeqAt.shaped (.list ds) = true ∧ (ds.any fun z => PyData.eqv z d) = b) := by
  unfold hasD at h
  split at h
  · split at h
    · rename_i ds hc
      cases h
      obtain ⟨a, xs, rfl, h1, r1⟩ := ry.tup_inv
      exact .inl ⟨a, xs, rfl, .inr h1, by rw [rx.flatV]; exact hc.1, by rw [r1.flatV]; exact hc.2, RvL.inV rx hc.1 r1 hc.2⟩
    · cases h
  · split at h
    · rename_i ds hc
      cases h
      obtain ⟨a, xs, rfl, _, h1, r1⟩ := ry.lst_inv
      exact .inl ⟨a, xs, rfl, .inl (.inl (.inl h1)), by rw [rx.flatV]; exact hc.1, by rw [r1.flatV]; exact hc.2, RvL.inV rx hc.1 r1 hc.2⟩
    · split at h
      · rename_i ds _ hc
        cases h
        exact .inr ⟨dx, _, rx.dp (shaped_lay hc.1), ry.dp (shaped_lay hc.2), hc.1, hc.2, rfl⟩
      · cases h
  · cases h
theorem od_in (hu : X.A.units + 65 < cLine) : OpR X (compareOp .In) (rD2 X.K inD) := OpR.imp (op_in_seq.or (op_inD hu)) fun x y H Q h => by
  obtain ⟨F, dx, dy, d, rx, ry, hd, q⟩ := h
  obtain ⟨b, hb, rfl⟩ := map1 hd
  have z := q _ _ _ (Ext.refl F H) (.bl b)
  rcases hasD_split rx ry hb with ⟨p, xs, rfl, h1, h2, h3, rfl⟩ | ⟨e, es, h1, h2, h3, h4, rfl⟩
  · exact .inl ⟨p, xs, rfl, h1, h2, h3, z⟩
  · exact .inr ⟨e, es, h1, h2, h3, h4, z⟩
theorem od_notIn (hu : X.A.units + 65 < cLine) : OpR X (compareOp .NotIn) (rD2 X.K notInD) := OpR.imp (op_notIn_seq.or (op_notInD hu)) fun x y H Q h => by
  obtain ⟨F, dx, dy, d, rx, ry, hd, q⟩ := h
  obtain ⟨b, hb, rfl⟩ := map1 hd
  have z := q _ _ _ (Ext.refl F H) (.bl (!b))
  rcases hasD_split rx ry hb with ⟨p, xs, rfl, h1, h2, h3, rfl⟩ | ⟨e, es, h1, h2, h3, h4, rfl⟩
  · exact .inl ⟨p, xs, rfl, h1, h2, h3, z⟩
  · exact .inr ⟨e, es, h1, h2, h3, h4, z⟩
def isSame : D → D → Option Bool
  | x, .none => some (match x with | .none => true | _ => false)
  | .bool a, .bool b => some (decide (a = b))
  | _, _ => none
def isD (x y : D) : Option D := (isSame x y).map fun b => .bool b
def isNotD (x y : D) : Option D := (isSame x y).map fun b => .bool (!b)
theorem isSame_split {F : AP'} {H : Hp} {x y : V} {dx dy : D} {b : Bool} (rx : Rv X.K F H x dx) (ry : Rv X.K F H y dy) (h : isSame dx dy = some b) :
    (y = .non ∧ decide (x = V.non) = b) ∨ ∃ k l, x = .bl k ∧ y = .bl l ∧ decide (k = l) = b := by
  unfold isSame at h
  split at h
  · cases ry
    cases h
    left
    cases rx <;> simp [hnd]
  · cases rx
    cases ry
    cases h
    exact .inr ⟨_, _, rfl, rfl, rfl⟩
  · cases h
theorem od_is : OpR X (compareOp .Is) (rD2 X.K isD) := OpR.imp (op_isN.or op_is_bl) fun x y H Q h => by
  obtain ⟨F, dx, dy, d, rx, ry, hd, q⟩ := h
  obtain ⟨b, hb, rfl⟩ := map1 hd
  have z := q _ _ _ (Ext.refl F H) (.bl b)
  rcases isSame_split rx ry hb with ⟨rfl, rfl⟩ | ⟨k, l, rfl, rfl, rfl⟩
  · exact .inl ⟨rfl, z⟩
  · exact .inr ⟨k, l, rfl, rfl, z⟩
theorem od_isNot : OpR X (compareOp .IsNot) (rD2 X.K isNotD) := OpR.imp (op_notN.or op_isnot_bl) fun x y H Q h => by
  obtain ⟨F, dx, dy, d, rx, ry, hd, q⟩ := h
  obtain ⟨b, hb, rfl⟩ := map1 hd
  have z := q _ _ _ (Ext.refl F H) (.bl (!b))
  rcases isSame_split rx ry hb with ⟨rfl, rfl⟩ | ⟨k, l, rfl, rfl, rfl⟩
  · exact .inl ⟨rfl, z⟩
  · exact .inr ⟨k, l, rfl, rfl, z⟩

/-! ### subscripts, slices -/
def ixD : D → D → Option D
  | .tuple ds, .int i => atI ds i
  | .list ds, .int i => atI ds i
  | .str z, .int i => if z.length ≤ 16777216 then (atI z.cps.toList i).map fun c => .str ⟨#[c]⟩ else none
  | _, _ => none
theorem RvL.atI {F : AP'} {H : Hp} {vs : List V} {ds : List D} {i : Int} {d : D} (r : RvL X.K F H vs ds) (h : L2.atI ds i = some d) : ∃ v, L2.atI vs i = some v ∧ Rv X.K F H v d := by
  unfold L2.atI at h ⊢
  rw [r.length]
  cases z : ixN ds.length i with
  | none => rw [z] at h; cases h
  | some j =>
    rw [z] at h
    exact r.getD h
theorem od_ix : IxR X (rD2 X.K ixD) := IxR.imp ix_seq fun x y H Q h => by
  obtain ⟨F, dx, dy, d, rx, ry, hd, q⟩ := h
  unfold ixD at hd
  split at hd
  · obtain ⟨a, xs, rfl, h1, r1⟩ := rx.tup_inv
    obtain rfl := ry.int_inv
    obtain ⟨v, h2, r2⟩ := r1.atI hd
    exact .inr (.inl ⟨a, xs, _, v, rfl, rfl, h1, h2, q _ _ _ (Ext.refl F H) r2⟩)
  · obtain ⟨a, xs, rfl, _, h1, r1⟩ := rx.lst_inv
    obtain rfl := ry.int_inv
    obtain ⟨v, h2, r2⟩ := r1.atI hd
    exact .inl ⟨a, xs, _, v, rfl, rfl, .inl (.inl h1), h2, q _ _ _ (Ext.refl F H) r2⟩
  · obtain rfl := rx.str_inv
    obtain rfl := ry.int_inv
    split at hd
    · obtain ⟨c, h2, rfl⟩ := map1 hd
      have hs := sizeLine_eq
      exact .inr (.inr ⟨_, _, c, rfl, rfl, by omega, h2, q _ _ _ (Ext.refl F H) (.str _)⟩)
    · cases hd
  · cases hd
theorem fe_ix {a b : Expr} {ma mb : Env' → Option D} {pos : Pos} (ha : FE X a ma) (hb : FE X b mb) (hs : PlainIx b) : FE X (.Subscript a b pos) (e2 ixD ma mb) := ⟨pe_mono (pe_ix od_ix ha.pe hb.pe hs) fun σ H Q ⟨F, env, d, hE, hm, q⟩ => by
  obtain ⟨dx, dy, h1, h2, h3⟩ := bind2 hm
  exact two rfl rfl hE h1 h2 fun x y H2 F2 e2 rx ry => ⟨F2, dx, dy, d, rx, ry, h3, fun v H' F' e' r' => q v H' F' (e2.trans e') r'⟩⟩
def sIxD := HT.sIx
def cutD {α : Type} (xs : List α) (lo hi : Option Int) : List α := (xs.drop (HT.sIx xs.length 0 lo)).take (HT.sIx xs.length xs.length hi - HT.sIx xs.length 0 lo)
def slD (lo hi : Option Int) : D → Option D
  | .tuple ds => some (.tuple (cutD ds lo hi))
  | .list ds => some (.list (cutD ds lo hi))
  | _ => none
def rDsl (K : PySem.W.Frag) : V → Option Int → Option Int → Hp → VK → Prop := fun x lo hi H Q => ∃ F dx d, Rv K F H x dx ∧ slD lo hi dx = some d ∧ ∀ v H' F', Ext F H F' H' → Rv K F' H' v d → Q v H'
theorem od_sl : SlR X (rDsl X.K) := SlR.imp (sl_tupA.or sl_list) fun x lo hi H Q h => by
  obtain ⟨F, dx, d, rx, hd, q⟩ := h
  unfold slD at hd
  split at hd
  · rename_i ds
    obtain ⟨a, xs, rfl, h1, r1⟩ := rx.tup_inv
    cases hd
    have e1 := r1.length
    have r2 : RvL X.K F H (cutV xs lo hi) (cutD ds lo hi) := by
      unfold cutV cutD
      rw [e1]
      exact (r1.drop _).take _
    refine .inl ⟨a, xs, rfl, h1, fun z => ?_, fun _ p np => ?_⟩
    · have : cutV xs lo hi = xs := by
        unfold cutV
        rw [z.1, z.2]
        simp
      rw [this] at r2
      exact q _ _ _ (Ext.refl F H) (.tup h1 r2)
    · exact q _ _ _ (Ext.upd np) (.tup (.inl (.inl upd_same)) ((Ext.upd np).rvl r2))
  · rename_i ds
    obtain ⟨a, xs, rfl, _, h1, r1⟩ := rx.lst_inv
    cases hd
    have e1 := r1.length
    have r2 : RvL X.K F H (cutV xs lo hi) (cutD ds lo hi) := by
      unfold cutV cutD
      rw [e1]
      exact (r1.drop _).take _
    refine .inr ⟨a, xs, rfl, .inl (.inl h1), fun p np => ?_⟩
    exact q _ _ (Fz F p) ((Ext.upd np).fz np (by rw [upd_same]; exact fun z => nomatch z)) (.lst Fz.at upd_same (RvL.up Fz.sub ((Ext.upd np).rvl r2)))
  · cases hd
/-- a slice's part -/
def tPO (K : PySem.W.Frag) (m : Env' → Option (Option Int)) : TO := fun σ H Q => ∃ F env o, EnvR K F H env σ ∧ m env = some o ∧ ∀ H' F', Ext F H F' H' → Q o H'
structure FO (X : Cx) (e : Option Expr) (m : Env' → Option (Option Int)) : Prop where
  po : PO X e (tPO X.K m)
theorem po_mono {e : Option Expr} {t t' : TO} (h : PO X e t) (i : ∀ σ H Q, t' σ H Q → t σ H Q) : PO X e t' := ⟨fun pins s σ H Q I q => h.run pins s σ H Q I (i σ H Q q)⟩
def oNone : Env' → Option (Option Int) := fun _ => some none
def oSome (a : Env' → Option D) : Env' → Option (Option Int) := fun env => (a env).bind fun d => match d with
  | .int i => some (some i)
  | _ => none
theorem fo_none : FO X none oNone := ⟨po_mono po_none fun σ H Q ⟨F, env, o, hE, hm, q⟩ => by
  cases (show some none = some o from hm)
  exact q H F (Ext.refl F H)⟩
theorem fo_some {e : Expr} {m : Env' → Option D} (h : FE X e m) : FO X (some e) (oSome m) := ⟨po_mono (po_some h.pe) fun σ H Q ⟨F, env, o, hE, hm, q⟩ => by
  obtain ⟨d, h1, h2⟩ := bind1 hm
  refine ⟨F, env, d, hE, h1, fun x H1 F1 e1 r1 => ?_⟩
  cases d with
  | int i =>
    obtain rfl := r1.int_inv
    cases h2
    exact ⟨i, rfl, q _ _ e1⟩
  | _ => cases h2⟩
def eSl (a : Env' → Option D) (lo hi : Env' → Option (Option Int)) : Env' → Option D := fun env => (a env).bind fun x => (lo env).bind fun l => (hi env).bind fun h => slD l h x
theorem fe_sl {a : Expr} {lo hi : Option Expr} {ma : Env' → Option D} {ml mh : Env' → Option (Option Int)} {pos p2 : Pos} (ha : FE X a ma) (hl : FO X lo ml) (hh : FO X hi mh) : FE X (.Subscript a (.Slice lo hi none p2) pos) (eSl ma ml mh) := ⟨pe_mono (pe_slice od_sl ha.pe hl.po hh.po) fun σ H Q ⟨F, env, d, hE, hm, q⟩ => by
  obtain ⟨dx, h1, h2⟩ := bind1 hm
  obtain ⟨l, h3, h4⟩ := bind1 h2
  obtain ⟨h, h5, h6⟩ := bind1 h4
  exact ⟨F, env, dx, hE, h1, fun x H1 F1 e1 r1 => ⟨F1, env, l, hE.ext e1, h3, fun H2 F2 e2 => ⟨F2, env, h, hE.ext (e1.trans e2), h5, fun H3 F3 e3 => ⟨F3, dx, d, (e2.trans e3).rv r1, h6, fun v H' F' e' r' => q v H' F' (((e1.trans e2).trans e3).trans e') r'⟩⟩⟩⟩⟩

/-! ### built-ins -/
def on1 (f : D → Option D) : List D → Option D
  | [x] => f x
  | _ => none
def on2 (f : D → D → Option D) : List D → Option D
  | [x, y] => f x y
  | _ => none
theorem on1_some {f : D → Option D} {xs : List D} {d : D} (h : on1 f xs = some d) : ∃ x, xs = [x] ∧ f x = some d := by
  unfold on1 at h
  split at h
  · exact ⟨_, rfl, h⟩
  · cases h
theorem on2_some {f : D → D → Option D} {xs : List D} {d : D} (h : on2 f xs = some d) : ∃ x y, xs = [x, y] ∧ f x y = some d := by
  unfold on2 at h
  split at h
  · exact ⟨_, _, rfl, h⟩
  · cases h
section
variable {e : Expr} {es : List Expr} {ms : Env' → Option (List D)} {f : List D → Option D} {id T : String} {x : Str} {p pos : Pos}
theorem fe_callB (hc : CallR X (.builtin id) (rDL X.K f)) (hg : Gl X x) (hm : X.mg x = none) (hv : bootBuiltins x = some (.builtin id)) (ha : FA X (e :: es) ms) (hn : x ≠ "__name__" := by decide) (hdb : (x == ("__debug__" : Str)) = false := by decide)
    (he : starEach (e :: es) X.env = (false, eval e X.env) :: starEach es X.env := by rfl) (hpl : (backTo pos (starEach es X.env)).any (·.1) = false := by rfl) : FE X (.Call (.Name x p) (e :: es) [] pos) (eF f ms) := ⟨pe_mono (pe_callB hc hg hm hv ha.pa hn hdb he hpl) fun σ H Q ⟨F, env, d, hE, hm, q⟩ => by
  obtain ⟨xs, h1, h2⟩ := bind1 hm
  exact ⟨F, env, xs, hE, h1, fun vs H1 F1 e1 r1 => ⟨F1, xs, d, r1, h2, fun v H' F' e' r' => q v H' F' (e1.trans e') r'⟩⟩⟩
theorem fe_callTy (hc : CallR X (.type T) (rDL X.K f)) (hg : Gl X x) (hm : X.mg x = none) (hv : bootBuiltins x = some (.type T)) (ha : FA X (e :: es) ms) (hn : x ≠ "__name__" := by decide) (hdb : (x == ("__debug__" : Str)) = false := by decide)
    (he : starEach (e :: es) X.env = (false, eval e X.env) :: starEach es X.env := by rfl) (hpl : (backTo pos (starEach es X.env)).any (·.1) = false := by rfl) : FE X (.Call (.Name x p) (e :: es) [] pos) (eF f ms) := ⟨pe_mono (pe_callTy hc hg hm hv ha.pa hn hdb he hpl) fun σ H Q ⟨F, env, d, hE, hm, q⟩ => by
  obtain ⟨xs, h1, h2⟩ := bind1 hm
  exact ⟨F, env, xs, hE, h1, fun vs H1 F1 e1 r1 => ⟨F1, xs, d, r1, h2, fun v H' F' e' r' => q v H' F' (e1.trans e') r'⟩⟩⟩
variable {fl : List D → Option (List D)}
theorem ff_callB (hc : CallR X (.builtin id) (rDLF X.K fl)) (hg : Gl X x) (hm : X.mg x = none) (hv : bootBuiltins x = some (.builtin id)) (ha : FA X (e :: es) ms) (hn : x ≠ "__name__" := by decide) (hdb : (x == ("__debug__" : Str)) = false := by decide)
    (he : starEach (e :: es) X.env = (false, eval e X.env) :: starEach es X.env := by rfl) (hpl : (backTo pos (starEach es X.env)).any (·.1) = false := by rfl) : FF X (.Call (.Name x p) (e :: es) [] pos) (fun env => (ms env).bind fl) := ⟨pe_mono (pe_callB hc hg hm hv ha.pa hn hdb he hpl) fun σ H Q ⟨F, env, ds, hE, hm, q⟩ => by
  obtain ⟨xs, h1, h2⟩ := bind1 hm
  exact ⟨F, env, xs, hE, h1, fun vs H1 F1 e1 r1 => ⟨F1, xs, ds, e1.fd hE.fd, r1, h2, fun p ws H' F' e' np nf hp r' => q p ws H' F' (e1.trans e') (e1.same.free np) nf hp r'⟩⟩⟩
theorem ff_callTy (hc : CallR X (.type T) (rDLF X.K fl)) (hg : Gl X x) (hm : X.mg x = none) (hv : bootBuiltins x = some (.type T)) (ha : FA X (e :: es) ms) (hn : x ≠ "__name__" := by decide) (hdb : (x == ("__debug__" : Str)) = false := by decide)
    (he : starEach (e :: es) X.env = (false, eval e X.env) :: starEach es X.env := by rfl) (hpl : (backTo pos (starEach es X.env)).any (·.1) = false := by rfl) : FF X (.Call (.Name x p) (e :: es) [] pos) (fun env => (ms env).bind fl) := ⟨pe_mono (pe_callTy hc hg hm hv ha.pa hn hdb he hpl) fun σ H Q ⟨F, env, ds, hE, hm, q⟩ => by
  obtain ⟨xs, h1, h2⟩ := bind1 hm
  exact ⟨F, env, xs, hE, h1, fun vs H1 F1 e1 r1 => ⟨F1, xs, ds, e1.fd hE.fd, r1, h2, fun p ws H' F' e' np nf hp r' => q p ws H' F' (e1.trans e') (e1.same.free np) nf hp r'⟩⟩⟩
end
def lenD : D → Option D
  | .tuple ds => some (.int ds.length)
  | .list ds => some (.int ds.length)
  | .str z => if z.length ≤ 16777216 then some (.int z.length) else none
  | _ => none
theorem cd_len : CallR X (.builtin "len") (rDL X.K (on1 lenD)) := CallR.imp call_len fun xs H Q h => by
  obtain ⟨F, dx, d, rx, hd, q⟩ := h
  obtain ⟨x, rfl, he⟩ := on1_some hd
  obtain ⟨v, rfl, r⟩ := rx.one_inv
  unfold lenD at he
  split at he
  · obtain ⟨a, ys, rfl, h1, r1⟩ := r.tup_inv
    cases he
    exact ⟨_, ys.length, rfl, .inr ⟨ys, h1, rfl⟩, q _ _ _ (Ext.refl F H) (by rw [r1.length]; exact .int _)⟩
  · obtain ⟨a, ys, rfl, _, h1, r1⟩ := r.lst_inv
    cases he
    exact ⟨_, ys.length, rfl, .inl ⟨ys, .inl (.inl h1), rfl⟩, q _ _ _ (Ext.refl F H) (by rw [r1.length]; exact .int _)⟩
  · obtain rfl := r.str_inv
    have hs := sizeLine_eq
    split at he
    · rename_i z hz
      cases he
      exact ⟨_, z.length, rfl, ⟨by omega, rfl⟩, q _ _ _ (Ext.refl F H) (.int _)⟩
    · cases he
  · cases he
def intD : D → Option D
  | .int i => some (.int i)
  | .bool b => some (.int (if b then 1 else 0))
  | _ => none
theorem cd_int : CallR X (.type "int") (rDL X.K (on1 intD)) := CallR.imp call_int1 fun xs H Q h => by
  obtain ⟨F, dx, d, rx, hd, q⟩ := h
  obtain ⟨x, rfl, he⟩ := on1_some hd
  obtain ⟨v, rfl, r⟩ := rx.one_inv
  unfold intD at he
  split at he
  · obtain rfl := r.int_inv
    cases he
    exact .inl ⟨_, rfl, q _ _ _ (Ext.refl F H) (.int _)⟩
  · obtain rfl := r.bl_inv
    cases he
    exact .inr ⟨_, rfl, q _ _ _ (Ext.refl F H) (.int _)⟩
  · cases he
def tupleD : D → Option D
  | .list ds => some (.tuple ds)
  | .tuple ds => some (.tuple ds)
  | _ => none
theorem cd_tuple : CallR X (.type "tuple") (rDL X.K (on1 tupleD)) := CallR.imp call_tuple_of fun xs H Q h => by
  obtain ⟨F, dx, d, rx, hd, q⟩ := h
  obtain ⟨x, rfl, he⟩ := on1_some hd
  obtain ⟨v, rfl, r⟩ := rx.one_inv
  unfold tupleD at he
  split at he
  · obtain ⟨a, ys, rfl, _, h1, r1⟩ := r.lst_inv
    cases he
    exact ⟨a, ys, rfl, .inl ⟨.inl (.inl h1), fun l hl => q _ _ _ (Ext.upd hl) (.tup (.inl (.inl upd_same)) ((Ext.upd hl).rvl r1))⟩⟩
  · cases he
    obtain ⟨a, ys, rfl, h1, r1⟩ := r.tup_inv
    exact ⟨a, ys, rfl, .inr ⟨h1, q _ _ _ (Ext.refl F H) r⟩⟩
  · cases he
def on1L {α : Type} (f : D → Option α) : List D → Option α
  | [x] => f x
  | _ => none
theorem on1L_some {α : Type} {f : D → Option α} {xs : List D} {d : α} (h : on1L f xs = some d) : ∃ x, xs = [x] ∧ f x = some d := by
  unfold on1L at h
  split at h
  · exact ⟨_, rfl, h⟩
  · cases h
theorem cd_list : CallR X (.type "list") (rDLF X.K (on1L seqD)) := CallR.imp call_list_of fun xs H Q h => by
  obtain ⟨F, dx, d, fd, rx, hd, q⟩ := h
  obtain ⟨x, rfl, he⟩ := on1L_some hd
  obtain ⟨v, rfl, r⟩ := rx.one_inv
  have fin : ∀ a ys, (SqL X.K H a ys ∨ SqT X.K H a ys) → RvL X.K F H ys d → ∃ p zs, [V.ref a] = [V.ref p] ∧ (SqL X.K H p zs ∨ SqT X.K H p zs) ∧ ∀ l, H l = none → Q (.ref l) (upd H l (.lst zs)) := fun a ys h1 r1 =>
    ⟨a, ys, rfl, h1, fun l hl => q l ys _ F (Ext.upd hl) hl (fun f => fd l f hl) upd_same ((Ext.upd hl).rvl r1)⟩
  unfold seqD at he
  split at he
  · obtain ⟨a, ys, rfl, h1, r1⟩ := r.tup_inv
    cases he
    exact fin a ys (.inr h1) r1
  · obtain ⟨a, ys, rfl, _, h1, r1⟩ := r.lst_inv
    cases he
    exact fin a ys (.inl (.inl (.inl h1))) r1
  · cases he
end
end FL

set_option Elab.async false
set_option linter.all false
set_option maxRecDepth 100000
/-! FLc: statements (FS), blocks, loops, defs. -/
namespace FL
open PySem PySem.Spec PyProof.Rows L2

inductive Fl where
  | nx | rt (d : D) | bk | ct
abbrev SM := Env' → Option (Fl × Env')

/-- what an owned object holds -/
def OwnAt (K : PySem.W.Frag) (F : AP') (H : Hp) (a : Addr) : D → Prop
  | .list ds => ∃ vs, H a = some (.lst vs) ∧ RvL K F H vs ds
  | _ => False
structure Rp (K : PySem.W.Frag) (H0 : Hp) (F0 F : AP') (O : List Nat) (H : Hp) (env : Env') (σ : L2.St) : Prop where
  ext : Ext F0 H0 F H
  fd : Fd F0 H0
  len : env.length = σ.length
  val : ∀ i d, env[i]? = some (some d) → i ∉ O → ∃ v, σ[i]? = some (some v) ∧ Rv K F H v d
  own : ∀ i d, env[i]? = some (some d) → i ∈ O → ∃ a, σ[i]? = some (some (.ref a)) ∧ ¬ F a ∧ H0 a = none ∧ OwnAt K F H a d
  sep : ∀ i j d e a, i ∈ O → j ∈ O → i ≠ j → env[i]? = some (some d) → env[j]? = some (some e) → σ[i]? = some (some (.ref a)) → σ[j]? ≠ some (some (.ref a))

section
variable {K : PySem.W.Frag} {H0 H H' : Hp} {F0 F F' : AP'} {O : List Nat} {env : Env'} {σ : L2.St}
theorem OwnAt.some {a : Addr} {d : D} (h : OwnAt K F H a d) : H a ≠ none := by
  cases d with
  | list ds =>
    obtain ⟨vs, h, _⟩ := h
    rw [h]
    exact fun z => nomatch z
  | _ => exact h.elim
theorem OwnAt.stay {a : Addr} {d : D} (h : OwnAt K F H a d) (s : Stay F H H') (hf : ∀ a, F a → F' a) (ha : H' a = H a) : OwnAt K F' H' a d := by
  cases d with
  | list ds =>
    obtain ⟨vs, h, r⟩ := h
    exact ⟨vs, by rw [ha]; exact h, RvL.stay s hf r⟩
  | _ => exact h.elim
theorem same_at (h : Same H H') {a : Addr} (n : H a ≠ none) : H' a = H a := by
  cases q : H a with
  | none => exact absurd q n
  | some o => exact h a o q
/-- all slots may be read: the owned ones too -/
def Fo (F : AP') (O : List Nat) (env : Env') (σ : L2.St) : AP' := fun a => F a ∨ ∃ i d, i ∈ O ∧ env[i]? = some (some d) ∧ σ[i]? = some (some (.ref a))
theorem Rp.fo (r : Rp K H0 F0 F O H env σ) : Ext F0 H0 (Fo F O env σ) H := ⟨r.ext.same, fun a f => .inl (r.ext.up a f), fun a f => by
  rcases f with f | ⟨i, d, hi, he, hs⟩
  · exact r.ext.new a f
  · obtain ⟨b, h1, _, h3, h4⟩ := r.own i d he hi
    rw [hs] at h1
    cases h1
    exact .inr ⟨h3, h4.some⟩⟩
theorem Rp.all (r : Rp K H0 F0 F O H env σ) : EnvR K (Fo F O env σ) H env σ := ⟨r.fo.fd r.fd, r.len, fun i d h => by
  by_cases hi : i ∈ O
  · obtain ⟨a, h1, h2, h3, h4⟩ := r.own i d h hi
    refine ⟨.ref a, h1, ?_⟩
    cases d with
    | list ds =>
      obtain ⟨vs, h5, h6⟩ := h4
      exact .lst (.inr ⟨i, _, hi, h, h1⟩) h5 (h6.up fun a f => .inl f)
    | _ => exact h4.elim
  · obtain ⟨v, h1, h2⟩ := r.val i d h hi
    exact ⟨v, h1, h2.up fun a f => .inl f⟩⟩
/-- the owned slots left out -/
def maskE (O : List Nat) (env : Env') : Env' := env.mapIdx fun i o => if O.contains i then none else o
theorem mask_at {i : Nat} {d : D} (h : (maskE O env)[i]? = some (some d)) : env[i]? = some (some d) ∧ i ∉ O := by
  unfold maskE at h
  rw [List.getElem?_mapIdx] at h
  cases q : env[i]? with
  | none => rw [q] at h; cases h
  | some o =>
    rw [q] at h
    simp only [Option.map_some, Option.some.injEq] at h
    split at h
    · cases h
    · rename_i hn
      exact ⟨by rw [h], by simpa using hn⟩
theorem Rp.masked (r : Rp K H0 F0 F O H env σ) : EnvR K F H (maskE O env) σ := ⟨r.ext.fd r.fd, by simp [maskE, r.len], fun i d h => by
  obtain ⟨h1, h2⟩ := mask_at h
  exact r.val i d h1 h2⟩
/-- behind a pure step: all stays -/
theorem Rp.step (r : Rp K H0 F0 F O H env σ) (e : Same H H') : Rp K H0 F0 F O H' env σ := ⟨⟨r.ext.same.trans e, r.ext.up, fun a f => by
    rcases r.ext.new a f with h | h
    · exact .inl h
    · exact .inr ⟨h.1, fun z => h.2 (e.free z)⟩⟩, r.fd, r.len, fun i d h hi => by
    obtain ⟨v, h1, h2⟩ := r.val i d h hi
    exact ⟨v, h1, Rv.stay (.of_same e) (fun _ f => f) h2⟩, fun i d h hi => by
    obtain ⟨a, h1, h2, h3, h4⟩ := r.own i d h hi
    exact ⟨a, h1, h2, h3, h4.stay (.of_same e) (fun _ f => f) (same_at e h4.some)⟩, r.sep⟩
/-- .. and what is new may be frozen -/
theorem Rp.stepF (r : Rp K H0 F0 F O H env σ) (e : Ext F H F' H') : Rp K H0 F0 F' O H' env σ := ⟨r.ext.trans e, r.fd, r.len, fun i d h hi => by
    obtain ⟨v, h1, h2⟩ := r.val i d h hi
    exact ⟨v, h1, e.rv h2⟩, fun i d h hi => by
    obtain ⟨a, h1, h2, h3, h4⟩ := r.own i d h hi
    refine ⟨a, h1, fun f => ?_, h3, h4.stay e.stay e.up (same_at e.same h4.some)⟩
    rcases e.new a f with z | z
    · exact h2 z
    · exact h4.some z.1, r.sep⟩
/-! no lists within -/
mutual
def noL : D → Bool
  | .list _ => false
  | .dict _ => false
  | .tuple ds => noLs ds
  | _ => true
def noLs : List D → Bool
  | [] => true
  | d :: r => noL d && noLs r
end
mutual
theorem Rv.noL {v : V} {d : D} (r : Rv K F H v d) : noL d = true → Rv K F' H v d := fun h => match r with
  | .non => .non
  | .bl b => .bl b
  | .int i => .int i
  | .str x => .str x
  | .tup s q => .tup s (RvL.noL q (by simpa [FL.noL] using h))
  | .lst _ _ _ => nomatch h
  | .hnd _ => nomatch h
theorem RvL.noL {vs : List V} {ds : List D} (r : RvL K F H vs ds) : noLs ds = true → RvL K F' H vs ds := fun h => match r with
  | .nil => .nil
  | .cons a b => by
    simp only [noLs, Bool.and_eq_true] at h
    exact .cons (Rv.noL a h.1) (RvL.noL b h.2)
end
/-- a value goes to a slot that owns nothing then -/
theorem Rp.setV (r : Rp K H0 F0 F O H env σ) {i : Nat} {v : V} {d : D} (h : Rv K F H v d) : Rp K H0 F0 F (O.filter (· != i)) H (env.set i (some d)) (σ.set i (some v)) := by
  have hl := r.len
  have get : ∀ j e, (env.set i (some d))[j]? = some (some e) → (j = i ∧ e = d ∧ (σ.set i (some v))[j]? = some (some v)) ∨ (j ≠ i ∧ env[j]? = some (some e) ∧ (σ.set i (some v))[j]? = σ[j]?) := fun j e he => by
    by_cases hj : i = j
    · subst hj
      by_cases hi : i < env.length
      · rw [List.getElem?_set_self hi] at he
        cases he
        exact .inl ⟨rfl, rfl, List.getElem?_set_self (by omega)⟩
      · rw [List.getElem?_eq_none (by simp; omega)] at he
        cases he
    · rw [List.getElem?_set_ne hj] at he
      exact .inr ⟨fun z => hj z.symm, he, List.getElem?_set_ne hj⟩
  refine ⟨r.ext, r.fd, by simp [hl], fun j e he hj => ?_, fun j e he hj => ?_, fun j k e f a hj hk ne he hf ha => ?_⟩
  · rcases get j e he with ⟨rfl, rfl, h1⟩ | ⟨h1, h2, h3⟩
    · exact ⟨v, h1, h⟩
    · rw [h3]
      exact r.val j e h2 fun z => hj (List.mem_filter.mpr ⟨z, by simpa using h1⟩)
  · obtain ⟨hj, hne⟩ := List.mem_filter.mp hj
    rcases get j e he with ⟨rfl, rfl, h1⟩ | ⟨h1, h2, h3⟩
    · simp at hne
    · rw [h3]
      exact r.own j e h2 hj
  · obtain ⟨hj, hne⟩ := List.mem_filter.mp hj
    obtain ⟨hk, hnk⟩ := List.mem_filter.mp hk
    rcases get j e he with ⟨rfl, rfl, h1⟩ | ⟨h1, h2, h3⟩
    · simp at hne
    · rcases get k f hf with ⟨rfl, rfl, h4⟩ | ⟨h4, h5, h6⟩
      · simp at hnk
      · rw [h3] at ha
        rw [h6]
        exact r.sep j k e f a hj hk ne h2 h5 ha
/-- a new object goes to a slot that owns it -/
theorem Rp.setN (r' : Rp K H0 F0 F O H' env σ) {i : Nat} {p : Addr} {d : D} (h0 : H0 p = none) (nf : ¬ F p) (ap : ∀ k y, env[k]? = some (some y) → k ∈ O → σ[k]? ≠ some (some (.ref p))) (h : OwnAt K F H' p d) : Rp K H0 F0 F (i :: O.filter (· != i)) H' (env.set i (some d)) (σ.set i (some (.ref p))) := by
  have hl := r'.len
  have get : ∀ j x, (env.set i (some d))[j]? = some (some x) → (j = i ∧ x = d ∧ (σ.set i (some (.ref p)))[j]? = some (some (.ref p))) ∨ (j ≠ i ∧ env[j]? = some (some x) ∧ (σ.set i (some (.ref p)))[j]? = σ[j]?) := fun j x he => by
    by_cases hj : i = j
    · subst hj
      by_cases hi : i < env.length
      · rw [List.getElem?_set_self hi] at he
        cases he
        exact .inl ⟨rfl, rfl, List.getElem?_set_self (by omega)⟩
      · rw [List.getElem?_eq_none (by simp; omega)] at he
        cases he
    · rw [List.getElem?_set_ne hj] at he
      exact .inr ⟨fun z => hj z.symm, he, List.getElem?_set_ne hj⟩
  have hm : ∀ j, j ≠ i → j ∈ i :: O.filter (· != i) → j ∈ O := fun j ne hj => by
    rcases List.mem_cons.mp hj with z | z
    · exact absurd z ne
    · exact (List.mem_filter.mp z).1
  refine ⟨r'.ext, r'.fd, by simp [hl], fun j x he hj => ?_, fun j x he hj => ?_, fun j k x y a hj hk ne he hf ha => ?_⟩
  · rcases get j x he with ⟨rfl, rfl, h1⟩ | ⟨h1, h2, h3⟩
    · exact absurd List.mem_cons_self hj
    · rw [h3]
      exact r'.val j x h2 fun z => hj (List.mem_cons_of_mem _ (List.mem_filter.mpr ⟨z, by simpa using h1⟩))
  · rcases get j x he with ⟨rfl, rfl, h1⟩ | ⟨h1, h2, h3⟩
    · exact ⟨p, h1, nf, h0, h⟩
    · rw [h3]
      exact r'.own j x h2 (hm j h1 hj)
  · rcases get j x he with ⟨rfl, rfl, h1⟩ | ⟨h1, h2, h3⟩
    · rcases get k y hf with ⟨rfl, rfl, h4⟩ | ⟨h4, h5, h6⟩
      · exact absurd rfl ne
      · rw [h1] at ha
        cases ha
        rw [h6]
        exact ap k y h5 (hm k h4 hk)
    · rcases get k y hf with ⟨rfl, rfl, h4⟩ | ⟨h4, h5, h6⟩
      · rw [h3] at ha
        rw [h4]
        intro z
        cases z
        exact ap j x h2 (hm j h1 hj) ha
      · rw [h3] at ha
        rw [h6]
        exact r'.sep j k x y a (hm j h1 hj) (hm k h4 hk) ne h2 h5 ha
theorem Rp.apart (r : Rp K H0 F0 F O H env σ) {p : Addr} (hn : H p = none) : ∀ k y, env[k]? = some (some y) → k ∈ O → σ[k]? ≠ some (some (.ref p)) := fun k y h1 h2 h3 => by
  obtain ⟨b, b1, _, _, b4⟩ := r.own k y h1 h2
  rw [h3] at b1
  cases b1
  exact b4.some hn
theorem Rp.setO (r : Rp K H0 F0 F O H env σ) {i : Nat} {p : Addr} {d : D} (hn : H p = none) (nf : ¬ F p) (e : Same H H') (h : OwnAt K F H' p d) : Rp K H0 F0 F (i :: O.filter (· != i)) H' (env.set i (some d)) (σ.set i (some (.ref p))) :=
  (r.step e).setN (r.ext.same.free hn) nf (r.apart hn) h
/-- an owned object changes -/
theorem Rp.mut (r : Rp K H0 F0 F O H env σ) {i : Nat} {a : Addr} {d d' : D} {o : HO} (hi : i ∈ O) (he : env[i]? = some (some d)) (hs : σ[i]? = some (some (.ref a))) (nt : ∀ xs, H a ≠ some (.tup xs)) (nz : ∀ x u, H a ≠ some (.frz x u)) (h : ∀ H', Stay F H H' → H' a = some o → OwnAt K F H' a d') :
    Rp K H0 F0 F O (upd H a o) (env.set i (some d')) σ := by
  obtain ⟨b, b1, b2, b3, b4⟩ := r.own i d he hi
  rw [hs] at b1
  cases b1
  have hl := r.len
  have st : Stay F H (upd H a o) := ⟨fun c u f e => by
      rw [upd_ne (fun z => by subst z; exact b2 f)]
      exact e, fun c xs e => by
      rw [upd_ne (fun z => by subst z; exact nt xs e)]
      exact e, fun c x u e => by
      rw [upd_ne (fun z => by subst z; exact nz x u e)]
      exact e⟩
  have hil : i < env.length := (List.getElem?_eq_some_iff.mp he).1
  have get : ∀ j e, (env.set i (some d'))[j]? = some (some e) → (j = i ∧ e = d') ∨ (j ≠ i ∧ env[j]? = some (some e)) := fun j e h' => by
    by_cases hj : i = j
    · subst hj
      rw [List.getElem?_set_self hil] at h'
      cases h'
      exact .inl ⟨rfl, rfl⟩
    · rw [List.getElem?_set_ne hj] at h'
      exact .inr ⟨fun z => hj z.symm, h'⟩
  refine ⟨⟨fun c u e => ?_, r.ext.up, fun c f => ?_⟩, r.fd, by simp [hl], fun j e h' hj => ?_, fun j e h' hj => ?_, fun j k x y c hj hk ne h1 h2 h3 => ?_⟩
  · rw [upd_ne (fun z => by subst z; rw [b3] at e; cases e)]
    exact r.ext.same c u e
  · rcases r.ext.new c f with z | z
    · exact .inl z
    · refine .inr ⟨z.1, ?_⟩
      rw [upd_ne (fun y => by subst y; exact b2 f)]
      exact z.2
  · rcases get j e h' with ⟨rfl, rfl⟩ | ⟨h1, h2⟩
    · exact absurd hi hj
    · obtain ⟨v, h3, h4⟩ := r.val j e h2 hj
      exact ⟨v, h3, Rv.stay st (fun _ f => f) h4⟩
  · rcases get j e h' with ⟨rfl, rfl⟩ | ⟨h1, h2⟩
    · exact ⟨a, hs, b2, b3, h _ st upd_same⟩
    · obtain ⟨c, c1, c2, c3, c4⟩ := r.own j e h2 hj
      have : c ≠ a := fun z => by
        subst z
        exact r.sep j i e d c hj hi h1 h2 he c1 hs
      exact ⟨c, c1, c2, c3, c4.stay st (fun _ f => f) (upd_ne this)⟩
  · rcases get j x h1 with ⟨rfl, rfl⟩ | ⟨g1, g2⟩
    · rcases get k y h2 with ⟨rfl, rfl⟩ | ⟨g3, g4⟩
      · exact absurd rfl ne
      · exact r.sep j k d y c hj hk ne he g4 h3
    · rcases get k y h2 with ⟨rfl, rfl⟩ | ⟨g3, g4⟩
      · exact r.sep j k x d c hj hk ne g2 he h3
      · exact r.sep j k x y c hj hk ne g2 g4 h3
/-- an owned slot is frozen -/
theorem Rp.frz (r : Rp K H0 F0 F O H env σ) (i : Nat) : ∃ F', Rp K H0 F0 F' (O.filter (· != i)) H env σ := by
  by_cases hx : ∃ d, i ∈ O ∧ env[i]? = some (some d)
  · obtain ⟨d, hi, he⟩ := hx
    obtain ⟨a, b1, b2, b3, b4⟩ := r.own i d he hi
    refine ⟨Fz F a, ⟨⟨r.ext.same, fun c f => .inl (r.ext.up c f), fun c f => ?_⟩, r.fd, r.len, fun j e h hj => ?_, fun j e h hj => ?_, fun j k x y c hj hk => r.sep j k x y c (List.mem_filter.mp hj).1 (List.mem_filter.mp hk).1⟩⟩
    · rcases f with f | rfl
      · exact r.ext.new c f
      · exact .inr ⟨b3, b4.some⟩
    · by_cases hji : j = i
      · subst hji
        rw [he] at h
        cases h
        refine ⟨.ref a, b1, ?_⟩
        cases d with
        | list ds =>
          obtain ⟨vs, h5, h6⟩ := b4
          exact .lst Fz.at h5 (h6.up Fz.sub)
        | _ => exact b4.elim
      · obtain ⟨v, h1, h2⟩ := r.val j e h fun z => hj (List.mem_filter.mpr ⟨z, by simpa using hji⟩)
        exact ⟨v, h1, h2.up Fz.sub⟩
    · obtain ⟨hj, hne⟩ := List.mem_filter.mp hj
      obtain ⟨c, c1, c2, c3, c4⟩ := r.own j e h hj
      have hji : j ≠ i := by simpa using hne
      have hca : c ≠ a := fun z => by
        subst z
        exact r.sep j i e d c hj hi hji h he c1 b1
      exact ⟨c, c1, fun f => f.elim c2 hca, c3, c4.stay Stay.refl Fz.sub rfl⟩
  · refine ⟨F, ⟨r.ext, r.fd, r.len, fun j e h hj => ?_, fun j e h hj => r.own j e h (List.mem_filter.mp hj).1, fun j k x y c hj hk => r.sep j k x y c (List.mem_filter.mp hj).1 (List.mem_filter.mp hk).1⟩⟩
    refine r.val j e h fun z => ?_
    by_cases hji : j = i
    · subst hji
      exact hx ⟨e, z, h⟩
    · exact hj (List.mem_filter.mpr ⟨z, by simpa using hji⟩)
/-- an owned slot gives what it owns to another slot -/
theorem Rp.move (r : Rp K H0 F0 F O H env σ) {i j : Nat} {d : D} {v : V} (hj : j ∈ O) (he : env[j]? = some (some d)) (hs : σ[j]? = some (some v)) (hij : i ≠ j) (hil : i < env.length) :
    Rp K H0 F0 F (i :: O.filter (fun x => x != i && x != j)) H ((env.set i (some d)).set j none) (σ.set i (some v)) := by
  obtain ⟨a, b1, b2, b3, b4⟩ := r.own j d he hj
  rw [hs] at b1
  cases b1
  have hl := r.len
  have get : ∀ k e, ((env.set i (some d)).set j none)[k]? = some (some e) → (k = i ∧ e = d ∧ (σ.set i (some (.ref a)))[k]? = some (some (.ref a))) ∨ (k ≠ i ∧ k ≠ j ∧ env[k]? = some (some e) ∧ (σ.set i (some (.ref a)))[k]? = σ[k]?) := fun k e h => by
    by_cases hk : j = k
    · subst hk
      rw [List.getElem?_set_self (by simpa using (List.getElem?_eq_some_iff.mp he).1)] at h
      cases h
    · rw [List.getElem?_set_ne hk] at h
      by_cases hk2 : i = k
      · subst hk2
        rw [List.getElem?_set_self hil] at h
        cases h
        exact .inl ⟨rfl, rfl, List.getElem?_set_self (by omega)⟩
      · rw [List.getElem?_set_ne hk2] at h
        exact .inr ⟨fun z => hk2 z.symm, fun z => hk z.symm, h, List.getElem?_set_ne hk2⟩
  have hm : ∀ k, k ≠ i → k ∈ i :: O.filter (fun x => x != i && x != j) → k ∈ O := fun k ne hk => by
    rcases List.mem_cons.mp hk with z | z
    · exact absurd z ne
    · exact (List.mem_filter.mp z).1
  refine ⟨r.ext, r.fd, by simp [hl], fun k e h hk => ?_, fun k e h hk => ?_, fun k l x y c hk hl' ne h1 h2 h3 => ?_⟩
  · rcases get k e h with ⟨rfl, rfl, h1⟩ | ⟨h1, h2, h3, h4⟩
    · exact absurd List.mem_cons_self hk
    · rw [h4]
      exact r.val k e h3 fun z => hk (List.mem_cons_of_mem _ (List.mem_filter.mpr ⟨z, by simp [h1, h2]⟩))
  · rcases get k e h with ⟨rfl, rfl, h1⟩ | ⟨h1, h2, h3, h4⟩
    · exact ⟨a, h1, b2, b3, b4⟩
    · rw [h4]
      exact r.own k e h3 (hm k h1 hk)
  · rcases get k x h1 with ⟨rfl, rfl, g1⟩ | ⟨g1, g2, g3, g4⟩
    · rcases get l y h2 with ⟨rfl, rfl, _⟩ | ⟨g5, g6, g7, g8⟩
      · exact absurd rfl ne
      · rw [g1] at h3
        cases h3
        rw [g8]
        intro z
        exact r.sep l j y _ a (hm l g5 hl') hj g6 g7 he z hs
    · rcases get l y h2 with ⟨rfl, rfl, g5⟩ | ⟨g5, g6, g7, g8⟩
      · rw [g4] at h3
        rw [g5]
        intro z
        cases z
        exact r.sep k j x _ a (hm k g1 hk) hj g2 g3 he h3 hs
      · rw [g4] at h3
        rw [g8]
        exact r.sep k l x y c (hm k g1 hk) (hm l g5 hl') ne g3 g7 h3
end

/-! ### the judgement of statements -/
def EndOk (K : PySem.W.Frag) (H0 : Hp) (F0 : AP') (O' Ol : List Nat) (D' : Ends) : Fl → Env' → Prop
  | .nx, env' => ∀ σ' H' F', Rp K H0 F0 F' O' H' env' σ' → D'.nx σ' H'
  | .rt d, _ => ∀ v H' F', Ext F0 H0 F' H' → Rv K F' H' v d → D'.rt v H'
  | .bk, env' => ∀ σ' H' F', Rp K H0 F0 F' Ol H' env' σ' → D'.bk σ' H'
  | .ct, env' => ∀ σ' H' F', Rp K H0 F0 F' Ol H' env' σ' → D'.ct σ' H'
def tSM (K : PySem.W.Frag) (O O' Ol : List Nat) (m : SM) : TS := fun D' σ H => ∃ H0 F0 F env f env', Rp K H0 F0 F O H env σ ∧ m env = some (f, env') ∧ EndOk K H0 F0 O' Ol D' f env'
structure FS (X : Cx) (O O' Ol : List Nat) (st : Stmt) (m : SM) : Prop where
  ps : PS X st (tSM X.K O O' Ol m)
structure FB (X : Cx) (O O' Ol : List Nat) (sts : List Stmt) (m : SM) : Prop where
  pss : PSs X sts (tSM X.K O O' Ol m)

/-! ### the words of the mirror: statements -/
def sSkip : SM := fun env => some (.nx, env)
def sSeq (a b : SM) : SM := fun env => (a env).bind fun r => match r with
  | (.nx, env') => b env'
  | r => some r
def sBad : SM := fun _ => none
/-- x = e, the value holds no list -/
def sSet (i : Nat) (m : Env' → Option D) : SM := fun env => (m env).bind fun d => if noL d = true then some (.nx, env.set i (some d)) else none
/-- x = e, e reads no owned slot -/
def sSetV (O : List Nat) (i : Nat) (m : Env' → Option D) : SM := fun env => (m (maskE O env)).map fun d => (.nx, env.set i (some d))
/-- x = a new list of things without lists -/
def sOwn (i : Nat) (m : Env' → Option (List D)) : SM := fun env => (m env).bind fun ds => if noLs ds = true then some (.nx, env.set i (some (.list ds))) else none
def sOwnV (O : List Nat) (i : Nat) (m : Env' → Option (List D)) : SM := fun env => (m (maskE O env)).map fun ds => (.nx, env.set i (some (.list ds)))
def sMove (i j : Nat) : SM := fun env => if i < env.length then ((env[j]?).bind id).map fun d => (.nx, (env.set i (some d)).set j none) else none
def sRet (m : Env' → Option D) : SM := fun env => (m env).map fun d => (.rt d, env)
def sIf (c : Env' → Option Bool) (a b : SM) : SM := fun env => (c env).bind fun k => match k with
  | true => a env
  | false => b env
def sBrk : SM := fun env => some (.bk, env)
def sCnt : SM := fun env => some (.ct, env)

section
variable {X : Cx} {O O' O1 Ol : List Nat} {st : Stmt} {rest sts : List Stmt} {m n : SM} {e : Expr} {me : Env' → Option D} {mt : Env' → Option Bool} {pos : Pos}

theorem fb_nil : FB X O O Ol [] sSkip := ⟨pss_mono pss_nil fun D' σ H ⟨H0, F0, F, env, f, env', r, hm, q⟩ => by
  cases hm
  exact q σ H F r⟩
theorem fb_cons (h1 : FS X O O1 Ol st m) (h2 : FB X O1 O' Ol rest n) : FB X O O' Ol (st :: rest) (sSeq m n) := ⟨pss_mono (pss_cons h1.ps h2.pss) fun D' σ H ⟨H0, F0, F, env, f, env', r, hm, q⟩ => by
  obtain ⟨⟨f1, env1⟩, h3, h4⟩ := bind1 hm
  refine ⟨H0, F0, F, env, f1, env1, r, h3, ?_⟩
  cases f1 with
  | nx => exact fun σ1 H1 F1 r1 => ⟨H0, F0, F1, env1, f, env', r1, h4, q⟩
  | rt d => cases h4; exact q
  | bk => cases h4; exact q
  | ct => cases h4; exact q⟩
theorem fb_one (h1 : FS X O O' Ol st m) : FB X O O' Ol [st] m := ⟨pss_one h1.ps⟩
/-- code that is not run -/
theorem fs_bad : FS X O O' Ol st sBad := ⟨pss_never' ps_never⟩
where pss_never' (h : PS X st tNever) : PS X st (tSM X.K O O' Ol sBad) := ps_mono h fun D' σ H ⟨H0, F0, F, env, f, env', r, hm, q⟩ => nomatch hm
theorem fb_bad : FB X O O' Ol sts sBad := ⟨pss_mono pss_never fun D' σ H ⟨H0, F0, F, env, f, env', r, hm, q⟩ => nomatch hm⟩
theorem fs_pass : FS X O O Ol (.Pass pos) sSkip := ⟨ps_mono ps_pass fun D' σ H ⟨H0, F0, F, env, f, env', r, hm, q⟩ => by
  cases hm
  exact q σ H F r⟩
theorem fs_doc {x j pos pos'} : FS X O O Ol (.Expr (.Constant (.str x) j pos) pos') sSkip := ⟨ps_mono ps_doc fun D' σ H ⟨H0, F0, F, env, f, env', r, hm, q⟩ => by
  cases hm
  exact q σ H F r⟩
theorem fs_brk : FS X O O' O (.Break pos) sBrk := ⟨ps_mono ps_break fun D' σ H ⟨H0, F0, F, env, f, env', r, hm, q⟩ => by
  cases hm
  exact q σ H F r⟩
theorem fs_cnt : FS X O O' O (.Continue pos) sCnt := ⟨ps_mono ps_continue fun D' σ H ⟨H0, F0, F, env, f, env', r, hm, q⟩ => by
  cases hm
  exact q σ H F r⟩
/-- an owned slot is frozen ahead of a statement -/
theorem fs_frz (i : Nat) (h : FS X (O.filter (· != i)) O' Ol st m) : FS X O O' Ol st m := ⟨ps_mono h.ps fun D' σ H ⟨H0, F0, F, env, f, env', r, hm, q⟩ => by
  obtain ⟨F', r'⟩ := r.frz i
  exact ⟨H0, F0, F', env, f, env', r', hm, q⟩⟩
/-- an owned slot is frozen behind a block -/
theorem fb_thaw (i : Nat) (h : FB X O O1 Ol sts m) : FB X O (O1.filter (· != i)) Ol sts m := ⟨pss_mono h.pss fun D' σ H ⟨H0, F0, F, env, f, env', r, hm, q⟩ => ⟨H0, F0, F, env, f, env', r, hm, by
  cases f with
  | nx =>
    exact fun σ' H' F' r' => by
      obtain ⟨F'', r''⟩ := r'.frz i
      exact q σ' H' F'' r''
  | rt d => exact q
  | bk => exact q
  | ct => exact q⟩⟩
theorem fs_ret (h : FE X e me) : FS X O O' Ol (.Return (some e) pos) (sRet me) := ⟨ps_mono (ps_ret h.pe) fun D' σ H ⟨H0, F0, F, env, f, env', r, hm, q⟩ => by
  obtain ⟨d, h1, h2⟩ := map1 hm
  cases h2
  exact ⟨_, env, d, r.all, h1, fun v H' F' e' r' => q v H' F' (r.fo.trans e') r'⟩⟩
theorem fs_retN : FS X O O' Ol (.Return none pos) (sRet (eC .none)) := ⟨ps_mono ps_retN fun D' σ H ⟨H0, F0, F, env, f, env', r, hm, q⟩ => by
  cases hm
  exact q .non H F r.ext .non⟩
theorem fs_if {c : Expr} {a b : List Stmt} (hc : FT X c mt) (ha : FB X O O' Ol a m) (hb : FB X O O' Ol b n) : FS X O O' Ol (.If c a b pos) (sIf mt m n) := ⟨ps_mono (ps_if hc.pt ha.pss hb.pss) fun D' σ H ⟨H0, F0, F, env, f, env', r, hm, q⟩ => by
  obtain ⟨k, h1, h2⟩ := bind1 hm
  refine ⟨_, env, k, r.all, h1, fun H1 F1 e1 => ?_⟩
  cases k with
  | true => exact iteT ⟨H0, F0, F, env, f, env', r.step e1.same, h2, q⟩
  | false => exact iteF ⟨H0, F0, F, env, f, env', r.step e1.same, h2, q⟩⟩
/-- what a PS of a store asks: the reading of its expression, then the slot -/
theorem fs_set' {i : Nat} (h : PS X st (tAsg (tP X.K me) (gName i))) (hO : O.filter (· != i) = O') : FS X O O' Ol st (sSet i me) := ⟨ps_mono h fun D' σ H ⟨H0, F0, F, env, f, env', r, hm, q⟩ => by
  obtain ⟨d, h1, h2⟩ := bind1 hm
  split at h2
  · rename_i hn
    cases h2
    subst hO
    exact ⟨_, env, d, r.all, h1, fun v H1 F1 e1 r1 => q _ _ _ ((r.step e1.same).setV (r1.noL hn))⟩
  · cases h2⟩
theorem fs_setV' {i : Nat} (h : PS X st (tAsg (tP X.K me) (gName i))) (hO : O.filter (· != i) = O') : FS X O O' Ol st (sSetV O i me) := ⟨ps_mono h fun D' σ H ⟨H0, F0, F, env, f, env', r, hm, q⟩ => by
  obtain ⟨d, h1, h2⟩ := map1 hm
  cases h2
  subst hO
  exact ⟨_, _, d, r.masked, h1, fun v H1 F1 e1 r1 => q _ _ _ ((r.stepF e1).setV r1)⟩⟩
variable {ml : Env' → Option (List D)}
theorem fs_own' {i : Nat} (h : PS X st (tAsg (tPF X.K ml) (gName i))) (hO : i :: O.filter (· != i) = O') : FS X O O' Ol st (sOwn i ml) := ⟨ps_mono h fun D' σ H ⟨H0, F0, F, env, f, env', r, hm, q⟩ => by
  obtain ⟨ds, h1, h2⟩ := bind1 hm
  split at h2
  · rename_i hn
    cases h2
    subst hO
    exact ⟨_, env, ds, r.all, h1, fun p vs H1 F1 e1 np nf hp r1 => q _ _ _ (r.setO np (fun f => nf (e1.up p (.inl f))) e1.same ⟨vs, hp, r1.noL hn⟩)⟩
  · cases h2⟩
theorem fs_ownV' {i : Nat} (h : PS X st (tAsg (tPF X.K ml) (gName i))) (hO : i :: O.filter (· != i) = O') : FS X O O' Ol st (sOwnV O i ml) := ⟨ps_mono h fun D' σ H ⟨H0, F0, F, env, f, env', r, hm, q⟩ => by
  obtain ⟨ds, h1, h2⟩ := map1 hm
  cases h2
  subst hO
  refine ⟨_, _, ds, r.masked, h1, fun p vs H1 F1 e1 np nf hp r1 => ?_⟩
  -- what is frozen now: all that was, and what the step made
  have r2 : Rp X.K H0 F0 F1 O H1 env σ := r.stepF e1
  exact q _ _ _ (r2.setN (r.ext.same.free np) nf (r.apart np) ⟨vs, hp, r1⟩)⟩
end
end FL

set_option Elab.async false
set_option linter.all false
set_option maxRecDepth 100000
/-! FLd: targets, iterables, for, comprehensions, while, defs and calls. -/
namespace FL
open PySem PySem.Spec PyProof.Rows L2

/-! ### targets -/
def setAll (env : Env') : List (Nat × D) → Env'
  | [] => env
  | (i, d) :: r => setAll (env.set i (some d)) r
inductive Sets (K : PySem.W.Frag) (F : AP') (H : Hp) : L2.St → List (Nat × D) → L2.St → Prop
  | nil {σ : L2.St} : Sets K F H σ [] σ
  | cons {σ σ' : L2.St} {i : Nat} {d : D} {v : V} {bs : List (Nat × D)} : Rv K F H v d → Sets K F H (σ.set i (some v)) bs σ' → Sets K F H σ ((i, d) :: bs) σ'
theorem Sets.append {K : PySem.W.Frag} {F : AP'} {H : Hp} {σ σ' σ'' : L2.St} {bs cs : List (Nat × D)} (a : Sets K F H σ bs σ') (b : Sets K F H σ' cs σ'') : Sets K F H σ (bs ++ cs) σ'' := by
  induction a with
  | nil => exact b
  | cons r _ ih => exact .cons r (ih b)
def tGD (K : PySem.W.Frag) (b : D → Option (List (Nat × D))) : TG := fun v σ H Q => ∃ F d bs, Rv K F H v d ∧ b d = some bs ∧ ∀ σ', Sets K F H σ bs σ' → Q σ' H
def tGDs (K : PySem.W.Frag) (b : List D → Option (List (Nat × D))) : TGs := fun vs σ H Q => ∃ F ds bs, RvL K F H vs ds ∧ b ds = some bs ∧ ∀ σ', Sets K F H σ bs σ' → Q σ' H
structure FG (X : Cx) (tg : Expr) (b : D → Option (List (Nat × D))) : Prop where
  pg : PG X tg (tGD X.K b)
structure FGs (X : Cx) (tg : List Expr) (b : List D → Option (List (Nat × D))) : Prop where
  pg : PGs X tg (tGDs X.K b)
theorem pg_mono {X : Cx} {e : Expr} {t t' : TG} (h : PG X e t) (i : ∀ v σ H Q, t' v σ H Q → t v σ H Q) : PG X e t' := ⟨fun pins s σ H v u Q I r q => h.run pins s σ H v u Q I r (i v σ H Q q)⟩
theorem pgs_mono {X : Cx} {e : List Expr} {t t' : TGs} (h : PGs X e t) (i : ∀ v σ H Q, t' v σ H Q → t v σ H Q) : PGs X e t' := ⟨fun pins s σ H v u Q I r q => h.run pins s σ H v u Q I r (i v σ H Q q)⟩
def gN (i : Nat) : D → Option (List (Nat × D)) := fun d => some [(i, d)]
def gsNil : List D → Option (List (Nat × D))
  | [] => some []
  | _ => none
def gsCons (a : D → Option (List (Nat × D))) (r : List D → Option (List (Nat × D))) : List D → Option (List (Nat × D))
  | d :: ds => (a d).bind fun x => (r ds).map fun y => x ++ y
  | [] => none
def gT (n : Nat) (r : List D → Option (List (Nat × D))) : D → Option (List (Nat × D))
  | .tuple ds => if ds.length = n then r ds else none
  | _ => none
section
variable {X : Cx} {pos : Pos}
theorem fg_name {i : Nat} {e : Expr} (h : PG X e (gName i)) : FG X e (gN i) := ⟨pg_mono h fun v σ H Q ⟨F, d, bs, r, hb, q⟩ => by
  cases hb
  exact q _ (.cons r .nil)⟩
theorem fgs_nil : FGs X [] gsNil := ⟨pgs_mono pgs_nil fun vs σ H Q ⟨F, ds, bs, r, hb, q⟩ => by
  unfold gsNil at hb
  split at hb
  · cases hb
    cases r
    exact ⟨rfl, q _ .nil⟩
  · cases hb⟩
theorem fgs_cons {e : Expr} {es : List Expr} {a : D → Option (List (Nat × D))} {b : List D → Option (List (Nat × D))} (h1 : FG X e a) (h2 : FGs X es b)
    (hs : (assignEach (e :: es) X.env).map (·.2) = assign e X.env :: (assignEach es X.env).map (·.2) := by rfl) : FGs X (e :: es) (gsCons a b) := ⟨pgs_mono (pgs_cons h1.pg h2.pg hs) fun vs σ H Q ⟨F, ds, bs, r, hb, q⟩ => by
  unfold gsCons at hb
  split at hb
  · obtain ⟨x, h3, h4⟩ := bind1 hb
    obtain ⟨y, h5, rfl⟩ := map1 h4
    obtain ⟨w, ws, rfl, r1, r2⟩ := r.cons_inv
    exact ⟨w, ws, rfl, F, _, x, r1, h3, fun σ1 s1 => ⟨F, _, y, r2, h5, fun σ2 s2 => q _ (s1.append s2)⟩⟩
  · cases hb⟩
theorem fg_tup {es : List Expr} {k : Nat} {n : Nat} {b : List D → Option (List (Nat × D))} (hc : X.calm = true) (h : FGs X es b)
    (hn : (assignEach es X.env).length = n := by rfl) (hst : (assignEach es X.env).findIdx? (·.1) = none := by rfl) : FG X (.Tuple es k pos) (gT n b) := ⟨pg_mono (pg_tup hc h.pg hn hst) fun v σ H Q ⟨F, d, bs, r, hb, q⟩ => by
  unfold gT at hb
  split at hb
  · rename_i ds
    split at hb
    · rename_i hl
      obtain ⟨a, xs, rfl, hs, rl⟩ := r.tup_inv
      exact ⟨a, xs, rfl, hs, by rw [rl.length, hl], F, ds, bs, rl, hb, q⟩
    · cases hb
  · cases hb⟩
end
section
variable {K : PySem.W.Frag} {H0 H H' : Hp} {F0 F F' : AP'} {O : List Nat} {env : Env'} {σ σ' : L2.St}
theorem Sets.envR {bs : List (Nat × D)} (s : Sets K F H σ bs σ') : ∀ {env : Env'}, EnvR K F H env σ → EnvR K F H (setAll env bs) σ' := by
  induction s with
  | nil => exact fun e => e
  | cons r _ ih => exact fun e => ih (e.set r)
theorem Sets.rp {bs : List (Nat × D)} (s : Sets K F H σ bs σ') : ∀ {env : Env'}, Rp K H0 F0 F O H env σ → (∀ b ∈ bs, b.1 ∉ O) → Rp K H0 F0 F O H (setAll env bs) σ' := by
  induction s with
  | nil => exact fun e _ => e
  | @cons σ σ' i d v bs r _ ih =>
    intro env e hb
    have h1 := e.setV (i := i) r
    have : O.filter (· != i) = O := List.filter_eq_self.mpr fun a ha => by
      have := hb (i, d) List.mem_cons_self
      simp only [bne_iff_ne, ne_eq]
      rintro rfl
      exact this ha
    rw [this] at h1
    exact ih h1 fun b h => hb b (List.mem_cons_of_mem _ h)
theorem wipe_in {σ : L2.St} {vs : List Nat} {j : Nat} (hj : j ∈ vs) : (wipe σ vs)[j]? = if j < σ.length then some none else none := by
  have l := wipe_length σ vs
  split
  · rw [List.getElem?_eq_getElem (by omega)]
    cases q : (wipe σ vs)[j]'(by omega) with
    | none => rfl
    | some v => exact absurd hj (wipe_some (show (wipe σ vs)[j]? = some (some v) by rw [List.getElem?_eq_getElem (by omega), q])).2
  · exact List.getElem?_eq_none (by omega)
theorem wipe_set {i : Nat} {x : Option V} {vs : List Nat} {σ : L2.St} (h : i ∈ vs) : wipe (σ.set i x) vs = wipe σ vs := by
  refine List.ext_getElem? fun j => ?_
  by_cases hj : j ∈ vs
  · rw [wipe_in hj, wipe_in hj, List.length_set]
  · rw [wipe_out hj, wipe_out hj, List.getElem?_set_ne]
    rintro rfl
    exact hj h
theorem wipe_wipe {vs : List Nat} {σ : L2.St} : wipe (wipe σ vs) vs = wipe σ vs := by
  refine List.ext_getElem? fun j => ?_
  by_cases hj : j ∈ vs
  · rw [wipe_in hj, wipe_in hj, wipe_length]
  · rw [wipe_out hj]
theorem Sets.wipe {bs : List (Nat × D)} {vs : List Nat} (s : Sets K F H σ bs σ') (hb : ∀ b ∈ bs, b.1 ∈ vs) : L2.wipe σ' vs = L2.wipe σ vs := by
  induction s with
  | nil => rfl
  | @cons σ σ' i d v bs r _ ih => rw [ih fun b h => hb b (List.mem_cons_of_mem _ h), wipe_set (hb _ List.mem_cons_self)]
end
/-- a comprehension's own names hold nothing -/
def wipeE (vs : List Nat) (env : Env') : Env' := maskE vs env
theorem EnvR.wipe {K : PySem.W.Frag} {F : AP'} {H : Hp} {env : Env'} {σ : L2.St} (e : EnvR K F H env σ) (vs : List Nat) : EnvR K F H (wipeE vs env) (L2.wipe σ vs) := ⟨e.fd, by rw [wipe_length]; simp [wipeE, maskE, e.len], fun i d h => by
  obtain ⟨h1, h2⟩ := mask_at h
  obtain ⟨v, h3, h4⟩ := e.at_ i d h1
  exact ⟨v, by rw [wipe_out h2]; exact h3, h4⟩⟩

/-! ### what is walked -/
structure ItD (K : PySem.W.Frag) (J : It) (F : AP') (H : Hp) (ds : List D) : Prop where
  go : ∀ i H2, Stay F H H2 → i < ds.length → J.go i H2
  stop : ∀ H2, Stay F H H2 → J.stop ds.length H2
  yld : ∀ i x H2 H3, Stay F H H2 → i < ds.length → J.yld i H2 x H3 → ∃ d, ds[i]? = some d ∧ Same H2 H3 ∧ Rv K F H3 x d
def tID (K : PySem.W.Frag) (m : Env' → Option (List D)) : TI := fun σ H R => ∃ F env ds, EnvR K F H env σ ∧ m env = some ds ∧ ∀ J H' F', Ext F H F' H' → ItD K J F' H' ds → R J H'
structure FI (X : Cx) (tg iter : Expr) (m : Env' → Option (List D)) : Prop where
  pi : PI X tg iter (tID X.K m)
/-- .. that leans on no list: a range -/
def tIN (K : PySem.W.Frag) (m : Env' → Option (List D)) : TI := fun σ H R => ∃ F env ds, EnvR K F H env σ ∧ m env = some ds ∧ ∀ J H' F', Ext F H F' H' → ItD K J (fun _ => False) H' ds → R J H'
structure FN (X : Cx) (tg iter : Expr) (m : Env' → Option (List D)) : Prop where
  pi : PI X tg iter (tIN X.K m)
theorem pi_mono {X : Cx} {tg e : Expr} {t t' : TI} (h : PI X tg e t) (i : ∀ σ H R, t' σ H R → t σ H R) : PI X tg e t' := ⟨fun pins s σ H R I q => h.run pins s σ H R I (i σ H R q)⟩
theorem Stay.weak {F : AP'} {H H' : Hp} (s : Stay F H H') : Stay (fun _ => False) H H' := s.mono fun _ f => f.elim
theorem ItD.up {K : PySem.W.Frag} {J : It} {F : AP'} {H : Hp} {ds : List D} (h : ItD K J (fun _ => False) H ds) : ItD K J F H ds := ⟨fun i H2 s => h.go i H2 s.weak, fun H2 s => h.stop H2 s.weak, fun i x H2 H3 s hi y => by
  obtain ⟨d, h1, h2, h3⟩ := h.yld i x H2 H3 s.weak hi y
  exact ⟨d, h1, h2, h3.up fun _ f => f.elim⟩⟩
theorem FN.fi {X : Cx} {tg iter : Expr} {m : Env' → Option (List D)} (h : FN X tg iter m) : FI X tg iter m := ⟨pi_mono h.pi fun σ H R ⟨F, env, ds, hE, hm, q⟩ => ⟨F, env, ds, hE, hm, fun J H' F' e i => q J H' F' e i.up⟩⟩
section
variable {X : Cx} {tg e : Expr} {me : Env' → Option D} {ms : Env' → Option (List D)} {K : PySem.W.Frag}
theorem itd_list {a : Addr} {xs : List V} {F : AP'} {H : Hp} {ds : List D} (f : F a) (h : H a = some (.lst xs)) (r : RvL K F H xs ds) : ItD K (Itl K a) F H ds := by
  have hl := r.length
  have w := @walk_list K a xs
  refine ⟨fun i H2 s hi => w.goes i H2 (by omega) (.inl (.inl (s.fz a _ f h))), fun H2 s => ?_, fun i x H2 H3 s hi y => ?_⟩
  · have := w.stops H2 (.inl (.inl (s.fz a _ f h)))
    rw [hl] at this
    exact this
  · obtain ⟨rfl, h2⟩ := w.yields i H2 x H3 (by omega) (.inl (.inl (s.fz a _ f h))) y
    obtain ⟨d, h3, h4⟩ := r.get h2
    exact ⟨d, h3, Same.refl _, Rv.stay s (fun _ f => f) h4⟩
theorem itd_tup {a : Addr} {xs : List V} {F : AP'} {H : Hp} {ds : List D} (h : SqT K H a xs) (r : RvL K F H xs ds) : ItD K (Itt K a) F H ds := by
  have hl := r.length
  have w := @walk_tup K a xs
  refine ⟨fun i H2 s hi => w.goes i H2 (by omega) (s.rdT h), fun H2 s => ?_, fun i x H2 H3 s hi y => ?_⟩
  · have := w.stops H2 (s.rdT h)
    rw [hl] at this
    exact this
  · obtain ⟨rfl, h2⟩ := w.yields i H2 x H3 (by omega) (s.rdT h) y
    obtain ⟨d, h3, h4⟩ := r.get h2
    exact ⟨d, h3, Same.refl _, Rv.stay s (fun _ f => f) h4⟩
def lstD : D → Option (List D)
  | .list ds => some ds
  | _ => none
def tupD : D → Option (List D)
  | .tuple ds => some ds
  | _ => none
def i1 (f : D → Option (List D)) (a : Env' → Option D) : Env' → Option (List D) := fun env => (a env).bind f
theorem fi_list (h : FE X e me) : FI X tg e (i1 lstD me) := ⟨pi_mono (pi_list h.pe) fun σ H R ⟨F, env, ds, hE, hm, q⟩ => by
  obtain ⟨d, h1, h2⟩ := bind1 hm
  refine ⟨F, env, d, hE, h1, fun v H1 F1 e1 r1 => ?_⟩
  unfold lstD at h2
  split at h2
  · cases h2
    obtain ⟨a, xs, rfl, f, hs, rl⟩ := r1.lst_inv
    exact ⟨a, rfl, ⟨xs, .inl (.inl hs)⟩, q _ _ _ e1 (itd_list f hs rl)⟩
  · cases h2⟩
theorem fi_tup (h : FE X e me) : FI X tg e (i1 tupD me) := ⟨pi_mono (pi_tup h.pe) fun σ H R ⟨F, env, ds, hE, hm, q⟩ => by
  obtain ⟨d, h1, h2⟩ := bind1 hm
  refine ⟨F, env, d, hE, h1, fun v H1 F1 e1 r1 => ?_⟩
  unfold tupD at h2
  split at h2
  · cases h2
    obtain ⟨a, xs, rfl, hs, rl⟩ := r1.tup_inv
    exact ⟨a, rfl, ⟨xs, hs⟩, q _ _ _ e1 (itd_tup hs rl)⟩
  · cases h2⟩
/-- a new list is walked -/
theorem fi_new (h : FF X e ms) : FI X tg e ms := ⟨pi_mono (pi_list h.pe) fun σ H R ⟨F, env, ds, hE, hm, q⟩ =>
  ⟨F, env, ds, hE, hm, fun p vs H1 F1 e1 np nf hp r1 => ⟨p, rfl, ⟨vs, .inl (.inl hp)⟩, q _ _ (Fz F1 p) (e1.fz np (by rw [hp]; exact fun z => nomatch z)) (itd_list Fz.at hp (r1.up Fz.sub))⟩⟩⟩
/-- lo, lo + 1, .. -/
def rangeL (lo : Int) : Nat → List D
  | 0 => []
  | n + 1 => .int lo :: rangeL (lo + 1) n
theorem rangeL_len : ∀ (n : Nat) (lo : Int), (rangeL lo n).length = n
  | 0, _ => rfl
  | n + 1, lo => by simp [rangeL, rangeL_len n]
theorem rangeL_at : ∀ (n : Nat) (lo : Int) (i : Nat), i < n → (rangeL lo n)[i]? = some (.int (lo + i))
  | 0, _, _, h => absurd h (Nat.not_lt_zero _)
  | n + 1, lo, 0, _ => by simp [rangeL]
  | n + 1, lo, i + 1, h => by
    simp only [rangeL, List.getElem?_cons_succ]
    rw [rangeL_at n (lo + 1) i (by omega)]
    congr 2
    omega
theorem itd_range {lo : Int} {n : Nat} {F : AP'} {H : Hp} : ItD K (Itr lo n) F H (rangeL lo n) := by
  have w := @walk_range lo n
  have hl := rangeL_len n lo
  refine ⟨fun i H2 s hi => w.goes i H2 (by omega) trivial, fun H2 s => ?_, fun i x H2 H3 s hi y => ?_⟩
  · rw [hl]
    exact w.stops H2 trivial
  · obtain ⟨rfl, rfl⟩ := w.yields i H2 x H3 (by omega) trivial y
    exact ⟨_, rangeL_at n lo i (by omega), Same.refl _, .int _⟩
def bigI (i : Int) : Bool := decide (-(2 ^ 62) ≤ i) && decide (i < 2 ^ 62)
theorem bigI_ok {i : Int} (h : bigI i = true) : -(2 ^ 62) ≤ i ∧ i < 2 ^ 62 := by
  unfold bigI at h
  rw [Bool.and_eq_true] at h
  exact ⟨of_decide_eq_true h.1, of_decide_eq_true h.2⟩
def rng1 : List D → Option (List D)
  | [.int j] => if bigI j = true then some (rangeL 0 j.toNat) else none
  | _ => none
def rng2 : List D → Option (List D)
  | [.int i, .int j] => if bigI i = true ∧ bigI j = true then some (rangeL i (j - i).toNat) else none
  | _ => none
def iF (f : List D → Option (List D)) (a : Env' → Option (List D)) : Env' → Option (List D) := fun env => (a env).bind f
theorem fn_range1 {a : Expr} {p pos : Pos} (hg : Gl X "range") (hm : X.mg "range" = none) (ha : FA X [a] ms) (hs : starEach [a] X.env = [(false, eval a X.env)] := by rfl) : FN X tg (.Call (.Name "range" p) [a] [] pos) (iF rng1 ms) := ⟨pi_mono (pi_range1 hg hm ha.pa hs) fun σ H R ⟨F, env, ds, hE, hm, q⟩ => by
  obtain ⟨xs, h1, h2⟩ := bind1 hm
  refine ⟨F, env, xs, hE, h1, fun vs H1 F1 e1 r1 => ?_⟩
  unfold rng1 at h2
  split at h2
  · split at h2
    · rename_i hb
      cases h2
      obtain ⟨w, rfl, r2⟩ := r1.one_inv
      obtain rfl := r2.int_inv
      exact ⟨_, rfl, (bigI_ok hb).1, (bigI_ok hb).2, q _ _ _ e1 itd_range⟩
    · cases h2
  · cases h2⟩
theorem fn_range2 {a b : Expr} {p pos : Pos} (hg : Gl X "range") (hm : X.mg "range" = none) (ha : FA X [a, b] ms) (hs : starEach [a, b] X.env = [(false, eval a X.env), (false, eval b X.env)] := by rfl) (hs2 : starEach [b] X.env = [(false, eval b X.env)] := by rfl) : FN X tg (.Call (.Name "range" p) [a, b] [] pos) (iF rng2 ms) := ⟨pi_mono (pi_range2 hg hm ha.pa hs hs2) fun σ H R ⟨F, env, ds, hE, hm, q⟩ => by
  obtain ⟨xs, h1, h2⟩ := bind1 hm
  refine ⟨F, env, xs, hE, h1, fun vs H1 F1 e1 r1 => ?_⟩
  unfold rng2 at h2
  split at h2
  · split at h2
    · rename_i hb
      cases h2
      obtain ⟨w, u, rfl, r2, r3⟩ := r1.two_inv
      obtain rfl := r2.int_inv
      obtain rfl := r3.int_inv
      exact ⟨_, _, rfl, ⟨(bigI_ok hb.1).1, (bigI_ok hb.1).2, (bigI_ok hb.2).1, (bigI_ok hb.2).2⟩, q _ _ _ e1 itd_range⟩
    · cases h2
  · cases h2⟩
end

/-! ### another base -/
section
open Classical
variable {K : PySem.W.Frag} {H0 H H1 H' : Hp} {F0 F F1 F' : AP'} {O : List Nat} {env : Env'} {σ σ' : L2.St}
/-- what stood at a loop's begin and stays in it -/
noncomputable def rebase (H0 H1 : Hp) (F1 : AP') : Hp := fun a => if F1 a ∨ (∃ xs, H1 a = some (.tup xs)) ∨ (∃ o u, H1 a = some (.frz o u)) then H1 a else H0 a
theorem rebase_ext (e : Ext F0 H0 F1 H1) : Ext F0 H0 F1 (rebase H0 H1 F1) := ⟨fun a o h => by
    unfold rebase
    split
    · exact e.same a o h
    · exact h, e.up, fun a f => by
    rcases e.new a f with h | h
    · exact .inl h
    · refine .inr ⟨h.1, ?_⟩
      unfold rebase
      rw [if_pos (.inl f)]
      exact h.2⟩
theorem rebase_stay (h : Same (rebase H0 H1 F1) H) : Stay F1 H1 H := ⟨fun a o f e => h a o (by unfold rebase; rw [if_pos (.inl f)]; exact e), fun a xs e => h a _ (by unfold rebase; rw [if_pos (.inr (.inl ⟨xs, e⟩))]; exact e),
  fun a o u e => h a _ (by unfold rebase; rw [if_pos (.inr (.inr ⟨o, u, e⟩))]; exact e)⟩
theorem Rp.rebase (r : Rp K H0 F0 F O H env σ) : Rp K (FL.rebase H0 H F) F F O H env σ := by
  have e := rebase_ext r.ext
  refine ⟨⟨fun a o h => ?_, fun _ f => f, fun _ f => .inl f⟩, e.fd r.fd, r.len, r.val, fun i d h hi => ?_, r.sep⟩
  · unfold FL.rebase at h
    split at h
    · exact h
    · exact r.ext.same a o h
  · obtain ⟨a, h1, h2, h3, h4⟩ := r.own i d h hi
    refine ⟨a, h1, h2, ?_, h4⟩
    unfold FL.rebase
    rw [if_neg]
    · exact h3
    · rintro (f | ⟨xs, f⟩ | ⟨o, u, f⟩)
      · exact h2 f
      · cases d with
        | list ds =>
          obtain ⟨vs, g, _⟩ := h4
          rw [f] at g
          cases g
        | _ => exact h4
      · cases d with
        | list ds =>
          obtain ⟨vs, g, _⟩ := h4
          rw [f] at g
          cases g
        | _ => exact h4
theorem Rp.unbase (e : Ext F0 H0 F1 H1) (fd : Fd F0 H0) (r : Rp K (FL.rebase H0 H1 F1) F1 F O H env σ) : Rp K H0 F0 F O H env σ :=
  ⟨(rebase_ext e).trans r.ext, fd, r.len, r.val, fun i d h hi => by
    obtain ⟨a, h1, h2, h3, h4⟩ := r.own i d h hi
    exact ⟨a, h1, h2, (rebase_ext e).same.free h3, h4⟩, r.sep⟩
end

/-! ### for -/
def forD (b : D → Option (List (Nat × D))) (m : SM) : List D → SM
  | [], env => some (.nx, env)
  | d :: ds, env => (b d).bind fun bs => (m (setAll env bs)).bind fun r => match r with
    | (.nx, e) => forD b m ds e
    | (.ct, e) => forD b m ds e
    | (.bk, e) => some (.nx, e)
    | (.rt v, e) => some (.rt v, e)
/-- the items by the slots that own nothing -/
def sFor (O : List Nat) (mi : Env' → Option (List D)) (b : D → Option (List (Nat × D))) (m : SM) : SM := fun env => (mi (maskE O env)).bind fun ds => forD b m ds env
/-- over a range -/
def sForR (mi : Env' → Option (List D)) (b : D → Option (List (Nat × D))) (m : SM) : SM := fun env => (mi env).bind fun ds => forD b m ds env
/-- a target's slots -/
def Slots (b : D → Option (List (Nat × D))) (O : List Nat) : Prop := ∀ d bs, b d = some bs → ∀ x ∈ bs, x.1 ∉ O
theorem for_core {X : Cx} {O Ol : List Nat} {J : It} {b : D → Option (List (Nat × D))} {m : SM} {D' : Ends} {H0 H1 : Hp} {F0 F1 Fi : AP'} {env env' : Env'} {σ1 : L2.St} {f : Fl} {ds : List D}
    (hb : Slots b O) (r : Rp X.K H0 F0 F1 O H1 env σ1) (hi : ∀ a, Fi a → F1 a) (it : ItD X.K J Fi H1 ds) (hf : forD b m ds env = some (f, env')) (q : EndOk X.K H0 F0 O Ol D' f env') :
    ∃ W : Nat → Nat → L2.St → Hp → Prop, (∃ k, W 0 k σ1 H1) ∧ ∀ i k σ H, W i k σ H →
      (J.stop i H ∧ D'.nx σ H) ∨ (J.go i H ∧ ∃ N : L2.St → Hp → Prop, (∀ σ' H', N σ' H' → ∃ k', k' < k ∧ W (i + 1) k' σ' H') ∧ ∀ x H', J.yld i H x H' → tGD X.K b x σ H' fun σ2 H2 => tSM X.K O O O m { D' with nx := N, ct := N, bk := D'.nx } σ2 H2) := by
  have ext := r.ext
  refine ⟨fun i k σ H => k = ds.length - i ∧ i ≤ ds.length ∧ ∃ en F, Rp X.K (rebase H0 H1 F1) F1 F O H en σ ∧ forD b m (ds.drop i) en = some (f, env'), ⟨ds.length, by simp, Nat.zero_le _, env, F1, r.rebase, by simpa using hf⟩, ?_⟩
  rintro i k σ H ⟨rfl, hi2, en, F, rr, hd⟩
  have st : Stay F1 H1 H := rebase_stay rr.ext.same
  by_cases hlt : i < ds.length
  · have sti := st.mono hi
    refine .inr ⟨it.go i H sti hlt, fun σ' H' => ∃ en F, Rp X.K (rebase H0 H1 F1) F1 F O H' en σ' ∧ forD b m (ds.drop (i + 1)) en = some (f, env'), fun σ' H' ⟨en, F, h⟩ => ⟨ds.length - (i + 1), by omega, rfl, hlt, en, F, h⟩, fun x H' y => ?_⟩
    obtain ⟨d, h1, h2, h3⟩ := it.yld i x H H' sti hlt y
    have hdr : ds.drop i = d :: ds.drop (i + 1) := by
      rw [List.drop_eq_getElem_cons hlt]
      congr 1
      rw [List.getElem?_eq_getElem hlt] at h1
      exact Option.some.inj h1
    rw [hdr] at hd
    obtain ⟨bs, g1, g2⟩ := bind1 hd
    obtain ⟨⟨f1, e1⟩, g3, g4⟩ := bind1 g2
    have rr' := rr.step h2
    refine ⟨F, d, bs, h3.up fun a fa => rr.ext.up a (hi a fa), g1, fun σ2 ss => ⟨rebase H0 H1 F1, F1, F, _, f1, e1, ss.rp rr' (hb d bs g1), g3, ?_⟩⟩
    cases f1 with
    | nx => exact fun σ' H'' F'' r' => ⟨e1, F'', r', g4⟩
    | ct => exact fun σ' H'' F'' r' => ⟨e1, F'', r', g4⟩
    | bk =>
      cases g4
      exact fun σ' H'' F'' r' => q σ' H'' F'' (Rp.unbase ext r.fd r')
    | rt v =>
      cases g4
      exact fun w H'' F'' e' r' => q w H'' F'' ((rebase_ext ext).trans e') r'
  · have e : i = ds.length := by omega
    subst e
    rw [List.drop_length] at hd
    cases hd
    exact .inl ⟨it.stop H (st.mono hi), q σ H F (Rp.unbase ext r.fd rr)⟩
section
variable {X : Cx} {O O' Ol : List Nat} {tg iter c : Expr} {body : List Stmt} {m : SM} {mi : Env' → Option (List D)} {mt : Env' → Option Bool} {b : D → Option (List (Nat × D))} {pos : Pos}
theorem fs_for (hp : PassesOwn (model X.prog X.w) X.A X.env X.xe) (hc : X.calm = true) (hi : FI X tg iter mi) (hg : FG X tg b) (hbs : Slots b O) (hb : FB X O O O body m)
    (hs : ∀ x, foldedSetIterable iter X.env x = pure x := by intro _; rfl) : FS X O O Ol (.For tg iter body [] pos) (sFor O mi b m) := ⟨ps_mono (ps_for hp hc hi.pi hg.pg hb.pss hs) fun D' σ H ⟨H0, F0, F, env, f, env', r, hm, q⟩ => by
  obtain ⟨ds, h1, h2⟩ := bind1 hm
  exact ⟨F, _, ds, r.masked, h1, fun J H1 F1 e1 it => for_core hbs (r.stepF e1) (fun _ f => f) it h2 q⟩⟩
theorem fs_forR (hp : PassesOwn (model X.prog X.w) X.A X.env X.xe) (hc : X.calm = true) (hi : FN X tg iter mi) (hg : FG X tg b) (hbs : Slots b O) (hb : FB X O O O body m)
    (hs : ∀ x, foldedSetIterable iter X.env x = pure x := by intro _; rfl) : FS X O O Ol (.For tg iter body [] pos) (sForR mi b m) := ⟨ps_mono (ps_for hp hc hi.pi hg.pg hb.pss hs) fun D' σ H ⟨H0, F0, F, env, f, env', r, hm, q⟩ => by
  obtain ⟨ds, h1, h2⟩ := bind1 hm
  exact ⟨_, env, ds, r.all, h1, fun J H1 F1 e1 it => for_core hbs (r.step e1.same) (fun _ f => f.elim) it h2 q⟩⟩

/-! ### while -/
def whD (c : Env' → Option Bool) (m : SM) : Nat → SM
  | 0, _ => none
  | n + 1, env => (c env).bind fun k => match k with
    | false => some (.nx, env)
    | true => (m env).bind fun r => match r with
      | (.nx, e) => whD c m n e
      | (.ct, e) => whD c m n e
      | (.bk, e) => some (.nx, e)
      | (.rt v, e) => some (.rt v, e)
theorem fs_while (n : Nat) (hp : PassesOwn (model X.prog X.w) X.A X.env X.xe) (hc : FT X c mt) (hb : FB X O O O body m) : FS X O O Ol (.While c body [] pos) (whD mt m n) := ⟨ps_mono (ps_while hp hc.pt hb.pss) fun D' σ H ⟨H0, F0, F, env, f, env', r, hm, q⟩ => by
  refine ⟨fun k σ H => ∃ en F, Rp X.K H0 F0 F O H en σ ∧ whD mt m k en = some (f, env'), ⟨n, env, F, r, hm⟩, ?_⟩
  rintro k σ H ⟨en, F, rr, hk⟩
  cases k with
  | zero => cases hk
  | succ k =>
    obtain ⟨b, h1, h2⟩ := bind1 hk
    refine ⟨_, en, b, rr.all, h1, fun H1 F1 e1 => ?_⟩
    have r1 := rr.step e1.same
    cases b with
    | false =>
      cases h2
      exact iteF (q σ H1 F r1)
    | true =>
      obtain ⟨⟨f1, e2⟩, h3, h4⟩ := bind1 h2
      refine iteT ⟨fun σ' H' => ∃ en F, Rp X.K H0 F0 F O H' en σ' ∧ whD mt m k en = some (f, env'), fun σ' H' h => ⟨k, Nat.lt_succ_self k, h⟩, H0, F0, F, en, f1, e2, r1, h3, ?_⟩
      cases f1 with
      | nx => exact fun σ' H'' F'' r' => ⟨e2, F'', r', h4⟩
      | ct => exact fun σ' H'' F'' r' => ⟨e2, F'', r', h4⟩
      | bk => cases h4; exact q
      | rt v => cases h4; exact q⟩
end

/-! ### list comprehensions -/
def compD (b : D → Option (List (Nat × D))) (mt : Env' → Option Bool) (me : Env' → Option D) (env : Env') : List D → Option (List D)
  | [] => some []
  | d :: ds => (b d).bind fun bs => (mt (setAll env bs)).bind fun k => match k with
    | true => (me (setAll env bs)).bind fun y => (compD b mt me env ds).map fun ys => y :: ys
    | false => compD b mt me env ds
def eComp (vs : List Nat) (mi : Env' → Option (List D)) (b : D → Option (List (Nat × D))) (mt : Env' → Option Bool) (me : Env' → Option D) : Env' → Option (List D) := fun env => ((mi env).bind capD).bind fun ds => compD b mt me (wipeE vs env) ds
def tTrue : Env' → Option Bool := fun _ => some true
structure FTs (X : Cx) (ifs : List Expr) (m : Env' → Option Bool) : Prop where
  pt : PTs X ifs (tPT X.K m)
theorem pts_mono {X : Cx} {e : List Expr} {t t' : TT} (h : PTs X e t) (i : ∀ σ H Q, t' σ H Q → t σ H Q) : PTs X e t' := ⟨fun pins s σ H Q I q => h.run pins s σ H Q I (i σ H Q q)⟩
theorem fts_nil {X : Cx} : FTs X [] tTrue := ⟨pts_mono pts_nil fun σ H Q ⟨F, env, b, hE, hm, q⟩ => by
  cases hm
  exact q H F (Ext.refl F H)⟩
theorem fts_one {X : Cx} {c : Expr} {m : Env' → Option Bool} (h : FT X c m) : FTs X [c] m := ⟨pts_one h.pt⟩
def SlotsIn (b : D → Option (List (Nat × D))) (vs : List Nat) : Prop := ∀ d bs, b d = some bs → ∀ x ∈ bs, x.1 ∈ vs
theorem lc_data {K : PySem.W.Frag} {vs : List Nat} {J : It} {b : D → Option (List (Nat × D))} {mt : Env' → Option Bool} {me : Env' → Option D} {H1 : Hp} {F1 : AP'} {env : Env'} {σ : L2.St} {ds rs : List D} {Q : Addr → Hp → Prop} {P : Addr}
    (hb : SlotsIn b vs) (hE : EnvR K F1 H1 env σ) (it : ItD K J F1 H1 ds) (hz : ds.length ≤ sizeLine) (hm : compD b mt me (wipeE vs env) ds = some rs) (np : H1 P = none)
    (q : ∀ ws H' F', Ext F1 H1 F' H' → ¬ F' P → H' P = some (.lst ws) → RvL K F' H' ws rs → Q P H') :
    ∃ W : Nat → Nat → Hp → Prop, (∃ m, W 0 m (upd H1 P (.lst []))) ∧ ∀ i m H, W i m H →
      (J.stop i H ∧ Q P H) ∨ (J.go i H ∧ ∃ Nx : Hp → Prop, (∀ H', Nx H' → ∃ m', m' < m ∧ W (i + 1) m' H') ∧ ∀ x H', J.yld i H x H' → tGD K b x (L2.wipe σ vs) H' fun σ2 H2 => L2.wipe σ2 vs = L2.wipe σ vs ∧ tPT K mt σ2 H2 fun b H3 =>
        if b = true then tP K me σ2 H3 fun y H4 => ∃ acc, H4 P = some (.lst acc) ∧ acc.length < sizeLine ∧ Nx (upd H4 P (.lst (acc ++ [y]))) else Nx H3) := by
  refine ⟨fun i k H => k = ds.length - i ∧ i ≤ ds.length ∧ ∃ F ws ys zs, Ext F1 H1 F H ∧ ¬ F P ∧ H P = some (.lst ws) ∧ RvL K F H ws ys ∧ ws.length ≤ i ∧ compD b mt me (wipeE vs env) (ds.drop i) = some zs ∧ ys ++ zs = rs,
    ⟨ds.length, by simp, Nat.zero_le _, F1, [], [], rs, Ext.upd np, fun f => hE.fd P f np, upd_same, .nil, Nat.zero_le _, by simpa using hm, rfl⟩, ?_⟩
  rintro i k H ⟨rfl, hi, F, ws, ys, zs, e1, nf, hP, rl, hwl, hc, hrs⟩
  have st : Stay F1 H1 H := e1.stay
  by_cases hlt : i < ds.length
  · refine .inr ⟨it.go i H st hlt, fun H' => ∃ F ws ys zs, Ext F1 H1 F H' ∧ ¬ F P ∧ H' P = some (.lst ws) ∧ RvL K F H' ws ys ∧ ws.length ≤ i + 1 ∧ compD b mt me (wipeE vs env) (ds.drop (i + 1)) = some zs ∧ ys ++ zs = rs,
      fun H' h => ⟨ds.length - (i + 1), by omega, rfl, hlt, h⟩, fun x H' y => ?_⟩
    obtain ⟨d, h1, h2, h3⟩ := it.yld i x H H' st hlt y
    have hdr : ds.drop i = d :: ds.drop (i + 1) := by
      rw [List.drop_eq_getElem_cons hlt]
      congr 1
      rw [List.getElem?_eq_getElem hlt] at h1
      exact Option.some.inj h1
    rw [hdr] at hc
    obtain ⟨bs, g1, g2⟩ := bind1 hc
    obtain ⟨kk, g3, g4⟩ := bind1 g2
    have eH : Ext F H F H' := ⟨h2, fun _ f => f, fun _ f => .inl f⟩
    have e2 : Ext F1 H1 F H' := ⟨e1.same.trans h2, e1.up, fun a f => by
      rcases e1.new a f with z | z
      · exact .inl z
      · exact .inr ⟨z.1, fun w => z.2 (h2.free w)⟩⟩
    have hP' : H' P = some (.lst ws) := h2 P _ hP
    refine ⟨F, d, bs, h3.up e1.up, g1, fun σ2 ss => ⟨(ss.wipe (hb d bs g1)).trans wipe_wipe, F, _, kk, ss.envR ((hE.ext e2).wipe vs), g3, fun H3 F3 e3 => ?_⟩⟩
    have nf3 : ¬ F3 P := fun f => by
      rcases e3.new P f with z | z
      · exact nf z
      · rw [hP'] at z
        exact nomatch z.1
    have rl3 : RvL K F3 H3 ws ys := e3.rvl (eH.rvl rl)
    cases kk with
    | false => exact iteF ⟨F3, ws, ys, zs, e2.trans e3, nf3, e3.same P _ hP', rl3, by omega, g4, hrs⟩
    | true =>
      obtain ⟨yy, g5, g6⟩ := bind1 g4
      obtain ⟨zz, g7, rfl⟩ := map1 g6
      refine iteT ⟨F3, _, yy, (ss.envR ((hE.ext e2).wipe vs)).ext e3, g5, fun v H4 F4 e4 r4 => ⟨ws, e4.same P _ (e3.same P _ hP'), by omega, ?_⟩⟩
      have nf4 : ¬ F4 P := fun f => by
        rcases e4.new P f with z | z
        · exact nf3 z
        · rw [e3.same P _ hP'] at z
          exact nomatch z.1
      have st4 : Stay F4 H4 (upd H4 P (.lst (ws ++ [v]))) := ⟨fun a o f e => by
          rw [upd_ne (fun z => by subst z; exact nf4 f)]
          exact e, fun a xs e => by
          rw [upd_ne (fun z => by subst z; rw [e4.same _ _ (e3.same _ _ hP')] at e; cases e)]
          exact e, fun a o u e => by
          rw [upd_ne (fun z => by subst z; rw [e4.same _ _ (e3.same _ _ hP')] at e; cases e)]
          exact e⟩
      have e5 := (e2.trans e3).trans e4
      refine ⟨F4, ws ++ [v], ys ++ [yy], zz, ⟨fun a o h => ?_, e5.up, fun a f => ?_⟩, nf4, upd_same, RvL.stay st4 (fun _ f => f) ((e4.rvl rl3).append (.cons r4 .nil)), by simp; omega, g7, by simpa using hrs⟩
      · rw [upd_ne (fun z => by subst z; rw [np] at h; cases h)]
        exact e5.same a o h
      · rcases e5.new a f with z | z
        · exact .inl z
        · refine .inr ⟨z.1, ?_⟩
          rw [upd_ne (fun w => by subst w; exact nf4 f)]
          exact z.2
  · have e : i = ds.length := by omega
    subst e
    rw [List.drop_length] at hc
    cases hc
    rw [List.append_nil] at hrs
    subst hrs
    exact .inl ⟨it.stop H st, q ws H F e1 nf hP rl⟩
section
variable {X : Cx} {elt tg iter : Expr} {ifs : List Expr} {scope : Scope} {own : List (Str × Nat)} {pos : Pos} {mi : Env' → Option (List D)} {b : D → Option (List (Nat × D))} {mt : Env' → Option Bool} {me : Env' → Option D}
theorem comp_imp {σ : L2.St} {H : Hp} {Q : VK} {vs : List Nat} (hb : SlotsIn b vs) (h : tPF X.K (eComp vs mi b mt me) σ H Q) : tLc (tID X.K mi) (tGD X.K b) (tPT X.K mt) (tP X.K me) vs σ H Q := by
  obtain ⟨F, env, rs, hE, hm, q⟩ := h
  obtain ⟨ds, h1, h2⟩ := bind1 hm
  obtain ⟨ds', h3, h4⟩ := bind1 h1
  obtain ⟨rfl, hz⟩ := capD_some h4
  exact ⟨F, env, ds, hE, h3, fun J H1 F1 e1 it P np => lc_data (Q := fun p H => Q (.ref p) H) hb (hE.ext e1) it hz h2 np fun ws H' F' e' nf hP r => q P ws H' F' (e1.trans e') (e1.same.free np) nf hP r⟩
theorem ff_comp (hc : X.calm = true) (hN : X.N.Nodup) (hi : FI X tg iter mi) (ok : BlkOk X.N X.env.scope scope own) (hb : SlotsIn b (own.map (·.2)))
    (hg : ∀ (s : Shared) (H : Hp) (C : Addr) (cl : List (Str × Addr)) (fp : List Addr), FG (X.blk s H scope (compEnvC scope cl C X.env) fp) tg b) (ht : ∀ (s : Shared) (H : Hp) (C : Addr) (cl : List (Str × Addr)) (fp : List Addr), FTs (X.blk s H scope (compEnvC scope cl C X.env) fp) ifs mt)
    (he : ∀ (s : Shared) (H : Hp) (C : Addr) (cl : List (Str × Addr)) (fp : List Addr), FE (X.blk s H scope (compEnvC scope cl C X.env) fp) elt me) (hs : ∀ x, foldedSetIterable iter X.env x = pure x := by intro _; rfl) :
    FF X (.ListComp elt [⟨tg, iter, ifs, 0⟩] scope pos) (eComp (own.map (·.2)) mi b mt me) :=
  ⟨pe_mono (pe_lc hc hN hi.pi ok (fun s H C cl fp => (hg s H C cl fp).pg) (fun s H C cl fp => (ht s H C cl fp).pt) (fun s H C cl fp => (he s H C cl fp).pe) hs) fun σ H Q h => comp_imp hb h⟩
/-- y = [..] on one line, y a local: the store as a tAsg -/
theorem ps_setComp {i : Nat} {y : Str} {py spos : Pos} (hc : X.calm = true) (hN : X.N.Nodup) (hy : X.N[i]? = some y) (hyl : X.env.scope.names.lookup y = some .local)
    (h : PS X (.Assign [.Name y py] (.ListComp elt [⟨tg, iter, ifs, 0⟩] scope pos) spos) (tAsg (tLc (tID X.K mi) (tGD X.K b) (tPT X.K mt) (tP X.K me) (own.map (·.2))) (gName i))) (hb : SlotsIn b (own.map (·.2))) :
    PS X (.Assign [.Name y py] (.ListComp elt [⟨tg, iter, ifs, 0⟩] scope pos) spos) (tAsg (tPF X.K (eComp (own.map (·.2)) mi b mt me)) (gName i)) := ps_mono h fun D' σ H hq => comp_imp hb hq
end

/-! ### defs and calls -/
def runF (n : Nat) (m : SM) : List D → Option D := fun ds => (m (ds.map some ++ List.replicate (n - ds.length) none)).bind fun r => match r with
  | (.nx, _) => some .none
  | (.rt d, _) => some d
  | _ => none
/-- the promise of a def that changes nothing: arity k, its mirror f -/
def spF (K : PySem.W.Frag) (k : Nat) (f : List D → Option D) : Sp := fun vs H Q _ => vs.length = k ∧ ∃ F ds d, Fd F H ∧ RvL K F H vs ds ∧ f ds = some d ∧ ∀ v H' F', Ext F H F' H' → Rv K F' H' v d → Q v H'
section
variable {P : Program} {w : World} {K : PySem.W.Frag} {mg : Str → Option Value} {base : Heap}
theorem fn_ok {x qual : Str} {st : Stmt} {f : Addr} {fd : FuncData} {N ps : List Str} {k : Nat} {m : SM} {O' : List Nat} (F : Fun K x qual st f fd) (S : FnScope N ps (defScope st))
    (hbody : ∀ (cdv : Value) (A : Around) (outer : List Env) (s : Shared) (H : Hp) (E : XK), Room k (A.deeper (envOfC qual (defScope st) s.heap.objs.size f cdv)) → FB (cxOf CX0 P w K mg base N qual (defScope st) f cdv A outer s H E).nox [] O' [] (defBody st) m) :
    FnOk P w K mg base CX0 (k + 1) f fd ps (spF K ps.length (runF N.length m)) := by
  refine F.ok S (fun vs H Q E h => h.1) (fun cdv A outer s H vs Q E hr h => ?_)
  obtain ⟨hl, F, ds, d, hfd, r, hf, q⟩ := h
  refine ⟨_, (hbody cdv A outer s H E hr).pss, ?_⟩
  obtain ⟨⟨fl, env'⟩, h1, h2⟩ := bind1 hf
  have hle := r.length
  have hNl : ps.length ≤ N.length := by
    have := congrArg List.length S.pre
    rw [List.length_take] at this
    omega
  refine ⟨H, F, F, _, fl, env', ⟨Ext.refl F H, hfd, by unfold L2.start; simp [hle], fun i e he hi => ?_, fun i e he hi => absurd hi (List.not_mem_nil), fun i j e e' a hi => absurd hi (List.not_mem_nil)⟩, h1, ?_⟩
  · have hil : i < ds.length := by
      by_cases z : i < ds.length
      · exact z
      · rw [List.getElem?_append_right (by simp; omega)] at he
        rw [List.getElem?_replicate] at he
        split at he <;> cases he
    rw [List.getElem?_append_left (by simpa using hil), List.getElem?_map, List.getElem?_eq_getElem hil] at he
    simp only [Option.map_some, Option.some.injEq] at he
    subst he
    obtain ⟨v, h3, h4⟩ := r.getD (List.getElem?_eq_getElem hil)
    refine ⟨v, ?_, h4⟩
    unfold L2.start
    rw [List.getElem?_append_left (by simp; omega), List.getElem?_map, h3]
    rfl
  · cases fl with
    | nx =>
      cases h2
      exact fun σ' H' F' r' => q .non H' F' r'.ext .non
    | rt e =>
      cases h2
      exact fun v H' F' e' r' => q v H' F' e' r'
    | bk => cases h2
    | ct => cases h2
end
section
variable {X : Cx} {k n : Nat} {f : Addr} {fd : FuncData} {ps : List Str} {x : Str} {p pos : Pos} {e : Expr} {es : List Expr} {ms : Env' → Option (List D)} {g : List D → Option D}
/-- f(e, ..) -/
def eCall (n : Nat) (g : List D → Option D) (ms : Env' → Option (List D)) : Env' → Option D := fun env => (ms env).bind fun ds => if ds.length = n then g ds else none
theorem fe_call (F : FnOk X.prog X.w X.K X.mg X.base CX0 k f fd ps (spF X.K n g)) (hr : Room k X.A) (hg : Gl X x) (hm : X.mg x = some (.ref f)) (hk : PySem.W.keepIn X.K (.ref f) = true) (hb : Binds X.K fd ps [])
    (ha : FA X (e :: es) ms) (hdb : (x == ("__debug__" : Str)) = false := by decide) (he : starEach (e :: es) X.env = (false, eval e X.env) :: starEach es X.env := by rfl) (hpl : (backTo pos (starEach es X.env)).any (·.1) = false := by rfl) :
    FE X (.Call (.Name x p) (e :: es) [] pos) (eCall n g ms) := ⟨pe_mono (pe_call F hr hg hm hk hb .nil pass0 ha.pa hdb he hpl) fun σ H Q ⟨F, env, d, hE, hm, q⟩ => by
  obtain ⟨ds, h1, h2⟩ := bind1 hm
  split at h2
  · rename_i hl
    exact ⟨F, env, ds, hE, h1, fun vs H1 F1 e1 r1 => ⟨by rw [List.append_nil, r1.length, hl], F1, ds, d, e1.fd hE.fd, by rw [List.append_nil]; exact r1, h2, fun v H' F' e' r' => q v H' F' (e1.trans e') r'⟩⟩
  · cases h2⟩
end
end FL

set_option Elab.async false
set_option linter.all false
set_option maxRecDepth 100000
/-! FLe: built-ins, stores of several names, changes of owned lists. -/
namespace FL
open PySem PySem.Spec PyProof.Rows L2

/-! ### built-ins -/
def tyD : D → Option String
  | .none => some "NoneType"
  | .bool _ => some "bool"
  | .int _ => some "int"
  | .str _ => some "str"
  | .tuple _ => some "tuple"
  | .list _ => some "list"
  | .dict _ => none
theorem Rv.tyX {K : PySem.W.Frag} {F : AP'} {H : Hp} {v : V} {d : D} {t : String} (r : Rv K F H v d) (h : tyD d = some t) : TyX K H v (.type t) := by
  cases r with
  | non => cases h; exact .base .non
  | bl b => cases h; exact .base (.bl b)
  | int i => cases h; exact .base (.int i)
  | str x => cases h; exact .base (.str x)
  | tup s _ =>
    cases h
    rcases s with (s | ⟨o, s⟩) | ⟨o, its, n, h1, h2, _⟩
    · exact .base (.tup s)
    · exact .fTuple s
    · exact .kTuple h1 h2
  | lst _ s _ => cases h; exact .base (.lst s)
  | hnd a => cases h
/-- isinstance(x, T), T a built-in type -/
def isiD (T : String) (d : D) : Option D := match d with
  | .none => (kitB "NoneType" T).map .bool
  | .bool _ => (kitB "bool" T).map .bool
  | .int _ => (kitB "int" T).map .bool
  | .str _ => (kitB "str" T).map .bool
  | .tuple _ => (kitB "tuple" T).map .bool
  | .list _ => (kitB "list" T).map .bool
  | .dict _ => none
section
variable {X : Cx} {e : Expr} {es : List Expr} {me : Env' → Option D} {ms : Env' → Option (List D)} {x : Str} {p pos : Pos}
theorem fe_isi {T : String} {y : Expr} (hg : Gl X "isinstance") (hm : X.mg "isinstance" = none) (ha : FE X e me) (hy : PE X y (tC (.ty T))) (hs2 : starEach [y] X.env = (false, eval y X.env) :: starEach [] X.env := by rfl)
    (he : starEach [e, y] X.env = (false, eval e X.env) :: starEach [y] X.env := by rfl) (hpl : (backTo pos (starEach [y] X.env)).any (·.1) = false := by rfl) : FE X (.Call (.Name "isinstance" p) [e, y] [] pos) (e1 (isiD T) me) := ⟨pe_mono (pe_callB call_isi hg hm (by decide +kernel) (pa_cons ha.pe (pa_cons hy pa_nil hs2) he) (by decide) (by decide) he hpl) fun σ H Q ⟨F, env, d, hE, hm, q⟩ => by
  obtain ⟨dx, h2, h3⟩ := bind1 hm
  refine ⟨F, env, dx, hE, h2, fun v H1 F1 e1 r1 => ?_⟩
  unfold isiD at h3
  cases dx with
  | dict _ => cases h3
  | none =>
    obtain ⟨b, h4, rfl⟩ := map1 h3
    exact ⟨v, .ty T, _, .type T, b, rfl, .ty T, r1.tyX rfl, kit_ty h4, q _ _ _ e1 (.bl b)⟩
  | bool _ =>
    obtain ⟨b, h4, rfl⟩ := map1 h3
    exact ⟨v, .ty T, _, .type T, b, rfl, .ty T, r1.tyX rfl, kit_ty h4, q _ _ _ e1 (.bl b)⟩
  | int _ =>
    obtain ⟨b, h4, rfl⟩ := map1 h3
    exact ⟨v, .ty T, _, .type T, b, rfl, .ty T, r1.tyX rfl, kit_ty h4, q _ _ _ e1 (.bl b)⟩
  | str _ =>
    obtain ⟨b, h4, rfl⟩ := map1 h3
    exact ⟨v, .ty T, _, .type T, b, rfl, .ty T, r1.tyX rfl, kit_ty h4, q _ _ _ e1 (.bl b)⟩
  | tuple _ =>
    obtain ⟨b, h4, rfl⟩ := map1 h3
    exact ⟨v, .ty T, _, .type T, b, rfl, .ty T, r1.tyX rfl, kit_ty h4, q _ _ _ e1 (.bl b)⟩
  | list _ =>
    obtain ⟨b, h4, rfl⟩ := map1 h3
    exact ⟨v, .ty T, _, .type T, b, rfl, .ty T, r1.tyX rfl, kit_ty h4, q _ _ _ e1 (.bl b)⟩⟩
/-- the ints of a list -/
def intsD : List D → Option (List Int)
  | [] => some []
  | .int i :: r => (intsD r).map (i :: ·)
  | _ :: _ => none
def boolsD : List D → Option (List Bool)
  | [] => some []
  | .bool i :: r => (boolsD r).map (i :: ·)
  | _ :: _ => none
theorem ints_rv {K : PySem.W.Frag} {F : AP'} {H : Hp} : ∀ {vs : List V} {ds : List D} {ns : List Int}, RvL K F H vs ds → intsD ds = some ns → vs = ns.map V.int
  | _, _, _, .nil, h => by cases h; rfl
  | _, _, _, .cons r t, h => by
    cases r with
    | int i =>
      obtain ⟨ns, h1, rfl⟩ := map1 h
      rw [ints_rv t h1]
      rfl
    | _ => cases h
theorem bools_rv {K : PySem.W.Frag} {F : AP'} {H : Hp} : ∀ {vs : List V} {ds : List D} {ns : List Bool}, RvL K F H vs ds → boolsD ds = some ns → vs = ns.map V.bl
  | _, _, _, .nil, h => by cases h; rfl
  | _, _, _, .cons r t, h => by
    cases r with
    | bl i =>
      obtain ⟨ns, h1, rfl⟩ := map1 h
      rw [bools_rv t h1]
      rfl
    | _ => cases h
def sumD : D → Option D
  | .list ds => (intsD ds).map fun ns => .int ns.sum
  | _ => none
theorem cd_sum (hc : X.calm = true) : CallR X (.builtin "sum") (rDL X.K (on1 sumD)) := CallR.imp (cr_sum hc) fun xs H Q h => by
  obtain ⟨F, dx, d, rx, hd, q⟩ := h
  obtain ⟨x, rfl, he⟩ := on1_some hd
  obtain ⟨v, rfl, r⟩ := rx.one_inv
  unfold sumD at he
  split at he
  · obtain ⟨ns, h1, rfl⟩ := map1 he
    obtain ⟨a, ys, rfl, _, h2, r1⟩ := r.lst_inv
    obtain rfl := ints_rv r1 h1
    exact ⟨a, ns, rfl, .inl (.inl h2), q _ _ _ (Ext.refl F H) (.int _)⟩
  · cases he
def allD : D → Option D
  | .list ds => (boolsD ds).map fun ns => .bool (ns.all id)
  | _ => none
def anyD : D → Option D
  | .list ds => (boolsD ds).map fun ns => .bool (ns.any id)
  | _ => none
theorem cd_all (hc : X.calm = true) : CallR X (.builtin "all") (rDL X.K (on1 allD)) := CallR.imp (cr_all hc) fun xs H Q h => by
  obtain ⟨F, dx, d, rx, hd, q⟩ := h
  obtain ⟨x, rfl, he⟩ := on1_some hd
  obtain ⟨v, rfl, r⟩ := rx.one_inv
  unfold allD at he
  split at he
  · obtain ⟨ns, h1, rfl⟩ := map1 he
    obtain ⟨a, ys, rfl, _, h2, r1⟩ := r.lst_inv
    obtain rfl := bools_rv r1 h1
    exact ⟨a, ns, rfl, .inl (.inl h2), q _ _ _ (Ext.refl F H) (.bl _)⟩
  · cases he
theorem cd_any (hc : X.calm = true) : CallR X (.builtin "any") (rDL X.K (on1 anyD)) := CallR.imp (cr_any hc) fun xs H Q h => by
  obtain ⟨F, dx, d, rx, hd, q⟩ := h
  obtain ⟨x, rfl, he⟩ := on1_some hd
  obtain ⟨v, rfl, r⟩ := rx.one_inv
  unfold anyD at he
  split at he
  · obtain ⟨ns, h1, rfl⟩ := map1 he
    obtain ⟨a, ys, rfl, _, h2, r1⟩ := r.lst_inv
    obtain rfl := bools_rv r1 h1
    exact ⟨a, ns, rfl, .inl (.inl h2), q _ _ _ (Ext.refl F H) (.bl _)⟩
  · cases he
def absD : D → Option D
  | .int i => some (.int (if i < 0 then -i else i))
  | _ => none
theorem cd_abs : CallR X (.builtin "abs") (rDL X.K (on1 absD)) := CallR.imp call_abs fun xs H Q h => by
  obtain ⟨F, dx, d, rx, hd, q⟩ := h
  obtain ⟨x, rfl, he⟩ := on1_some hd
  obtain ⟨v, rfl, r⟩ := rx.one_inv
  unfold absD at he
  split at he
  · obtain rfl := r.int_inv
    cases he
    exact ⟨_, rfl, q _ _ _ (Ext.refl F H) (.int _)⟩
  · cases he
def max2D : D → D → Option D := int2 fun i j => some (.int (if j > i then j else i))
def min2D : D → D → Option D := int2 fun i j => some (.int (if j < i then j else i))
theorem cd_max2 (hc : X.calm = true) : CallR X (.builtin "max") (rDL X.K (on2 max2D)) := CallR.imp (call_max2 hc) fun xs H Q h => by
  obtain ⟨F, dx, d, rx, hd, q⟩ := h
  obtain ⟨x, y, rfl, he⟩ := on2_some hd
  obtain ⟨i, j, rfl, rfl, he⟩ := int2_some he
  obtain ⟨v, w, rfl, r1, r2⟩ := rx.two_inv
  obtain rfl := r1.int_inv
  obtain rfl := r2.int_inv
  cases he
  exact ⟨i, j, rfl, q _ _ _ (Ext.refl F H) (.int _)⟩
theorem cd_min2 (hc : X.calm = true) : CallR X (.builtin "min") (rDL X.K (on2 min2D)) := CallR.imp (call_min2 hc) fun xs H Q h => by
  obtain ⟨F, dx, d, rx, hd, q⟩ := h
  obtain ⟨x, y, rfl, he⟩ := on2_some hd
  obtain ⟨i, j, rfl, rfl, he⟩ := int2_some he
  obtain ⟨v, w, rfl, r1, r2⟩ := rx.two_inv
  obtain rfl := r1.int_inv
  obtain rfl := r2.int_inv
  cases he
  exact ⟨i, j, rfl, q _ _ _ (Ext.refl F H) (.int _)⟩
/-- the greatest, the least of a list of ints -/
def maxI : List Int → Int
  | [] => 0
  | [x] => x
  | x :: r => max x (maxI r)
def minI : List Int → Int
  | [] => 0
  | [x] => x
  | x :: r => min x (minI r)
theorem maxI_ok : ∀ {ns : List Int} {m : Int}, m ∈ ns → (∀ y ∈ ns, y ≤ m) → maxI ns = m
  | [], _, h, _ => nomatch h
  | [x], m, h, _ => by
    simp at h
    exact h.symm
  | x :: y :: r, m, h, g => by
    have hx := g x List.mem_cons_self
    show max x (maxI (y :: r)) = m
    have low : ∀ (l : List Int) (z : Int), l ≠ [] → (∀ y ∈ l, y ≤ z) → maxI l ≤ z := by
      intro l
      induction l with
      | nil => intro z h; exact absurd rfl h
      | cons a t ih =>
        intro z _ h2
        cases t with
        | nil => exact h2 a List.mem_cons_self
        | cons b t =>
          show max a (maxI (b :: t)) ≤ z
          have := ih z (List.cons_ne_nil _ _) fun y hy => h2 y (List.mem_cons_of_mem _ hy)
          have := h2 a List.mem_cons_self
          omega
    have hl := low (y :: r) m (List.cons_ne_nil _ _) fun z hz => g z (List.mem_cons_of_mem _ hz)
    rcases List.mem_cons.mp h with rfl | h
    · omega
    · have := maxI_ok h fun z hz => g z (List.mem_cons_of_mem _ hz)
      omega
theorem minI_ok : ∀ {ns : List Int} {m : Int}, m ∈ ns → (∀ y ∈ ns, m ≤ y) → minI ns = m
  | [], _, h, _ => nomatch h
  | [x], m, h, _ => by
    simp at h
    exact h.symm
  | x :: y :: r, m, h, g => by
    have hx := g x List.mem_cons_self
    show min x (minI (y :: r)) = m
    have low : ∀ (l : List Int) (z : Int), l ≠ [] → (∀ y ∈ l, z ≤ y) → z ≤ minI l := by
      intro l
      induction l with
      | nil => intro z h; exact absurd rfl h
      | cons a t ih =>
        intro z _ h2
        cases t with
        | nil => exact h2 a List.mem_cons_self
        | cons b t =>
          show z ≤ min a (minI (b :: t))
          have := ih z (List.cons_ne_nil _ _) fun y hy => h2 y (List.mem_cons_of_mem _ hy)
          have := h2 a List.mem_cons_self
          omega
    have hl := low (y :: r) m (List.cons_ne_nil _ _) fun z hz => g z (List.mem_cons_of_mem _ hz)
    rcases List.mem_cons.mp h with rfl | h
    · omega
    · have := minI_ok h fun z hz => g z (List.mem_cons_of_mem _ hz)
      omega
def maxD : D → Option D
  | .list ds => (intsD ds).bind fun ns => if ns.isEmpty then none else some (.int (maxI ns))
  | _ => none
def minD : D → Option D
  | .list ds => (intsD ds).bind fun ns => if ns.isEmpty then none else some (.int (minI ns))
  | _ => none
theorem cd_max (hc : X.calm = true) : CallR X (.builtin "max") (rDL X.K (on1 maxD)) := CallR.imp (cr_max hc) fun xs H Q h => by
  obtain ⟨F, dx, d, rx, hd, q⟩ := h
  obtain ⟨x, rfl, he⟩ := on1_some hd
  obtain ⟨v, rfl, r⟩ := rx.one_inv
  unfold maxD at he
  split at he
  · obtain ⟨ns, h1, h3⟩ := bind1 he
    obtain ⟨a, ys, rfl, _, h2, r1⟩ := r.lst_inv
    obtain rfl := ints_rv r1 h1
    split at h3
    · cases h3
    · rename_i hne
      cases h3
      refine ⟨a, ns, rfl, .inl (.inl h2), by cases ns <;> simp at hne ⊢, fun m hm hg => ?_⟩
      rw [maxI_ok hm hg] at q
      exact q _ _ _ (Ext.refl F H) (.int _)
  · cases he
theorem cd_min (hc : X.calm = true) : CallR X (.builtin "min") (rDL X.K (on1 minD)) := CallR.imp (cr_min hc) fun xs H Q h => by
  obtain ⟨F, dx, d, rx, hd, q⟩ := h
  obtain ⟨x, rfl, he⟩ := on1_some hd
  obtain ⟨v, rfl, r⟩ := rx.one_inv
  unfold minD at he
  split at he
  · obtain ⟨ns, h1, h3⟩ := bind1 he
    obtain ⟨a, ys, rfl, _, h2, r1⟩ := r.lst_inv
    obtain rfl := ints_rv r1 h1
    split at h3
    · cases h3
    · rename_i hne
      cases h3
      refine ⟨a, ns, rfl, .inl (.inl h2), by cases ns <;> simp at hne ⊢, fun m hm hg => ?_⟩
      rw [minI_ok hm hg] at q
      exact q _ _ _ (Ext.refl F H) (.int _)
  · cases he
end

/-! ### stores of several names -/
section
variable {X : Cx} {O O' Ol : List Nat} {st : Stmt} {me : Env' → Option D} {ms : Env' → Option (List D)} {b : D → Option (List (Nat × D))}
/-- a, b = e -/
def sUnp (me : Env' → Option D) (b : D → Option (List (Nat × D))) : SM := fun env => (me env).bind fun d => if noL d = true then (b d).map fun bs => (.nx, setAll env bs) else none
theorem fs_unp (h : PS X st (tAsg (tP X.K me) (tGD X.K b))) (hb : Slots b O) : FS X O O Ol st (sUnp me b) := ⟨ps_mono h fun D' σ H ⟨H0, F0, F, env, f, env', r, hm, q⟩ => by
  obtain ⟨d, h1, h2⟩ := bind1 hm
  split at h2
  · rename_i hn
    obtain ⟨bs, h3, h4⟩ := map1 h2
    cases h4
    exact ⟨_, env, d, r.all, h1, fun v H1 F1 e1 r1 => ⟨F, d, bs, r1.noL hn, h3, fun σ' ss => q _ _ _ (ss.rp (r.step e1.same) (hb d bs h3))⟩⟩
  · cases h2⟩
/-- .. whose value may hold lists, read by the slots that own nothing -/
def sUnpV (O : List Nat) (me : Env' → Option D) (b : D → Option (List (Nat × D))) : SM := fun env => (me (maskE O env)).bind fun d => (b d).map fun bs => (.nx, setAll env bs)
theorem fs_unpV (h : PS X st (tAsg (tP X.K me) (tGD X.K b))) (hb : Slots b O) : FS X O O Ol st (sUnpV O me b) := ⟨ps_mono h fun D' σ H ⟨H0, F0, F, env, f, env', r, hm, q⟩ => by
  obtain ⟨d, h1, h2⟩ := bind1 hm
  obtain ⟨bs, h3, h4⟩ := map1 h2
  cases h4
  exact ⟨_, _, d, r.masked, h1, fun v H1 F1 e1 r1 => ⟨F1, d, bs, r1, h3, fun σ' ss => q _ _ _ (ss.rp (r.stepF e1) (hb d bs h3))⟩⟩⟩

/-- values of two kinds: new lists (true), others -/
def owns : List Bool → List V → List Addr
  | true :: ks, .ref p :: vs => p :: owns ks vs
  | _ :: ks, _ :: vs => owns ks vs
  | _, _ => []
inductive RvK (K : PySem.W.Frag) (H0 : Hp) (F : AP') (H : Hp) : List Bool → List V → List D → Prop
  | nil : RvK K H0 F H [] [] []
  | val {ks : List Bool} {v : V} {vs : List V} {d : D} {ds : List D} : Rv K F H v d → RvK K H0 F H ks vs ds → RvK K H0 F H (false :: ks) (v :: vs) (d :: ds)
  | own {ks : List Bool} {p : Addr} {vs : List V} {d : D} {ds : List D} : H0 p = none → ¬ F p → OwnAt K F H p d → p ∉ owns ks vs → RvK K H0 F H ks vs ds → RvK K H0 F H (true :: ks) (.ref p :: vs) (d :: ds)
theorem RvK.lower {K : PySem.W.Frag} {H0 H1 H : Hp} {F : AP'} {ks : List Bool} {vs : List V} {ds : List D} (h : RvK K H1 F H ks vs ds) (s : Same H0 H1) : RvK K H0 F H ks vs ds := by
  induction h with
  | nil => exact .nil
  | val r _ ih => exact .val r ih
  | own n f o a _ ih => exact .own (s.free n) f o a ih
theorem RvK.fresh {K : PySem.W.Frag} {H1 H : Hp} {F : AP'} {ks : List Bool} {vs : List V} {ds : List D} (h : RvK K H1 F H ks vs ds) : ∀ p ∈ owns ks vs, H1 p = none := by
  induction h with
  | nil => exact fun p hp => nomatch hp
  | @val ks v vs d ds r _ ih =>
    intro p hp
    have : owns (false :: ks) (v :: vs) = owns ks vs := by cases v <;> rfl
    rw [this] at hp
    exact ih p hp
  | own n f o a _ ih =>
    intro p hp
    rcases List.mem_cons.mp hp with rfl | hp
    · exact n
    · exact ih p hp
def tPK (K : PySem.W.Frag) (ks : List Bool) (m : Env' → Option (List D)) : TA := fun σ H Q => ∃ F env ds, EnvR K F H env σ ∧ m env = some ds ∧ ∀ vs H' F', Ext F H F' H' → RvK K H F' H' ks vs ds → Q vs H'
structure FK (X : Cx) (ks : List Bool) (es : List Expr) (m : Env' → Option (List D)) : Prop where
  pa : PA X es (tPK X.K ks m)
theorem fk_nil : FK X [] [] aNil := ⟨pa_mono pa_nil fun σ H Q ⟨F, env, ds, hE, hm, q⟩ => by
  cases hm
  exact q [] H F (Ext.refl F H) .nil⟩
theorem RvK.ext {K : PySem.W.Frag} {H0 H H' : Hp} {F F' : AP'} {ks : List Bool} {vs : List V} {ds : List D} (h : RvK K H0 F H ks vs ds) : True := trivial
theorem fk_val {e : Expr} {es : List Expr} {ks : List Bool} (ha : FE X e me) (hr : FK X ks es ms) (hs : starEach (e :: es) X.env = (false, eval e X.env) :: starEach es X.env := by rfl) : FK X (false :: ks) (e :: es) (aCons me ms) := ⟨pa_mono (pa_cons ha.pe hr.pa hs) fun σ H Q ⟨F, env, ds, hE, hm, q⟩ => by
  obtain ⟨dx, h1, h2⟩ := bind1 hm
  obtain ⟨xs, h3, rfl⟩ := map1 h2
  exact ⟨F, env, dx, hE, h1, fun x H1 F1 e1 r1 => ⟨F1, env, xs, hE.ext e1, h3, fun ys H2 F2 e2 r2 => q _ _ _ (e1.trans e2) (.val (e2.rv r1) (r2.lower e1.same))⟩⟩⟩
def aConsL (a : Env' → Option (List D)) (r : Env' → Option (List D)) : Env' → Option (List D) := fun env => (a env).bind fun x => (r env).map fun xs => .list x :: xs
theorem fk_own {e : Expr} {es : List Expr} {ks : List Bool} {ml : Env' → Option (List D)} (ha : FF X e ml) (hr : FK X ks es ms) (hs : starEach (e :: es) X.env = (false, eval e X.env) :: starEach es X.env := by rfl) : FK X (true :: ks) (e :: es) (aConsL ml ms) := ⟨pa_mono (pa_cons ha.pe hr.pa hs) fun σ H Q ⟨F, env, ds, hE, hm, q⟩ => by
  obtain ⟨dx, h1, h2⟩ := bind1 hm
  obtain ⟨xs, h3, rfl⟩ := map1 h2
  refine ⟨F, env, dx, hE, h1, fun p vs H1 F1 e1 np nf hp r1 => ⟨F1, env, xs, hE.ext e1, h3, fun ys H2 F2 e2 r2 => ?_⟩⟩
  refine q _ _ _ (e1.trans e2) (.own np (fun f => ?_) ⟨vs, e2.same _ _ hp, e2.rvl r1⟩ (fun z => ?_) (r2.lower e1.same))
  · rcases e2.new p f with z | z
    · exact nf z
    · rw [hp] at z
      exact nomatch z.1
  · have := r2.fresh p z
    rw [hp] at this
    cases this⟩
/-- the slots is get the values ds, by their kinds -/
def putK : List Nat → List Bool → List D → Env' → Env'
  | i :: is, _ :: ks, d :: ds, env => putK is ks ds (env.set i (some d))
  | _, _, _, env => env
def ownK : List Nat → List Bool → List Nat → List Nat
  | i :: is, k :: ks, O => ownK is ks (if k then i :: O.filter (· != i) else O.filter (· != i))
  | _, _, O => O
def putV : List Nat → List V → L2.St → L2.St
  | i :: is, v :: vs, σ => putV is vs (σ.set i (some v))
  | _, _, σ => σ
theorem Rp.putK {K : PySem.W.Frag} {Hb H0 H : Hp} {F0 F : AP'} : ∀ {is : List Nat} {ks : List Bool} {vs : List V} {ds : List D} {O : List Nat} {env : Env'} {σ : L2.St}, RvK K Hb F H ks vs ds → is.length = ks.length → Rp K H0 F0 F O H env σ → (∀ p, Hb p = none → H0 p = none) →
    (∀ p ∈ owns ks vs, ∀ k y, env[k]? = some (some y) → k ∈ O → σ[k]? ≠ some (some (.ref p))) → Rp K H0 F0 F (ownK is ks O) H (FL.putK is ks ds env) (putV is vs σ)
  | [], _, _, _, _, _, _, h, hl, r, _, _ => by
    cases h with
    | nil => exact r
    | _ => cases hl
  | i :: is, _, _, _, O, env, σ, h, hl, r, hb, ap => by
    cases h with
    | nil => cases hl
    | @val ks v vs d ds q t =>
      have ho : owns (false :: ks) (v :: vs) = owns ks vs := by cases v <;> rfl
      rw [ho] at ap
      refine Rp.putK (is := is) (ks := ks) t (by simpa using hl) (r.setV q) hb fun p hp k y h1 h2 => ?_
      obtain ⟨h2, h3⟩ := List.mem_filter.mp h2
      have hne : i ≠ k := fun z => by subst z; simp at h3
      rw [List.getElem?_set_ne hne] at h1 ⊢
      exact ap p hp k y h1 h2
    | @own ks p vs d ds n f o a t =>
      refine Rp.putK (is := is) (ks := ks) t (by simpa using hl) (r.setN (hb p n) f (ap p List.mem_cons_self) o) hb fun p' hp k y h1 h2 => ?_
      by_cases hne : i = k
      · subst hne
        have hil : i < env.length := by
          have := (List.getElem?_eq_some_iff.mp h1).1
          simpa using this
        have hl' := r.len
        rw [List.getElem?_set_self (by omega)]
        intro z
        cases z
        exact a hp
      · rw [List.getElem?_set_ne hne] at h1 ⊢
        refine ap p' (List.mem_cons_of_mem _ hp) k y h1 ?_
        rcases List.mem_cons.mp h2 with z | z
        · exact absurd z.symm hne
        · exact (List.mem_filter.mp z).1
def noLd : List Bool → List D → Bool
  | true :: ks, .list ds :: r => noLs ds && noLd ks r
  | false :: ks, d :: r => noL d && noLd ks r
  | [], [] => true
  | _, _ => false
theorem RvK.noL {K : PySem.W.Frag} {H0 H : Hp} {F F' : AP'} {ks : List Bool} {vs : List V} {ds : List D} (h : RvK K H0 F H ks vs ds) (hf : ∀ a, F' a → F a) : noLd ks ds = true → RvK K H0 F' H ks vs ds := by
  induction h with
  | nil => exact fun _ => .nil
  | val r _ ih =>
    intro hn
    simp only [noLd, Bool.and_eq_true] at hn
    exact .val (r.noL hn.1) (ih hn.2)
  | @own ks p vs d ds n f o a t ih =>
    intro hn
    cases d with
    | list xs =>
      simp only [noLd, Bool.and_eq_true] at hn
      obtain ⟨ws, h1, h2⟩ := o
      exact .own n (fun z => f (hf _ z)) ⟨ws, h1, h2.noL hn.1⟩ a (ih hn.2)
    | _ => exact o.elim
/-- a, b = x, y (the values hold no lists, but the new ones themselves) -/
def sPar (is : List Nat) (ks : List Bool) (ms : Env' → Option (List D)) : SM := fun env => (ms env).bind fun ds => if noLd ks ds = true then some (.nx, putK is ks ds env) else none
theorem par_core {is : List Nat} {ks : List Bool} {D' : Ends} {σ : L2.St} {H : Hp} (hl : is.length = ks.length) (h : tSM X.K O (ownK is ks O) Ol (sPar is ks ms) D' σ H) : tPK X.K ks ms σ H fun vs H1 => D'.nx (putV is vs σ) H1 := by
  obtain ⟨H0, F0, F, env, f, env', r, hm, q⟩ := h
  obtain ⟨ds, h1, h2⟩ := bind1 hm
  split at h2
  · rename_i hn
    cases h2
    exact ⟨_, env, ds, r.all, h1, fun vs H1 F1 e1 rk => q _ _ _ (Rp.putK (rk.noL (fun a f => e1.up a (.inl f)) hn) hl (r.step e1.same) (fun p np => r.ext.same.free np) fun p hp k y g1 g2 => r.apart (rk.fresh p hp) k y g1 g2)⟩
  · cases h2
theorem RvK.len {K : PySem.W.Frag} {H0 H : Hp} {F : AP'} {ks : List Bool} {vs : List V} {ds : List D} (h : RvK K H0 F H ks vs ds) : vs.length = ks.length := by
  induction h with
  | nil => rfl
  | val _ _ ih => simp [ih]
  | own _ _ _ _ _ ih => simp [ih]
/-- what tPK gives has as many values as kinds -/
theorem tPK_len {ks : List Bool} {σ : L2.St} {H : Hp} {Q : List V → Hp → Prop} (h : tPK X.K ks ms σ H Q) : tPK X.K ks ms σ H fun vs H' => vs.length = ks.length ∧ Q vs H' := by
  obtain ⟨F, env, ds, hE, hm, q⟩ := h
  exact ⟨F, env, ds, hE, hm, fun vs H' F' e r => ⟨r.len, q vs H' F' e r⟩⟩
theorem tPK_mono {ks : List Bool} {σ : L2.St} {H : Hp} {Q Q' : List V → Hp → Prop} (h : tPK X.K ks ms σ H Q) (i : ∀ vs H', Q vs H' → Q' vs H') : tPK X.K ks ms σ H Q' := by
  obtain ⟨F, env, ds, hE, hm, q⟩ := h
  exact ⟨F, env, ds, hE, hm, fun vs H' F' e r => i _ _ (q vs H' F' e r)⟩
theorem fs_par2 {i j : Nat} {k l : Bool} (h : PS X st (tPar i j (tPK X.K [k, l] ms))) (hO : ownK [i, j] [k, l] O = O') : FS X O O' Ol st (sPar [i, j] [k, l] ms) := ⟨ps_mono h fun D' σ H hq => by
  subst hO
  refine tPK_mono (tPK_len (par_core rfl hq)) fun vs H' hv => ?_
  obtain ⟨hl, hn⟩ := hv
  match vs, hl with
  | [v, w], _ => exact ⟨v, w, rfl, hn⟩⟩
theorem fs_par3 {i j n : Nat} {k l o : Bool} (h : PS X st (tPar3 i j n (tPK X.K [k, l, o] ms))) (hO : ownK [i, j, n] [k, l, o] O = O') : FS X O O' Ol st (sPar [i, j, n] [k, l, o] ms) := ⟨ps_mono h fun D' σ H hq => by
  subst hO
  refine tPK_mono (tPK_len (par_core rfl hq)) fun vs H' hv => ?_
  obtain ⟨hl, hn⟩ := hv
  match vs, hl with
  | [v, w, u], _ => exact ⟨v, w, u, rfl, hn⟩⟩

/-! ### x op= e -/
def rIp (K : PySem.W.Frag) (f : D → D → Option D) : TIp := fun x y H Q => ∃ F dx dy d, Rv K F H x dx ∧ Rv K F H y dy ∧ f dx dy = some d ∧ ∀ v H' F', Ext F H F' H' → Rv K F' H' v d → Q v H'
def iaddD : D → D → Option D := int2 fun i j => some (.int (i + j))
theorem pd_iadd : PIp X .Add (rIp X.K iaddD) := fun pins s σ H x y v u Q I rx ry q => iop_add (X := X) pins s σ H x y v u Q I rx ry (by
  obtain ⟨F, dx, dy, d, r1, r2, hd, q⟩ := q
  obtain ⟨i, j, rfl, rfl, hd⟩ := int2_some hd
  obtain rfl := r1.int_inv
  obtain rfl := r2.int_inv
  cases hd
  exact ⟨i, j, rfl, rfl, q _ _ _ (Ext.refl F H) (.int _)⟩)
theorem pd_isub : PIp X .Sub (rIp X.K subD) := fun pins s σ H x y v u Q I rx ry q => iop_sub (X := X) pins s σ H x y v u Q I rx ry (by
  obtain ⟨F, dx, dy, d, r1, r2, hd, q⟩ := q
  obtain ⟨i, j, rfl, rfl, hd⟩ := int2_some hd
  obtain rfl := r1.int_inv
  obtain rfl := r2.int_inv
  cases hd
  exact ⟨i, j, rfl, rfl, q _ _ _ (Ext.refl F H) (.int _)⟩)
theorem fs_aug {i : Nat} {f : D → D → Option D} (h : PS X st (tAug i (tP X.K me) (rIp X.K f))) (hO : O.filter (· != i) = O') : FS X O O' Ol st (sSet i (e2 f (eVar i) me)) := ⟨ps_mono h fun D' σ H ⟨H0, F0, F, env, ff, env', r, hm, q⟩ => by
  obtain ⟨d, h1, h2⟩ := bind1 hm
  obtain ⟨dx, dy, h3, h4, h5⟩ := bind2 h1
  split at h2
  · rename_i hn
    cases h2
    subst hO
    have hx : env[i]? = some (some dx) := by
      unfold eVar at h3
      cases z : env[i]? with
      | none => rw [z] at h3; cases h3
      | some o => rw [z] at h3; simpa using h3
    obtain ⟨v, g1, g2⟩ := r.all.at_ i dx hx
    exact ⟨v, g1, _, env, dy, r.all, h4, fun y H1 F1 e1 r1 => ⟨F1, dx, dy, d, e1.rv g2, r1, h5, fun z H2 F2 e2 r2 => q _ _ _ ((r.step (e1.trans e2).same).setV (r2.noL hn))⟩⟩
  · cases h2⟩

/-! ### owned lists change -/
def getO (env : Env') (i : Nat) : Option (List D) := match env[i]? with
  | some (some (.list ds)) => some ds
  | _ => none
theorem getO_some {env : Env'} {i : Nat} {ds : List D} (h : getO env i = some ds) : env[i]? = some (some (.list ds)) := by
  unfold getO at h
  split at h
  · cases h
    assumption
  · cases h
/-- x.append(e) -/
def sApp (i : Nat) (me : Env' → Option D) : SM := fun env => (me env).bind fun d => (getO env i).bind fun ds => if noL d = true ∧ ds.length < 16777216 then some (.nx, env.set i (some (.list (ds ++ [d])))) else none
theorem own_list {K : PySem.W.Frag} {H0 H : Hp} {F0 F : AP'} {env : Env'} {σ : L2.St} {i : Nat} {ds : List D} (r : Rp K H0 F0 F O H env σ) (hi : i ∈ O) (hg : getO env i = some ds) :
    ∃ a vs, σ[i]? = some (some (.ref a)) ∧ H a = some (.lst vs) ∧ RvL K F H vs ds := by
  obtain ⟨a, h1, _, _, h4⟩ := r.own i _ (getO_some hg) hi
  obtain ⟨vs, h5, h6⟩ := h4
  exact ⟨a, vs, h1, h5, h6⟩
theorem Rp.mutL {K : PySem.W.Frag} {H0 H : Hp} {F0 F : AP'} {env : Env'} {σ : L2.St} {i : Nat} {a : Addr} {ds es : List D} {vs ws : List V} (r : Rp K H0 F0 F O H env σ) (hi : i ∈ O) (he : env[i]? = some (some (.list ds))) (hs : σ[i]? = some (some (.ref a))) (ha : H a = some (.lst vs)) (hr : RvL K F H ws es) :
    Rp K H0 F0 F O (upd H a (.lst ws)) (env.set i (some (.list es))) σ :=
  r.mut hi he hs (fun xs z => by rw [ha] at z; cases z) (fun x u z => by rw [ha] at z; cases z) fun H' st h' => ⟨ws, h', RvL.stay st (fun _ f => f) hr⟩
theorem fs_app {i : Nat} (hi : i ∈ O) (h : PS X st (tDrop (tBM X.K "list" rAppend (tVar i) (tCons (tP X.K me) tNil)))) : FS X O O Ol st (sApp i me) := ⟨ps_mono h fun D' σ H ⟨H0, F0, F, env, ff, env', r, hm, q⟩ => by
  obtain ⟨d, h1, h2⟩ := bind1 hm
  obtain ⟨ds, h3, h4⟩ := bind1 h2
  split at h4
  · rename_i hn
    cases h4
    obtain ⟨a, vs, g1, g2, g3⟩ := own_list r hi h3
    have hs := sizeLine_eq
    refine ⟨.ref a, g1, .inl ⟨rfl, vs, .inl (.inl g2)⟩, _, env, d, r.all, h1, fun y H1 F1 e1 r1 => ⟨a, vs, y, rfl, rfl, e1.same _ _ g2, by rw [g3.length]; omega, ?_⟩⟩
    have r2 := r.step e1.same
    obtain ⟨b, ws, k1, k2, k3⟩ := own_list r2 hi h3
    rw [g1] at k1
    cases k1
    rw [e1.same _ _ g2] at k2
    cases k2
    exact q _ _ _ (r2.mutL hi (getO_some h3) g1 (e1.same _ _ g2) (k3.append (.cons (r1.noL hn.1) .nil)))
  · cases h4⟩
/-- .. whose value may hold lists -/
def sAppV (O : List Nat) (i : Nat) (me : Env' → Option D) : SM := fun env => (me (maskE O env)).bind fun d => (getO env i).bind fun ds => if ds.length < 16777216 then some (.nx, env.set i (some (.list (ds ++ [d])))) else none
theorem fs_appV {i : Nat} (hi : i ∈ O) (h : PS X st (tDrop (tBM X.K "list" rAppend (tVar i) (tCons (tP X.K me) tNil)))) : FS X O O Ol st (sAppV O i me) := ⟨ps_mono h fun D' σ H ⟨H0, F0, F, env, ff, env', r, hm, q⟩ => by
  obtain ⟨d, h1, h2⟩ := bind1 hm
  obtain ⟨ds, h3, h4⟩ := bind1 h2
  split at h4
  · rename_i hn
    cases h4
    obtain ⟨a, vs, g1, g2, g3⟩ := own_list r hi h3
    have hs := sizeLine_eq
    refine ⟨.ref a, g1, .inl ⟨rfl, vs, .inl (.inl g2)⟩, _, _, d, r.masked, h1, fun y H1 F1 e1 r1 => ⟨a, vs, y, rfl, rfl, e1.same _ _ g2, by rw [g3.length]; omega, ?_⟩⟩
    have r2 := r.stepF e1
    obtain ⟨b, ws, k1, k2, k3⟩ := own_list r2 hi h3
    rw [g1] at k1
    cases k1
    rw [e1.same _ _ g2] at k2
    cases k2
    exact q _ _ _ (r2.mutL hi (getO_some h3) g1 (e1.same _ _ g2) (k3.append (.cons r1 .nil)))
  · cases h4⟩
/-- x[i] = e -/
def sIx (i : Nat) (mi me : Env' → Option D) : SM := fun env => (me env).bind fun d => (mi env).bind fun k => (getO env i).bind fun ds => match k with
  | .int z => if noL d = true then (ixN ds.length z).map fun j => (.nx, env.set i (some (.list (ds.set j d)))) else none
  | _ => none
theorem fs_ix {i : Nat} {mi : Env' → Option D} (hi : i ∈ O) (h : PS X st (tAsg (tP X.K me) (gSub (tVar i) (tP X.K mi) rSetL))) : FS X O O Ol st (sIx i mi me) := ⟨ps_mono h fun D' σ H ⟨H0, F0, F, env, ff, env', r, hm, q⟩ => by
  obtain ⟨d, h1, h2⟩ := bind1 hm
  obtain ⟨k, h3, h4⟩ := bind1 h2
  obtain ⟨ds, h5, h6⟩ := bind1 h4
  split at h6
  · split at h6
    · rename_i z hn
      obtain ⟨j, h7, h8⟩ := map1 h6
      cases h8
      obtain ⟨a, vs, g1, g2, g3⟩ := own_list r hi h5
      refine ⟨_, env, d, r.all, h1, fun y H1 F1 e1 r1 => ⟨.ref a, g1, F1, env, _, r.all.ext e1, h3, fun w H2 F2 e2 r2 => ?_⟩⟩
      obtain rfl := r2.int_inv
      have rr := r.step (e1.trans e2).same
      obtain ⟨b, ws, k1, k2, k3⟩ := own_list rr hi h5
      rw [g1] at k1
      cases k1
      have hl := k3.length
      exact ⟨a, ws, _, j, rfl, rfl, k2, by rw [hl]; exact h7, q _ _ _ (rr.mutL hi (getO_some h5) g1 k2 (k3.set j ((e2.rv r1).noL hn)))⟩
    · cases h6
  · cases h6⟩
/-- x = y.pop() -/
def sPop (i j : Nat) : SM := fun env => (getO env j).bind fun ds => match ds.getLast? with
  | some d => some (.nx, (env.set j (some (.list ds.dropLast))).set i (some d))
  | none => none
end
end FL

set_option Elab.async false
set_option linter.all false
set_option maxRecDepth 100000
/-! FLn: what draws from the script: expressions and statements by what holds of every outcome. -/
namespace FL
open PySem PySem.Spec PyProof.Rows L2

/-- the script: where it stands, where it is tracked (at the row's own place if it is a thing of the module), its object, its numbers -/
structure Sc where
  a : Addr
  h : Addr
  o : Obj
  ns : List Int
def KL (K : PySem.W.Frag) (a : Addr) (xs : List V) : Prop := ∃ (o : Obj) (its : Array Value) (n : Nat), K.lookup a = some o ∧ o.cls = .type "list" ∧ o.dict = none ∧ o.data = .seq its n ∧ its.size ≤ sizeLine ∧ Vals xs its.toList
/-- the row of a law's draws at r: the script at S0.h, its place, the mixed number, a cell's rest -/
structure RowOk (K : PySem.W.Frag) (S0 : Sc) (H : Hp) (r : Addr) : Prop where
  script : (S0.h = r ∧ KL K S0.a (S0.ns.map V.int)) ∨ (S0.h = S0.a ∧ S0.h ≠ r ∧ H S0.h = some (.frz S0.o (.lst (S0.ns.map V.int))))
  at_ : ∃ (i seed rest : Int), H r = some (.lst [.ref S0.a, .int i, .int seed, .int rest]) ∧ 0 ≤ i ∧ 0 ≤ seed ∧ seed < 2147483647
structure RpN (K : PySem.W.Frag) (S0 : Sc) (r : Addr) (H0 : Hp) (F0 F : AP') (O : List Nat) (H : Hp) (env : Env') (σ : L2.St) : Prop where
  rp : Rp K H0 F0 F O H env σ
  row : RowOk K S0 H r
  n0 : H0 r = none
  n1 : H0 S0.h = none
  nf : ¬ F r
  nf1 : ¬ F S0.h
  ap : ∀ i d, env[i]? = some (some d) → i ∈ O → σ[i]? ≠ some (some (.ref r))
abbrev NW := Addr → Env' → (D → Env' → Prop) → Prop
abbrev NWs := Addr → Env' → (List D → Env' → Prop) → Prop
abbrev NS := Addr → Env' → (Fl → Env' → Prop) → Prop

section
variable {K : PySem.W.Frag} {S0 : Sc} {r : Addr} {H0 H H' : Hp} {F0 F F' : AP'} {O : List Nat} {env : Env'} {σ : L2.St}
/-- the row and the script as part of what stays -/
def rowed (S0 : Sc) (r : Addr) (H0 H : Hp) : Hp := fun a => if a = r ∨ a = S0.h then H a else H0 a
theorem RpN.ns {i : Nat} {d : D} (h : RpN K S0 r H0 F0 F O H env σ) (he : env[i]? = some (some d)) (hi : i ∈ O) : σ[i]? ≠ some (some (.ref S0.h)) := fun z => by
  obtain ⟨a, h1, h2, h3, h4⟩ := h.rp.own i d he hi
  rw [z] at h1
  cases h1
  rcases h.row.script with ⟨hs, _⟩ | ⟨_, _, hs⟩
  · rw [hs] at z
    exact h.ap i d he hi z
  cases d with
  | list ds =>
    obtain ⟨vs, h5, _⟩ := h4
    rw [hs] at h5
    cases h5
  | _ => exact h4
theorem RpN.rowed (h : RpN K S0 r H0 F0 F O H env σ) : Rp K (FL.rowed S0 r H0 H) F0 F O H env σ := by
  refine ⟨⟨fun a o e => ?_, h.rp.ext.up, fun a f => ?_⟩, fun a f => ?_, h.rp.len, h.rp.val, fun i d he hi => ?_, h.rp.sep⟩
  · unfold FL.rowed at e
    split at e
    · exact e
    · exact h.rp.ext.same a o e
  · rcases h.rp.ext.new a f with z | z
    · exact .inl z
    · refine .inr ⟨?_, z.2⟩
      unfold FL.rowed
      rw [if_neg]
      · exact z.1
      · rintro (rfl | rfl)
        · exact h.nf f
        · exact h.nf1 f
  · unfold FL.rowed
    rw [if_neg]
    · exact h.rp.fd a f
    · rintro (rfl | rfl)
      · exact h.nf (h.rp.ext.up _ f)
      · exact h.nf1 (h.rp.ext.up _ f)
  · obtain ⟨a, h1, h2, h3, h4⟩ := h.rp.own i d he hi
    refine ⟨a, h1, h2, ?_, h4⟩
    unfold FL.rowed
    rw [if_neg]
    · exact h3
    · rintro (rfl | rfl)
      · exact h.ap i d he hi h1
      · exact h.ns he hi h1
theorem RowOk.same (h : RowOk K S0 H r) (hr : H' r = H r) (ha : H' S0.h = H S0.h) : RowOk K S0 H' r := ⟨by rw [ha]; exact h.script, by rw [hr]; exact h.at_⟩
theorem RowOk.sq (h : RowOk K S0 H r) : SqL K H S0.a (S0.ns.map V.int) := by
  rcases h.script with ⟨_, hs⟩ | ⟨h1, _, hs⟩
  · exact .inr hs
  · rw [h1] at hs
    exact .inl (.inr ⟨_, hs⟩)
theorem RowOk.somes (h : RowOk K S0 H r) : H r ≠ none ∧ H S0.h ≠ none := by
  obtain ⟨i, s, t, h2, _⟩ := h.at_
  refine ⟨by rw [h2]; exact (fun z => nomatch z), ?_⟩
  rcases h.script with ⟨hs, _⟩ | ⟨_, _, hs⟩
  · rw [hs, h2]
    exact (fun z => nomatch z)
  · rw [hs]
    exact (fun z => nomatch z)
/-- back from a pure statement -/
theorem RpN.back {O' : List Nat} {env' : Env'} {σ' : L2.St} (h : RpN K S0 r H0 F0 F O H env σ) (p : Rp K (FL.rowed S0 r H0 H) F0 F' O' H' env' σ') : RpN K S0 r H0 F0 F' O' H' env' σ' := by
  have hr : FL.rowed S0 r H0 H r = H r := by unfold FL.rowed; rw [if_pos (.inl rfl)]
  have ha : FL.rowed S0 r H0 H S0.h = H S0.h := by unfold FL.rowed; rw [if_pos (.inr rfl)]
  obtain ⟨s1, s2⟩ := h.row.somes
  have er : H' r = H r := (same_at p.ext.same (by rw [hr]; exact s1)).trans hr
  have ea : H' S0.h = H S0.h := (same_at p.ext.same (by rw [ha]; exact s2)).trans ha
  have sm : Same H0 (FL.rowed S0 r H0 H) := fun a o e => by
    unfold FL.rowed
    split
    · exact h.rp.ext.same a o e
    · exact e
  refine ⟨⟨⟨sm.trans p.ext.same, p.ext.up, fun a f => ?_⟩, h.rp.fd, p.len, p.val, fun i d he hi => ?_, p.sep⟩, h.row.same er ea, h.n0, h.n1, fun f => ?_, fun f => ?_, fun i d he hi z => ?_⟩
  · rcases p.ext.new a f with z | z
    · exact .inl z
    · exact .inr ⟨sm.free z.1, z.2⟩
  · obtain ⟨a, h1, h2, h3, h4⟩ := p.own i d he hi
    exact ⟨a, h1, h2, sm.free h3, h4⟩
  · rcases p.ext.new r f with z | z
    · exact h.nf (h.rp.ext.up r z)
    · rw [hr] at z
      exact s1 z.1
  · rcases p.ext.new S0.h f with z | z
    · exact h.nf1 (h.rp.ext.up S0.h z)
    · rw [ha] at z
      exact s2 z.1
  · obtain ⟨a, h1, h2, h3, h4⟩ := p.own i d he hi
    rw [z] at h1
    cases h1
    rw [hr] at h3
    exact s1 h3
/-- behind a pure step -/
theorem RpN.step (h : RpN K S0 r H0 F0 F O H env σ) (e : Same H H') : RpN K S0 r H0 F0 F O H' env σ := h.back (h.rowed.step e)
theorem RpN.stepF (h : RpN K S0 r H0 F0 F O H env σ) (e : Ext F H F' H') : RpN K S0 r H0 F0 F' O H' env σ := h.back (h.rowed.stepF e)
/-- the row alone has changed -/
theorem RpN.drawn (h : RpN K S0 r H0 F0 F O H env σ) (k : ∀ a o, a ≠ r → H a = some o → H' a = some o) (ro : RowOk K S0 H' r) : RpN K S0 r H0 F0 F O H' env σ ∧ Stay F H H' := by
  obtain ⟨i, sd, rs, hr, _⟩ := h.row.at_
  have st : Stay F H H' := ⟨fun a o f e => k a o (fun z => by subst z; exact h.nf f) e, fun a xs e => k a _ (fun z => by subst z; rw [hr] at e; cases e) e, fun a o u e => k a _ (fun z => by subst z; rw [hr] at e; cases e) e⟩
  refine ⟨⟨⟨⟨fun a o e => ?_, h.rp.ext.up, fun a f => ?_⟩, h.rp.fd, h.rp.len, fun i d he hi => ?_, fun i d he hi => ?_, h.rp.sep⟩, ro, h.n0, h.n1, h.nf, h.nf1, h.ap⟩, st⟩
  · exact k a o (fun z => by subst z; rw [h.n0] at e; cases e) (h.rp.ext.same a o e)
  · rcases h.rp.ext.new a f with z | z
    · exact .inl z
    · refine .inr ⟨z.1, fun w => ?_⟩
      cases q : H a with
      | none => exact z.2 q
      | some o =>
        have := k a o (fun y => by subst y; exact h.nf f) q
        rw [w] at this
        cases this
  · obtain ⟨v, h1, h2⟩ := h.rp.val i d he hi
    exact ⟨v, h1, Rv.stay st (fun _ f => f) h2⟩
  · obtain ⟨a, h1, h2, h3, h4⟩ := h.rp.own i d he hi
    have hne : a ≠ r := fun z => by
      subst z
      exact h.ap i d he hi h1
    refine ⟨a, h1, h2, h3, h4.stay st (fun _ f => f) ?_⟩
    cases q : H a with
    | none => exact absurd q h4.some
    | some o => exact k a o hne q
end

/-! ### judgements -/
def tNE (K : PySem.W.Frag) (O : List Nat) (w : NW) : TE := fun σ H Q => ∃ S0 r H0 F0 F env, RpN K S0 r H0 F0 F O H env σ ∧ ∃ P : D → Env' → Prop, w r env P ∧ ∀ d env' v H' F', P d env' → RpN K S0 r H0 F0 F' O H' env' σ → Stay F H H' → (∀ a, F a → F' a) → Rv K F' H' v d → Q v H'
def tNA (K : PySem.W.Frag) (O : List Nat) (w : NWs) : TA := fun σ H Q => ∃ S0 r H0 F0 F env, RpN K S0 r H0 F0 F O H env σ ∧ ∃ P : List D → Env' → Prop, w r env P ∧ ∀ ds env' vs H' F', P ds env' → RpN K S0 r H0 F0 F' O H' env' σ → Stay F H H' → (∀ a, F a → F' a) → RvL K F' H' vs ds → Q vs H'
def EndN (K : PySem.W.Frag) (S0 : Sc) (r : Addr) (H0 : Hp) (F0 : AP') (O' Ol : List Nat) (D' : Ends) : Fl → Env' → Prop
  | .nx, env' => ∀ σ' H' F', RpN K S0 r H0 F0 F' O' H' env' σ' → D'.nx σ' H'
  | .rt d, _ => ∀ v H' F', Ext F0 H0 F' H' → RowOk K S0 H' r → ¬ F' r → ¬ F' S0.h → Rv K F' H' v d → D'.rt v H'
  | .bk, env' => ∀ σ' H' F', RpN K S0 r H0 F0 F' Ol H' env' σ' → D'.bk σ' H'
  | .ct, env' => ∀ σ' H' F', RpN K S0 r H0 F0 F' Ol H' env' σ' → D'.ct σ' H'
def tNS (K : PySem.W.Frag) (O O' Ol : List Nat) (w : NS) : TS := fun D' σ H => ∃ S0 r H0 F0 F env, RpN K S0 r H0 F0 F O H env σ ∧ w r env (EndN K S0 r H0 F0 O' Ol D')
structure XE (X : Cx) (O : List Nat) (e : Expr) (w : NW) : Prop where
  pe : PE X e (tNE X.K O w)
structure XA (X : Cx) (O : List Nat) (es : List Expr) (w : NWs) : Prop where
  pa : PA X es (tNA X.K O w)
structure XS (X : Cx) (O O' Ol : List Nat) (st : Stmt) (w : NS) : Prop where
  ps : PS X st (tNS X.K O O' Ol w)
structure XB (X : Cx) (O O' Ol : List Nat) (sts : List Stmt) (w : NS) : Prop where
  pss : PSs X sts (tNS X.K O O' Ol w)

/-! ### the words -/
/-- a pure expression, its value without lists -/
def nP (m : Env' → Option D) : NW := fun _ env Q => ∃ d, m env = some d ∧ noL d = true ∧ Q d env
/-- a pure expression that reads no owned slot -/
def nV (O : List Nat) (m : Env' → Option D) : NW := fun _ env Q => ∃ d, m (maskE O env) = some d ∧ Q d env
def nNil : NWs := fun _ env Q => Q [] env
def nCons (a : NW) (b : NWs) : NWs := fun r env Q => a r env fun d env1 => b r env1 fun ds env2 => Q (d :: ds) env2
def nTup (a : NWs) : NW := fun r env Q => a r env fun ds env' => ds.length ≤ 16777216 ∧ Q (.tuple ds) env'
def n2 (f : D → D → Option D) (a b : NW) : NW := fun r env Q => a r env fun x env1 => b r env1 fun y env2 => ∃ d, f x y = some d ∧ Q d env2
def n1 (f : D → Option D) (a : NW) : NW := fun r env Q => a r env fun x env1 => ∃ d, f x = some d ∧ Q d env1
def nF (f : List D → Option D) (a : NWs) : NW := fun r env Q => a r env fun xs env1 => ∃ d, f xs = some d ∧ Q d env1
/-- a def that draws: arity n, of its outcomes g holds -/
def nCall (n : Nat) (g : Addr → List D → (D → Prop) → Prop) (a : NWs) : NW := fun r env Q => a r env fun ds env' => ds.length = n ∧ g r ds fun d => Q d env'
def MonoE (w : NW) : Prop := ∀ r env (P Q : D → Env' → Prop), (∀ d e, P d e → Q d e) → w r env P → w r env Q

section
variable {X : Cx} {O O' O1 Ol : List Nat} {a b e : Expr} {es : List Expr} {w u : NW} {ws : NWs} {m : Env' → Option D} {pos : Pos}
theorem xe_p (h : FE X e m) : XE X O e (nP m) := ⟨pe_mono h.pe fun σ H Q ⟨S0, r, H0, F0, F, env, R, P, ⟨d, h1, h2, h3⟩, q⟩ =>
  ⟨_, env, d, R.rp.all, h1, fun v H' F' e' r' => q d env v H' F h3 (R.step e'.same) (.of_same e'.same) (fun _ f => f) (r'.noL h2)⟩⟩
theorem xe_v (h : FE X e m) : XE X O e (nV O m) := ⟨pe_mono h.pe fun σ H Q ⟨S0, r, H0, F0, F, env, R, P, ⟨d, h1, h3⟩, q⟩ =>
  ⟨F, _, d, R.rp.masked, h1, fun v H' F' e' r' => q d env v H' F' h3 (R.stepF e') (.of_same e'.same) e'.up r'⟩⟩
theorem xa_nil : XA X O [] nNil := ⟨pa_mono pa_nil fun σ H Q ⟨S0, r, H0, F0, F, env, R, P, h, q⟩ => q [] env [] H F h R Stay.refl (fun _ f => f) .nil⟩
theorem xa_cons (ha : XE X O e w) (hr : XA X O es ws) (hs : starEach (e :: es) X.env = (false, eval e X.env) :: starEach es X.env := by rfl) : XA X O (e :: es) (nCons w ws) := ⟨pa_mono (pa_cons ha.pe hr.pa hs) fun σ H Q ⟨S0, r, H0, F0, F, env, R, P, h, q⟩ =>
  ⟨S0, r, H0, F0, F, env, R, _, h, fun d env1 v H1 F1 h1 R1 s1 u1 r1 => ⟨S0, r, H0, F0, F1, env1, R1, _, h1, fun ds env2 vs H2 F2 h2 R2 s2 u2 r2 => q _ env2 _ H2 F2 h2 R2 (s1.trans (s2.mono u1)) (fun a f => u2 a (u1 a f)) (.cons (Rv.stay s2 u2 r1) r2)⟩⟩⟩
theorem xe_tup {x1} (h : XA X O es ws) : XE X O (.Tuple es x1 pos) (nTup ws) := ⟨pe_mono (pe_tup h.pa) fun σ H Q ⟨S0, r, H0, F0, F, env, R, P, h, q⟩ =>
  ⟨S0, r, H0, F0, F, env, R, _, h, fun ds env1 vs H1 F1 ⟨hl, h1⟩ R1 s1 u1 r1 => ⟨by rw [r1.length, sizeLine_eq]; exact hl, fun p np =>
    q _ env1 _ _ F1 h1 (R1.stepF (Ext.upd np)) (s1.trans (.of_same (Ext.upd (F := F1) np).same)) u1 (.tup (.inl (.inl upd_same)) ((Ext.upd np).rvl r1))⟩⟩⟩
theorem xe_op {op : Operator} {f : D → D → Option D} (ho : OpR X (binaryOp op) (rD2 X.K f)) (ha : XE X O a w) (hb : XE X O b u) : XE X O (.BinOp a op b pos) (n2 f w u) := ⟨pe_mono (pe_op ho ha.pe hb.pe) fun σ H Q ⟨S0, r, H0, F0, F, env, R, P, h, q⟩ =>
  ⟨S0, r, H0, F0, F, env, R, _, h, fun d env1 v H1 F1 h1 R1 s1 u1 r1 => ⟨S0, r, H0, F0, F1, env1, R1, _, h1, fun d2 env2 v2 H2 F2 ⟨z, h2, h3⟩ R2 s2 u2 r2 =>
    ⟨F2, d, d2, z, Rv.stay s2 u2 r1, r2, h2, fun v3 H3 F3 e3 r3 => q z env2 v3 H3 F3 h3 (R2.stepF e3) ((s1.trans (s2.mono u1)).trans (.of_same e3.same)) (fun a f => e3.up a (u2 a (u1 a f))) r3⟩⟩⟩⟩
theorem xe_cmp {op : CmpOp} {f : D → D → Option D} (ho : OpR X (compareOp op) (rD2 X.K f)) (ha : XE X O a w) (hb : XE X O b u) (hm : behindInMarks op b = false) : XE X O (.Compare a [op] [b] pos) (n2 f w u) := ⟨pe_mono (pe_cmpR ho ha.pe hb.pe hm) fun σ H Q ⟨S0, r, H0, F0, F, env, R, P, h, q⟩ =>
  ⟨S0, r, H0, F0, F, env, R, _, h, fun d env1 v H1 F1 h1 R1 s1 u1 r1 => ⟨S0, r, H0, F0, F1, env1, R1, _, h1, fun d2 env2 v2 H2 F2 ⟨z, h2, h3⟩ R2 s2 u2 r2 =>
    ⟨F2, d, d2, z, Rv.stay s2 u2 r1, r2, h2, fun v3 H3 F3 e3 r3 => q z env2 v3 H3 F3 h3 (R2.stepF e3) ((s1.trans (s2.mono u1)).trans (.of_same e3.same)) (fun a f => e3.up a (u2 a (u1 a f))) r3⟩⟩⟩⟩
theorem xe_ix (ha : XE X O a w) (hb : XE X O b u) (hs : PlainIx b) : XE X O (.Subscript a b pos) (n2 ixD w u) := ⟨pe_mono (pe_ix od_ix ha.pe hb.pe hs) fun σ H Q ⟨S0, r, H0, F0, F, env, R, P, h, q⟩ =>
  ⟨S0, r, H0, F0, F, env, R, _, h, fun d env1 v H1 F1 h1 R1 s1 u1 r1 => ⟨S0, r, H0, F0, F1, env1, R1, _, h1, fun d2 env2 v2 H2 F2 ⟨z, h2, h3⟩ R2 s2 u2 r2 =>
    ⟨F2, d, d2, z, Rv.stay s2 u2 r1, r2, h2, fun v3 H3 F3 e3 r3 => q z env2 v3 H3 F3 h3 (R2.stepF e3) ((s1.trans (s2.mono u1)).trans (.of_same e3.same)) (fun a f => e3.up a (u2 a (u1 a f))) r3⟩⟩⟩⟩
variable {f : List D → Option D} {id T : String} {x : Str} {p : Pos}
theorem xe_callB (hc : CallR X (.builtin id) (rDL X.K f)) (hg : Gl X x) (hm : X.mg x = none) (hv : bootBuiltins x = some (.builtin id)) (ha : XA X O (e :: es) ws) (hn : x ≠ "__name__" := by decide) (hdb : (x == ("__debug__" : Str)) = false := by decide)
    (he : starEach (e :: es) X.env = (false, eval e X.env) :: starEach es X.env := by rfl) (hpl : (backTo pos (starEach es X.env)).any (·.1) = false := by rfl) : XE X O (.Call (.Name x p) (e :: es) [] pos) (nF f ws) := ⟨pe_mono (pe_callB hc hg hm hv ha.pa hn hdb he hpl) fun σ H Q ⟨S0, r, H0, F0, F, env, R, P, h, q⟩ =>
  ⟨S0, r, H0, F0, F, env, R, _, h, fun ds env1 vs H1 F1 ⟨z, h1, h2⟩ R1 s1 u1 r1 => ⟨F1, ds, z, r1, h1, fun v3 H3 F3 e3 r3 => q z env1 v3 H3 F3 h2 (R1.stepF e3) (s1.trans (.of_same e3.same)) (fun a f => e3.up a (u1 a f)) r3⟩⟩⟩
theorem xe_callTy (hc : CallR X (.type T) (rDL X.K f)) (hg : Gl X x) (hm : X.mg x = none) (hv : bootBuiltins x = some (.type T)) (ha : XA X O (e :: es) ws) (hn : x ≠ "__name__" := by decide) (hdb : (x == ("__debug__" : Str)) = false := by decide)
    (he : starEach (e :: es) X.env = (false, eval e X.env) :: starEach es X.env := by rfl) (hpl : (backTo pos (starEach es X.env)).any (·.1) = false := by rfl) : XE X O (.Call (.Name x p) (e :: es) [] pos) (nF f ws) := ⟨pe_mono (pe_callTy hc hg hm hv ha.pa hn hdb he hpl) fun σ H Q ⟨S0, r, H0, F0, F, env, R, P, h, q⟩ =>
  ⟨S0, r, H0, F0, F, env, R, _, h, fun ds env1 vs H1 F1 ⟨z, h1, h2⟩ R1 s1 u1 r1 => ⟨F1, ds, z, r1, h1, fun v3 H3 F3 e3 r3 => q z env1 v3 H3 F3 h2 (R1.stepF e3) (s1.trans (.of_same e3.same)) (fun a f => e3.up a (u1 a f)) r3⟩⟩⟩
/-- a def that changes nothing, called with what was drawn -/
theorem xe_call {k n : Nat} {fa : Addr} {fd : FuncData} {ps : List Str} {g : List D → Option D} (Fn : FnOk X.prog X.w X.K X.mg X.base CX0 k fa fd ps (spF X.K n g)) (hr : Room k X.A) (hg : Gl X x) (hm : X.mg x = some (.ref fa)) (hk : PySem.W.keepIn X.K (.ref fa) = true) (hb : Binds X.K fd ps [])
    (ha : XA X O (e :: es) ws) (hdb : (x == ("__debug__" : Str)) = false := by decide) (he : starEach (e :: es) X.env = (false, eval e X.env) :: starEach es X.env := by rfl) (hpl : (backTo pos (starEach es X.env)).any (·.1) = false := by rfl) :
    XE X O (.Call (.Name x p) (e :: es) [] pos) (nF (fun ds => if ds.length = n then g ds else none) ws) := ⟨pe_mono (pe_call Fn hr hg hm hk hb .nil pass0 ha.pa hdb he hpl) fun σ H Q ⟨S0, r, H0, F0, F, env, R, P, h, q⟩ =>
  ⟨S0, r, H0, F0, F, env, R, _, h, fun ds env1 vs H1 F1 ⟨z, h1, h2⟩ R1 s1 u1 r1 => by
    replace h1 : (if ds.length = n then g ds else none) = some z := h1
    split at h1
    · rename_i hl
      exact ⟨by rw [List.append_nil, r1.length, hl], F1, ds, z, R1.rp.ext.fd R1.rp.fd, by rw [List.append_nil]; exact r1, h1, fun v3 H3 F3 e3 r3 => q z env1 v3 H3 F3 h2 (R1.stepF e3) (s1.trans (.of_same e3.same)) (fun a f => e3.up a (u1 a f)) r3⟩
    · cases h1⟩⟩

/-! ### statements -/
/-- a pure statement -/
def nS (m : SM) : NS := fun _ env P => ∃ f env', m env = some (f, env') ∧ P f env'
def nSeq (a b : NS) : NS := fun r env P => a r env fun f e => match f with
  | .nx => b r e P
  | f => P f e
/-- x = e: the value may be anything that stays -/
def nSet (i : Nat) (w : NW) : NS := fun r env P => w r env fun d e => P .nx (e.set i (some d))
def nRet (w : NW) : NS := fun r env P => w r env fun d e => P (.rt d) e
def nIf (c : Env' → Option Bool) (a b : NS) : NS := fun r env P => ∃ k, c env = some k ∧ (k = true → a r env P) ∧ (k = false → b r env P)
def nPar (is : List Nat) (w : NWs) : NS := fun r env P => w r env fun ds e => ds.length = is.length ∧ P .nx (putK is (is.map fun _ => false) ds e)
variable {st : Stmt} {sts rest : List Stmt} {n n' : NS} {sm : SM}
theorem xs_s (h : FS X O O' Ol st sm) : XS X O O' Ol st (nS sm) := ⟨ps_mono h.ps fun D' σ H ⟨S0, r, H0, F0, F, env, R, f, env', hm, q⟩ => by
  refine ⟨_, F0, F, env, f, env', R.rowed, hm, ?_⟩
  cases f with
  | nx => exact fun σ' H' F' r' => q σ' H' F' (R.back r')
  | bk => exact fun σ' H' F' r' => q σ' H' F' (R.back r')
  | ct => exact fun σ' H' F' r' => q σ' H' F' (R.back r')
  | rt d =>
    refine fun v H' F' e' r' => ?_
    have hr : rowed S0 r H0 H r = H r := by unfold rowed; rw [if_pos (.inl rfl)]
    have ha : rowed S0 r H0 H S0.h = H S0.h := by unfold rowed; rw [if_pos (.inr rfl)]
    obtain ⟨s1, s2⟩ := R.row.somes
    have sm : Same H0 (rowed S0 r H0 H) := fun a o e => by
      unfold rowed
      split
      · exact R.rp.ext.same a o e
      · exact e
    refine q v H' F' ⟨sm.trans e'.same, e'.up, fun a f => ?_⟩ (R.row.same ((same_at e'.same (by rw [hr]; exact s1)).trans hr) ((same_at e'.same (by rw [ha]; exact s2)).trans ha)) (fun f => ?_) (fun f => ?_) r'
    · rcases e'.new a f with z | z
      · exact .inl z
      · exact .inr ⟨sm.free z.1, z.2⟩
    · rcases e'.new r f with z | z
      · exact R.nf (R.rp.ext.up r z)
      · rw [hr] at z
        exact s1 z.1
    · rcases e'.new S0.h f with z | z
      · exact R.nf1 (R.rp.ext.up S0.h z)
      · rw [ha] at z
        exact s2 z.1⟩
theorem xb_nil : XB X O O Ol [] (nS sSkip) := ⟨pss_mono pss_nil fun D' σ H ⟨S0, r, H0, F0, F, env, R, f, env', hm, q⟩ => by
  cases hm
  exact q σ H F R⟩
theorem xb_one (h : XS X O O' Ol st n) : XB X O O' Ol [st] n := ⟨pss_one h.ps⟩
def MonoS (n : NS) : Prop := ∀ r env (P Q : Fl → Env' → Prop), (∀ f e, P f e → Q f e) → n r env P → n r env Q
theorem xb_cons (hM : MonoS n) (h1 : XS X O O1 Ol st n) (h2 : XB X O1 O' Ol rest n') : XB X O O' Ol (st :: rest) (nSeq n n') := ⟨pss_mono (pss_cons h1.ps h2.pss) fun D' σ H ⟨S0, r, H0, F0, F, env, R, h⟩ => by
  refine ⟨S0, r, H0, F0, F, env, R, hM r env _ _ (fun f e hq => ?_) h⟩
  cases f with
  | nx => exact fun σ1 H1 F1 R1 => ⟨S0, r, H0, F0, F1, e, R1, hq⟩
  | rt d => exact hq
  | bk => exact hq
  | ct => exact hq⟩
theorem xs_set' {i : Nat} (h : PS X st (tAsg (tNE X.K O w) (gName i))) (hO : O.filter (· != i) = O') : XS X O O' Ol st (nSet i w) := ⟨ps_mono h fun D' σ H ⟨S0, r, H0, F0, F, env, R, h⟩ => by
  subst hO
  refine ⟨S0, r, H0, F0, F, env, R, _, h, fun d env' v H' F' hq R' s u rv => hq _ _ F' ?_⟩
  refine ⟨R'.rp.setV rv, R'.row, R'.n0, R'.n1, R'.nf, R'.nf1, fun j x he hj z => ?_⟩
  obtain ⟨hj, hne⟩ := List.mem_filter.mp hj
  have hij : i ≠ j := fun z => by subst z; simp at hne
  rw [List.getElem?_set_ne hij] at he z
  exact R'.ap j x he hj z⟩
theorem xs_ret (h : XE X O e w) : XS X O O' Ol (.Return (some e) pos) (nRet w) := ⟨ps_mono (ps_ret h.pe) fun D' σ H ⟨S0, r, H0, F0, F, env, R, h⟩ =>
  ⟨S0, r, H0, F0, F, env, R, _, h, fun d env' v H' F' hq R' s u rv => hq v H' F' R'.rp.ext R'.row R'.nf R'.nf1 rv⟩⟩
theorem xs_if {c : Expr} {ss tt : List Stmt} {mt : Env' → Option Bool} (hc : FT X c mt) (ha : XB X O O' Ol ss n) (hb : XB X O O' Ol tt n') : XS X O O' Ol (.If c ss tt pos) (nIf mt n n') := ⟨ps_mono (ps_if hc.pt ha.pss hb.pss) fun D' σ H ⟨S0, r, H0, F0, F, env, R, k, h1, h2, h3⟩ => by
  refine ⟨_, env, k, R.rp.all, h1, fun H1 F1 e1 => ?_⟩
  cases k with
  | true => exact iteT ⟨S0, r, H0, F0, F, env, R.step e1.same, h2 rfl⟩
  | false => exact iteF ⟨S0, r, H0, F0, F, env, R.step e1.same, h3 rfl⟩⟩
/-- several names, values that stay -/
theorem RpN.put {K : PySem.W.Frag} {S0 : Sc} {r : Addr} {H0 H : Hp} {F0 F : AP'} : ∀ {is : List Nat} {vs : List V} {ds : List D} {O : List Nat} {env : Env'} {σ : L2.St}, RvL K F H vs ds → is.length = ds.length → RpN K S0 r H0 F0 F O H env σ → (∀ i ∈ is, i ∉ O) →
    RpN K S0 r H0 F0 F O H (putK is (is.map fun _ => false) ds env) (putV is vs σ)
  | [], _, _, _, _, _, h, hl, R, _ => by
    cases h with
    | nil => exact R
    | _ => cases hl
  | i :: is, _, _, O, env, σ, h, hl, R, hi => by
    cases h with
    | nil => cases hl
    | @cons v vs d ds q t =>
      have hO : O.filter (· != i) = O := List.filter_eq_self.mpr fun j hj => by
        have := hi i List.mem_cons_self
        simp only [bne_iff_ne, ne_eq]
        rintro rfl
        exact this hj
      have h1 := R.rp.setV (i := i) q
      rw [hO] at h1
      refine RpN.put (is := is) t (by simpa using hl) ⟨h1, R.row, R.n0, R.n1, R.nf, R.nf1, fun j x he hj z => ?_⟩ fun j hj => hi j (List.mem_cons_of_mem _ hj)
      have hij : i ≠ j := fun z => by
        subst z
        exact hi i List.mem_cons_self hj
      rw [List.getElem?_set_ne hij] at he z
      exact R.ap j x he hj z
theorem xs_par2 {i j : Nat} (h : PS X st (tPar i j (tNA X.K O ws))) (hi : i ∉ O ∧ j ∉ O) : XS X O O Ol st (nPar [i, j] ws) := ⟨ps_mono h fun D' σ H ⟨S0, r, H0, F0, F, env, R, h⟩ =>
  ⟨S0, r, H0, F0, F, env, R, _, h, fun ds env' vs H' F' ⟨hl, hq⟩ R' s u rv => by
    match vs, rv.length, hl with
    | [v, v2], h1, h2 =>
      refine ⟨v, v2, rfl, hq _ _ F' (RpN.put (is := [i, j]) rv h2.symm R' fun k hk => ?_)⟩
      rcases List.mem_cons.mp hk with rfl | hk
      · exact hi.1
      · rcases List.mem_cons.mp hk with rfl | hk
        · exact hi.2
        · exact nomatch hk
    | [], h1, h2 => rw [h2] at h1; cases h1
    | [_], h1, h2 => rw [h2] at h1; cases h1
    | _ :: _ :: _ :: _, h1, h2 => rw [h2] at h1; simp at h1⟩⟩
theorem xs_par3 {i j k : Nat} (h : PS X st (tPar3 i j k (tNA X.K O ws))) (hi : i ∉ O ∧ j ∉ O ∧ k ∉ O) : XS X O O Ol st (nPar [i, j, k] ws) := ⟨ps_mono h fun D' σ H ⟨S0, r, H0, F0, F, env, R, h⟩ =>
  ⟨S0, r, H0, F0, F, env, R, _, h, fun ds env' vs H' F' ⟨hl, hq⟩ R' s u rv => by
    match vs, rv.length, hl with
    | [v, v2, v3], h1, h2 =>
      refine ⟨v, v2, v3, rfl, hq _ _ F' (RpN.put (is := [i, j, k]) rv h2.symm R' fun m hm => ?_)⟩
      rcases List.mem_cons.mp hm with rfl | hm
      · exact hi.1
      · rcases List.mem_cons.mp hm with rfl | hm
        · exact hi.2.1
        · rcases List.mem_cons.mp hm with rfl | hm
          · exact hi.2.2
          · exact nomatch hm
    | [], h1, h2 => rw [h2] at h1; cases h1
    | [_], h1, h2 => rw [h2] at h1; cases h1
    | [_, _], h1, h2 => rw [h2] at h1; cases h1
    | _ :: _ :: _ :: _ :: _, h1, h2 => rw [h2] at h1; simp at h1⟩⟩
end

/-! ### a def that draws -/
def spN (K : PySem.W.Frag) (n : Nat) (g : Addr → List D → (D → Prop) → Prop) : Sp := fun vs H Q _ => vs.length = n ∧ ∃ S0 r F ds P, Fd F H ∧ ¬ F r ∧ ¬ F S0.h ∧ RowOk K S0 H r ∧ RvL K F H vs ds ∧ g r ds P ∧
  ∀ d v H' F', P d → (∀ a o, a ≠ r → H a = some o → H' a = some o) → RowOk K S0 H' r → (∀ a, F a → F' a) → (∀ a, F' a → F a ∨ (H a = none ∧ H' a ≠ none)) → Rv K F' H' v d → Q v H'
theorem xe_nCall {X : Cx} {O : List Nat} {k n : Nat} {fa : Addr} {fd : FuncData} {ps : List Str} {g : Addr → List D → (D → Prop) → Prop} {e : Expr} {es : List Expr} {ws : NWs} {x : Str} {p pos : Pos} (Fn : FnOk X.prog X.w X.K X.mg X.base CX0 k fa fd ps (spN X.K n g)) (hr : Room k X.A) (hg : Gl X x) (hm : X.mg x = some (.ref fa)) (hk : PySem.W.keepIn X.K (.ref fa) = true) (hb : Binds X.K fd ps [])
    (ha : XA X O (e :: es) ws) (hdb : (x == ("__debug__" : Str)) = false := by decide) (he : starEach (e :: es) X.env = (false, eval e X.env) :: starEach es X.env := by rfl) (hpl : (backTo pos (starEach es X.env)).any (·.1) = false := by rfl) :
    XE X O (.Call (.Name x p) (e :: es) [] pos) (nCall n g ws) := ⟨pe_mono (pe_call Fn hr hg hm hk hb .nil pass0 ha.pa hdb he hpl) fun σ H Q ⟨S0, r, H0, F0, F, env, R, P, h, q⟩ =>
  ⟨S0, r, H0, F0, F, env, R, _, h, fun ds env1 vs H1 F1 ⟨hl, hg1⟩ R1 s1 u1 r1 => by
    refine ⟨by rw [List.append_nil, r1.length, hl], S0, r, F1, ds, _, R1.rp.ext.fd R1.rp.fd, R1.nf, R1.nf1, R1.row, by rw [List.append_nil]; exact r1, hg1, fun d v H' F' hP kk ro up nw rv => ?_⟩
    obtain ⟨R2, s2⟩ := R1.drawn kk ro
    have e2 : Ext F1 H' F' H' → RpN X.K S0 r H0 F0 F' _ H' env1 σ := fun e => R2.stepF e
    -- what is new and frozen is not the row, nor an owned object
    have R3 : RpN X.K S0 r H0 F0 F' O H' env1 σ := by
      obtain ⟨s3, s4⟩ := R1.row.somes
      refine ⟨⟨⟨R2.rp.ext.same, fun a f => up a (R2.rp.ext.up a f), fun a f => ?_⟩, R2.rp.fd, R2.rp.len, fun i d he hi => ?_, fun i d he hi => ?_, R2.rp.sep⟩, R2.row, R2.n0, R2.n1, fun f => ?_, fun f => ?_, R2.ap⟩
      · rcases nw a f with z | z
        · exact R2.rp.ext.new a z
        · exact .inr ⟨R1.rp.ext.same.free z.1, z.2⟩
      · obtain ⟨w, h1, h2⟩ := R2.rp.val i d he hi
        exact ⟨w, h1, h2.up up⟩
      · obtain ⟨a, h1, h2, h3, h4⟩ := R2.rp.own i d he hi
        refine ⟨a, h1, fun f => ?_, h3, h4.stay Stay.refl up rfl⟩
        rcases nw a f with z | z
        · exact h2 z
        · obtain ⟨b, b1, _, _, b4⟩ := R1.rp.own i d he hi
          rw [h1] at b1
          cases b1
          exact b4.some z.1
      · rcases nw r f with z | z
        · exact R1.nf z
        · exact s3 z.1
      · rcases nw S0.h f with z | z
        · exact R1.nf1 z
        · exact s4 z.1
    exact q d env1 v H' F' hP R3 (s1.trans (s2.mono u1)) (fun a f => up a (u1 a f)) rv⟩⟩
section
variable {P : Program} {w : World} {K : PySem.W.Frag} {mg : Str → Option Value} {base : Heap}
def runN (n : Nat) (m : NS) : Addr → List D → (D → Prop) → Prop := fun r ds Q => m r (ds.map some ++ List.replicate (n - ds.length) none) fun f _ => match f with
  | .nx => Q .none
  | .rt d => Q d
  | _ => False
theorem fnN_ok {x qual : Str} {st : Stmt} {f : Addr} {fd : FuncData} {N ps : List Str} {k : Nat} {m : NS} {O' : List Nat} (F : Fun K x qual st f fd) (S : FnScope N ps (defScope st)) (hM : MonoS m)
    (hbody : ∀ (cdv : Value) (A : Around) (outer : List Env) (s : Shared) (H : Hp) (E : XK), Room k (A.deeper (envOfC qual (defScope st) s.heap.objs.size f cdv)) → XB (cxOf CX0 P w K mg base N qual (defScope st) f cdv A outer s H E).nox [] O' [] (defBody st) m) :
    FnOk P w K mg base CX0 (k + 1) f fd ps (spN K ps.length (runN N.length m)) := by
  refine F.ok S (fun vs H Q E h => h.1) (fun cdv A outer s H vs Q E hr h => ?_)
  obtain ⟨hl, S0, r, F, ds, Pd, hfd, nf, nf1, row, rl, hf, q⟩ := h
  refine ⟨_, (hbody cdv A outer s H E hr).pss, ?_⟩
  have hle := rl.length
  have hNl : ps.length ≤ N.length := by
    have := congrArg List.length S.pre
    rw [List.length_take] at this
    omega
  have er : ∀ a, F a → (fun a => if a = r ∨ a = S0.h then none else H a) a ≠ none := fun a f => by
    show (if a = r ∨ a = S0.h then none else H a) ≠ none
    rw [if_neg]
    · exact hfd a f
    · rintro (rfl | rfl)
      · exact nf f
      · exact nf1 f
  refine ⟨S0, r, fun a => if a = r ∨ a = S0.h then none else H a, F, F, _, ⟨⟨⟨fun a o e => ?_, fun _ f => f, fun _ f => .inl f⟩, er, by unfold L2.start; simp [hle], fun i e he hi => ?_, fun i e he hi => absurd hi (List.not_mem_nil), fun i j e e' a hi => absurd hi (List.not_mem_nil)⟩, row, by simp, by simp, nf, nf1, fun i d he hi => absurd hi (List.not_mem_nil)⟩, hM r _ _ _ (fun f e hq => ?_) hf⟩
  · have e' : (if a = r ∨ a = S0.h then none else H a) = some o := e
    split at e'
    · cases e'
    · exact e'
  · have hil : i < ds.length := by
      by_cases z : i < ds.length
      · exact z
      · rw [List.getElem?_append_right (by simp; omega)] at he
        rw [List.getElem?_replicate] at he
        split at he <;> cases he
    rw [List.getElem?_append_left (by simpa using hil), List.getElem?_map, List.getElem?_eq_getElem hil] at he
    simp only [Option.map_some, Option.some.injEq] at he
    subst he
    obtain ⟨v, h3, h4⟩ := rl.getD (List.getElem?_eq_getElem hil)
    refine ⟨v, ?_, h4⟩
    unfold L2.start
    rw [List.getElem?_append_left (by simp; omega), List.getElem?_map, h3]
    rfl
  · have fin : ∀ d v H' F', Pd d → Ext F (fun a => if a = r ∨ a = S0.h then none else H a) F' H' → RowOk K S0 H' r → ¬ F' r → ¬ F' S0.h → Rv K F' H' v d → Q v H' := fun d v H' F' hP e ro n1 n2 rv => by
      refine q d v H' F' hP (fun a o ne ha => ?_) ro e.up (fun a f => ?_) rv
      · by_cases hs : a = S0.h
        · subst hs
          rcases ro.script with ⟨h1, _⟩ | ⟨_, _, h1⟩
          · exact absurd h1 ne
          · rcases row.script with ⟨h2, _⟩ | ⟨_, _, h2⟩
            · exact absurd h2 ne
            · rw [h2] at ha
              rw [h1, ← ha]
        · exact e.same a o (by show (if a = r ∨ a = S0.h then none else H a) = some o; rw [if_neg (by rintro (z | z); exact ne z; exact hs z)]; exact ha)
      · rcases e.new a f with z | z
        · exact .inl z
        · refine .inr ⟨?_, z.2⟩
          have z1 : (if a = r ∨ a = S0.h then none else H a) = none := z.1
          rw [if_neg (by rintro (w | w); subst w; exact n1 f; subst w; exact n2 f)] at z1
          exact z1
    cases f with
    | nx => exact fun σ' H' F' R => fin _ .non H' F' hq R.rp.ext R.row R.nf R.nf1 .non
    | rt d => exact fun v H' F' e ro n1 n2 rv => fin d v H' F' hq e ro n1 n2 rv
    | bk => exact hq.elim
    | ct => exact hq.elim
end
end FL

set_option Elab.async false
set_option linter.all false
set_option maxRecDepth 100000
/-! FLf: what the generator's terms lean on besides. -/
namespace FL
open PySem PySem.Spec PyProof.Rows L2

/-! ### a target's slots -/
theorem si_n {i : Nat} {vs : List Nat} (h : i ∈ vs) : SlotsIn (gN i) vs := fun d bs hb x hx => by
  cases hb
  rcases List.mem_cons.mp hx with rfl | hx
  · exact h
  · exact nomatch hx
def SlotsInL (b : List D → Option (List (Nat × D))) (vs : List Nat) : Prop := ∀ d bs, b d = some bs → ∀ x ∈ bs, x.1 ∈ vs
theorem si_nil {vs : List Nat} : SlotsInL gsNil vs := fun d bs hb x hx => by
  unfold gsNil at hb
  split at hb
  · cases hb; exact nomatch hx
  · cases hb
theorem si_cons {a : D → Option (List (Nat × D))} {r : List D → Option (List (Nat × D))} {vs : List Nat} (h1 : SlotsIn a vs) (h2 : SlotsInL r vs) : SlotsInL (gsCons a r) vs := fun d bs hb x hx => by
  unfold gsCons at hb
  split at hb
  · obtain ⟨u, h3, h4⟩ := bind1 hb
    obtain ⟨y, h5, rfl⟩ := map1 h4
    rcases List.mem_append.mp hx with hx | hx
    · exact h1 _ _ h3 x hx
    · exact h2 _ _ h5 x hx
  · cases hb
theorem si_t {n : Nat} {r : List D → Option (List (Nat × D))} {vs : List Nat} (h : SlotsInL r vs) : SlotsIn (gT n r) vs := fun d bs hb x hx => by
  unfold gT at hb
  split at hb
  · split at hb
    · exact h _ _ hb x hx
    · cases hb
  · cases hb
theorem so {b : D → Option (List (Nat × D))} {vs O : List Nat} (h : SlotsIn b vs) (hd : (vs.all fun v => !O.contains v) = true) : Slots b O := fun d bs hb x hx => by
  have h1 := h d bs hb x hx
  have h2 := List.all_eq_true.mp hd _ h1
  simpa using h2

/-! ### stores -/
def aCap (a : Env' → Option (List D)) : Env' → Option (List D) := fun env => (a env).bind capD
def aF (f : List D → Option (List D)) (a : Env' → Option (List D)) : Env' → Option (List D) := fun env => (a env).bind f
/-- x = e where nothing is owned -/
def sLet (i : Nat) (m : Env' → Option D) : SM := fun env => (m env).map fun d => (.nx, env.set i (some d))
theorem mask_nil (env : Env') : maskE [] env = env := by
  unfold maskE
  refine List.ext_getElem? fun i => ?_
  rw [List.getElem?_mapIdx]
  cases env[i]? <;> simp
section
variable {X : Cx} {O O' Ol : List Nat} {st : Stmt} {me : Env' → Option D} {ml : Env' → Option (List D)}
theorem fs_let' {i : Nat} (h : PS X st (tAsg (tP X.K me) (gName i))) : FS X [] [] Ol st (sLet i me) := by
  have h1 := fs_setV' (O := []) (O' := []) (Ol := Ol) h rfl
  have e : sSetV [] i me = sLet i me := by
    funext env
    unfold sSetV sLet
    rw [mask_nil]
  rw [e] at h1
  exact h1
/-- an expression whose value is dropped -/
def sDrop (m : Env' → Option D) : SM := fun env => (m env).map fun _ => (.nx, env)
theorem fs_expr (h : PS X st (tDrop (tP X.K me))) : FS X O O Ol st (sDrop me) := ⟨ps_mono h fun D' σ H ⟨H0, F0, F, env, f, env', r, hm, q⟩ => by
  obtain ⟨d, h1, h2⟩ := map1 hm
  cases h2
  exact ⟨_, env, d, r.all, h1, fun v H1 F1 e1 r1 => q _ _ _ (r.step e1.same)⟩⟩
theorem ps_ff {g : TG} (h : PS X st (tAsg (tPF X.K ml) g)) : PS X st (tAsg (tP X.K (eLst ml)) g) := ps_mono h fun D' σ H hq => by
  obtain ⟨F, env, d, hE, hm, q⟩ := hq
  obtain ⟨ds, h1, rfl⟩ := map1 hm
  exact ⟨F, env, ds, hE, h1, fun p vs H1 F1 e1 np nf hp r => q _ _ (Fz F1 p) (e1.fz np (by rw [hp]; exact fun z => nomatch z)) (.lst Fz.at hp (r.up Fz.sub))⟩
theorem fs_move {i j : Nat} (hj : j ∈ O) (hij : i ≠ j) (h : PS X st (tAsg (tVar j) (gName i))) (hO : i :: O.filter (fun x => x != i && x != j) = O' := by rfl) : FS X O O' Ol st (sMove i j) := ⟨ps_mono h fun D' σ H ⟨H0, F0, F, env, f, env', r, hm, q⟩ => by
  unfold sMove at hm
  split at hm
  · rename_i hi
    obtain ⟨d, h1, h2⟩ := map1 hm
    cases h2
    subst hO
    have he : env[j]? = some (some d) := by
      cases z : env[j]? with
      | none => rw [z] at h1; cases h1
      | some o => rw [z] at h1; simpa using h1
    obtain ⟨a, g1, _⟩ := r.own j d he hj
    exact ⟨.ref a, g1, q _ _ _ (r.move hj he g1 hij hi)⟩
  · cases hm⟩
variable {elt tg iter : Expr} {ifs : List Expr} {scope : Scope} {own : List (Str × Nat)} {pos spos : Pos} {mi : Env' → Option (List D)} {b : D → Option (List (Nat × D))} {mt : Env' → Option Bool}
/-- y = [..], y a local -/
theorem ps_comp {i : Nat} {y : Str} {py : Pos} (hc : X.calm = true) (hN : X.N.Nodup) (hy : X.N[i]? = some y) (hyl : X.env.scope.names.lookup y = some .local)
    (hsw : swapsWith (.ListComp elt [⟨tg, iter, ifs, 0⟩] scope pos) (some (.Name y py)) spos.line X.env = pure true) (hi : FI X tg iter mi) (ok : BlkOk X.N X.env.scope scope own) (hb : SlotsIn b (own.map (·.2)))
    (hg : ∀ (s : Shared) (H : Hp) (C : Addr) (cl : List (Str × Addr)) (fp : List Addr), FG (X.blk s H scope (compEnvC scope cl C X.env) fp) tg b) (ht : ∀ (s : Shared) (H : Hp) (C : Addr) (cl : List (Str × Addr)) (fp : List Addr), FTs (X.blk s H scope (compEnvC scope cl C X.env) fp) ifs mt)
    (he : ∀ (s : Shared) (H : Hp) (C : Addr) (cl : List (Str × Addr)) (fp : List Addr), FE (X.blk s H scope (compEnvC scope cl C X.env) fp) elt me) (hs : ∀ x, foldedSetIterable iter X.env x = pure x := by intro _; rfl) :
    PS X (.Assign [.Name y py] (.ListComp elt [⟨tg, iter, ifs, 0⟩] scope pos) spos) (tAsg (tPF X.K (eComp (own.map (·.2)) mi b mt me)) (gName i)) :=
  ps_mono (ps_setLc hc hN hy hyl hsw hi.pi ok (fun s H C cl fp => (hg s H C cl fp).pg) (fun s H C cl fp => (ht s H C cl fp).pt) (fun s H C cl fp => (he s H C cl fp).pe) hs) fun D' σ H hq => comp_imp hb hq

/-! ### a list or a tuple is walked -/
def iSeq (K : PySem.W.Frag) (tl : TE) : TI := fun σ H R => tl σ H fun x H1 => ∃ a, x = .ref a ∧ ((∃ xs, SqL K H1 a xs) ∧ R (Itl K a) H1 ∨ (∃ xs, SqT K H1 a xs) ∧ R (Itt K a) H1)
theorem pi_seq {l : Expr} {tl : TE} (hl : PE X l tl) : PI X tg l (iSeq X.K tl) := by
  refine ⟨fun pins s σ H R I h => ?_⟩
  refine thn (hl.run pins s σ H _ I h) fun v s1 ⟨x, H1, I1, r1, q1⟩ => ?_
  obtain ⟨a, e, ⟨⟨xs, hq⟩, q⟩ | ⟨⟨xs, hq⟩, q⟩⟩ := q1
  · subst e
    cases r1
    obtain ⟨its, rv, p, hz⟩ := I1.list hq
    refine wpAny_pyIter_list p.isList ?_
    refine ⟨s1.heap.objs.size, [s1.heap.objs.size], _, _, H1, rfl, I1.kept (t' := s1.toks) fun b o e => Heap.get?_push_of_some _ e, turn_list a _, ⟨_, Heap.get?_push_size _ rfl, rfl, rfl⟩, fun b hb => ?_, q⟩
    have e : b = s1.heap.objs.size := by simpa using hb
    subst e
    exact I1.fpOk (Nat.le_refl _) (I1.hok.fresh (Nat.le_refl _))
  · subst e
    cases r1
    obtain ⟨its, rv, p, hz⟩ := I1.tuple hq
    refine wpAny_pyIter_tuple (show s1.heap.IsTuple a its.toArray from p) ?_
    refine ⟨s1.heap.objs.size, [s1.heap.objs.size], _, _, H1, rfl, I1.kept (t' := s1.toks) fun b o e => Heap.get?_push_of_some _ e, turn_tuple a _, ⟨_, Heap.get?_push_size _ rfl, rfl, rfl⟩, fun b hb => ?_, q⟩
    have e : b = s1.heap.objs.size := by simpa using hb
    subst e
    exact I1.fpOk (Nat.le_refl _) (I1.hok.fresh (Nat.le_refl _))
theorem fi_seq {e : Expr} (h : FE X e me) : FI X tg e (i1 seqD me) := ⟨pi_mono (pi_seq h.pe) fun σ H R ⟨F, env, ds, hE, hm, q⟩ => by
  obtain ⟨d, h1, h2⟩ := bind1 hm
  refine ⟨F, env, d, hE, h1, fun v H1 F1 e1 r1 => ?_⟩
  unfold seqD at h2
  split at h2
  · cases h2
    obtain ⟨a, xs, rfl, hs, rl⟩ := r1.tup_inv
    exact ⟨a, rfl, .inr ⟨⟨xs, hs⟩, q _ _ _ e1 (itd_tup hs rl)⟩⟩
  · cases h2
    obtain ⟨a, xs, rfl, f, hs, rl⟩ := r1.lst_inv
    exact ⟨a, rfl, .inl ⟨⟨xs, .inl (.inl hs)⟩, q _ _ _ e1 (itd_list f hs rl)⟩⟩
  · cases h2⟩
variable {body : List Stmt} {m : SM}
theorem fs_for0 (hp : PassesOwn (model X.prog X.w) X.A X.env X.xe) (hc : X.calm = true) (hi : FI X tg iter mi) (hg : FG X tg b) (hbs : Slots b []) (hb : FB X [] [] [] body m)
    (hs : ∀ x, foldedSetIterable iter X.env x = pure x := by intro _; rfl) : FS X [] [] Ol (.For tg iter body [] pos) (sForR mi b m) := by
  have h1 := fs_for (Ol := Ol) (pos := pos) hp hc hi hg hbs hb hs
  have e : sFor [] mi b m = sForR mi b m := by
    funext env
    unfold sFor sForR
    rw [mask_nil]
  rw [e] at h1
  exact h1
end
def powD : D → D → Option D := int2 fun i j => if 0 ≤ j ∧ j ≤ 1000000 ∧ i.natAbs < 2 ^ 64 then some (.int (i ^ j.toNat)) else none
theorem od_pow {X : Cx} : OpR X (binaryOp .Pow) (rD2 X.K powD) := op2I op_pow fun i j d h => by
  split at h
  · rename_i hc
    cases h
    exact ⟨hc, fun _ _ => .int _⟩
  · cases h
theorem hu65 {k : Nat} {A : Around} (r : Room k A) : A.units + 65 < cLine := by
  have := r.un
  omega

/-! ### isinstance, by a table -/
def isiT (n b i s t l : Bool) : D → Option D
  | .none => some (.bool n)
  | .bool _ => some (.bool b)
  | .int _ => some (.bool i)
  | .str _ => some (.bool s)
  | .tuple _ => some (.bool t)
  | .list _ => some (.bool l)
  | .dict _ => none
def isiInt : D → Option D := isiT false true true false false false
def isiBool : D → Option D := isiT false true false false false false
def isiStr : D → Option D := isiT false false false true false false
def isiTuple : D → Option D := isiT false false false false true false
def isiList : D → Option D := isiT false false false false false true
theorem isi_eq {T : String} {n b i s t l : Bool} (h : kitB "NoneType" T = some n ∧ kitB "bool" T = some b ∧ kitB "int" T = some i ∧ kitB "str" T = some s ∧ kitB "tuple" T = some t ∧ kitB "list" T = some l) : isiD T = isiT n b i s t l := by
  obtain ⟨h1, h2, h3, h4, h5, h6⟩ := h
  funext d
  unfold isiD isiT
  cases d <;> simp [h1, h2, h3, h4, h5, h6]
theorem isi_int : isiD "int" = isiInt := isi_eq (by decide +kernel)
theorem isi_bool : isiD "bool" = isiBool := isi_eq (by decide +kernel)
theorem isi_str : isiD "str" = isiStr := isi_eq (by decide +kernel)
theorem isi_tuple : isiD "tuple" = isiTuple := isi_eq (by decide +kernel)
theorem isi_list : isiD "list" = isiList := isi_eq (by decide +kernel)
theorem fe_cast {X : Cx} {e : Expr} {f g : D → Option D} {m : Env' → Option D} (h : f = g) (q : FE X e (e1 f m)) : FE X e (e1 g m) := h ▸ q

/-! ### monotone words -/
theorem mono_s {m : SM} : MonoS (nS m) := fun r env P Q h ⟨f, e, h1, h2⟩ => ⟨f, e, h1, h f e h2⟩
theorem mono_set {i : Nat} {w : NW} (h : MonoE w) : MonoS (nSet i w) := fun r env P Q hq hw => h r env _ _ (fun d e q => hq _ _ q) hw
def MonoA (w : NWs) : Prop := ∀ r env (P Q : List D → Env' → Prop), (∀ d e, P d e → Q d e) → w r env P → w r env Q
theorem mono_par {is : List Nat} {w : NWs} (h : MonoA w) : MonoS (nPar is w) := fun r env P Q hq hw => h r env _ _ (fun d e q => ⟨q.1, hq _ _ q.2⟩) hw
theorem mono_ret {w : NW} (h : MonoE w) : MonoS (nRet w) := fun r env P Q hq hw => h r env _ _ (fun d e q => hq _ _ q) hw
theorem mono_seq {a b : NS} (ha : MonoS a) (hb : MonoS b) : MonoS (nSeq a b) := fun r env P Q hq hw => ha r env _ _ (fun f e q => by
  cases f with
  | nx => exact hb r e P Q hq q
  | rt d => exact hq _ _ q
  | bk => exact hq _ _ q
  | ct => exact hq _ _ q) hw
theorem mono_if {c : Env' → Option Bool} {a b : NS} (ha : MonoS a) (hb : MonoS b) : MonoS (nIf c a b) := fun r env P Q hq ⟨k, h1, h2, h3⟩ => ⟨k, h1, fun h => ha r env P Q hq (h2 h), fun h => hb r env P Q hq (h3 h)⟩
theorem mono_p {m : Env' → Option D} : MonoE (nP m) := fun r env P Q h ⟨d, h1, h2, h3⟩ => ⟨d, h1, h2, h _ _ h3⟩
theorem mono_v {O : List Nat} {m : Env' → Option D} : MonoE (nV O m) := fun r env P Q h ⟨d, h1, h3⟩ => ⟨d, h1, h _ _ h3⟩
theorem mono_nil : MonoA nNil := fun r env P Q h q => h _ _ q
theorem mono_cons {a : NW} {b : NWs} (ha : MonoE a) (hb : MonoA b) : MonoA (nCons a b) := fun r env P Q h q => ha r env _ _ (fun d e q => hb r e _ _ (fun ds e q => h _ _ q) q) q
theorem mono_tup {a : NWs} (ha : MonoA a) : MonoE (nTup a) := fun r env P Q h q => ha r env _ _ (fun ds e q => ⟨q.1, h _ _ q.2⟩) q
theorem mono_2 {f : D → D → Option D} {a b : NW} (ha : MonoE a) (hb : MonoE b) : MonoE (n2 f a b) := fun r env P Q h q => ha r env _ _ (fun d e q => hb r e _ _ (fun d2 e2 ⟨z, q1, q2⟩ => ⟨z, q1, h _ _ q2⟩) q) q
theorem mono_F {f : List D → Option D} {a : NWs} (ha : MonoA a) : MonoE (nF f a) := fun r env P Q h q => ha r env _ _ (fun ds e ⟨z, q1, q2⟩ => ⟨z, q1, h _ _ q2⟩) q
def MonoG (g : Addr → List D → (D → Prop) → Prop) : Prop := ∀ r ds (P Q : D → Prop), (∀ d, P d → Q d) → g r ds P → g r ds Q
theorem mono_call {n : Nat} {g : Addr → List D → (D → Prop) → Prop} {a : NWs} (hg : MonoG g) (ha : MonoA a) : MonoE (nCall n g a) := fun r env P Q h q => ha r env _ _ (fun ds e q => ⟨q.1, hg r ds _ _ (fun d q => h _ _ q) q.2⟩) q
theorem mono_run {n : Nat} {m : NS} (h : MonoS m) : MonoG (runN n m) := fun r ds P Q hq hw => h r _ _ _ (fun f e q => by
  cases f with
  | nx => exact hq _ q
  | rt d => exact hq _ q
  | bk => exact q
  | ct => exact q) hw

/-- a pure expression where nothing is owned -/
def nV0 (m : Env' → Option D) : NW := fun _ env Q => ∃ d, m env = some d ∧ Q d env
theorem mono_v0 {m : Env' → Option D} : MonoE (nV0 m) := fun r env P Q h ⟨d, h1, h3⟩ => ⟨d, h1, h _ _ h3⟩
theorem xe_v0 {X : Cx} {e : Expr} {m : Env' → Option D} (h : FE X e m) : XE X [] e (nV0 m) := by
  have h1 := xe_v (O := []) h
  have e : nV [] m = nV0 m := by
    funext r env Q
    unfold nV nV0
    rw [mask_nil]
  rw [e] at h1
  exact h1

/-- a, b = e, e draws -/
def nUnp (w : NW) (b : D → Option (List (Nat × D))) : NS := fun r env P => w r env fun d e => ∃ bs, b d = some bs ∧ P .nx (setAll e bs)
theorem mono_unp {w : NW} {b : D → Option (List (Nat × D))} (h : MonoE w) : MonoS (nUnp w b) := fun r env P Q hq hw => h r env _ _ (fun d e ⟨bs, q1, q2⟩ => ⟨bs, q1, hq _ _ q2⟩) hw
theorem RpN.sets {K : PySem.W.Frag} {S0 : Sc} {r : Addr} {H0 H : Hp} {F0 F : AP'} {O : List Nat} {env : Env'} {σ σ' : L2.St} {bs : List (Nat × D)} (R : RpN K S0 r H0 F0 F O H env σ) (s : Sets K F H σ bs σ') (hb : ∀ b ∈ bs, b.1 ∉ O) : RpN K S0 r H0 F0 F O H (setAll env bs) σ' := by
  refine ⟨s.rp R.rp hb, R.row, R.n0, R.n1, R.nf, R.nf1, ?_⟩
  have ap := R.ap
  clear R
  induction s generalizing env with
  | nil => exact ap
  | @cons σ σ' i d v bs rv _ ih =>
    refine ih (fun b h => hb b (List.mem_cons_of_mem _ h)) fun j x he hj z => ?_
    have hij : i ≠ j := fun z => by
      subst z
      exact hb _ List.mem_cons_self hj
    rw [List.getElem?_set_ne hij] at he z
    exact ap j x he hj z
theorem xs_unp {X : Cx} {O Ol : List Nat} {st : Stmt} {w : NW} {b : D → Option (List (Nat × D))} (h : PS X st (tAsg (tNE X.K O w) (tGD X.K b))) (hb : Slots b O) : XS X O O Ol st (nUnp w b) := ⟨ps_mono h fun D' σ H ⟨S0, r, H0, F0, F, env, R, h⟩ =>
  ⟨S0, r, H0, F0, F, env, R, _, h, fun d env' v H' F' ⟨bs, h1, hq⟩ R' s u rv => ⟨F', d, bs, rv, h1, fun σ' ss => hq _ _ F' (R'.sets ss (hb d bs h1))⟩⟩⟩

/-- a block that draws nothing -/
theorem xb_s {X : Cx} {O O' Ol : List Nat} {sts : List Stmt} {sm : SM} (h : FB X O O' Ol sts sm) : XB X O O' Ol sts (nS sm) := ⟨pss_mono h.pss fun D' σ H ⟨S0, r, H0, F0, F, env, R, f, env', hm, q⟩ => by
  refine ⟨_, F0, F, env, f, env', R.rowed, hm, ?_⟩
  cases f with
  | nx => exact fun σ' H' F' r' => q σ' H' F' (R.back r')
  | bk => exact fun σ' H' F' r' => q σ' H' F' (R.back r')
  | ct => exact fun σ' H' F' r' => q σ' H' F' (R.back r')
  | rt d =>
    refine fun v H' F' e' r' => ?_
    have hr : rowed S0 r H0 H r = H r := by unfold rowed; rw [if_pos (.inl rfl)]
    have ha : rowed S0 r H0 H S0.h = H S0.h := by unfold rowed; rw [if_pos (.inr rfl)]
    obtain ⟨s1, s2⟩ := R.row.somes
    have sm : Same H0 (rowed S0 r H0 H) := fun a o e => by
      unfold rowed
      split
      · exact R.rp.ext.same a o e
      · exact e
    refine q v H' F' ⟨sm.trans e'.same, e'.up, fun a f => ?_⟩ (R.row.same ((same_at e'.same (by rw [hr]; exact s1)).trans hr) ((same_at e'.same (by rw [ha]; exact s2)).trans ha)) (fun f => ?_) (fun f => ?_) r'
    · rcases e'.new a f with z | z
      · exact .inl z
      · exact .inr ⟨sm.free z.1, z.2⟩
    · rcases e'.new r f with z | z
      · exact R.nf (R.rp.ext.up r z)
      · rw [hr] at z
        exact s1 z.1
    · rcases e'.new S0.h f with z | z
      · exact R.nf1 (R.rp.ext.up S0.h z)
      · rw [ha] at z
        exact s2 z.1⟩

/-- the block hands back True -/
def yes : Option (Fl × Env') → Bool
  | some (.rt (.bool true), _) => true
  | _ => false
theorem yes_some {x : Option (Fl × Env')} (h : yes x = true) : ∃ f env', x = some (f, env') ∧ f = .rt (.bool true) := by
  unfold yes at h
  split at h
  · exact ⟨_, _, rfl, rfl⟩
  · cases h

/-! ### the draw -/
/-- any number below many -/
def gTaken (r : Addr) (ds : List D) (P : D → Prop) : Prop := ∃ m : Int, ds = [hnd r, .int m] ∧ 0 < m ∧ m < 1073741824 ∧ ∀ d : Int, 0 ≤ d → d < m → P (.int d)
theorem mono_taken : MonoG gTaken := fun r ds P Q h ⟨m, h1, h2, h3, h4⟩ => ⟨m, h1, h2, h3, fun d h5 h6 => h _ (h4 d h5 h6)⟩

def tTkI (K : PySem.W.Frag) (k : Int) : TE := tOp (rIxL K) (tVar 0) (tC (.int k))
theorem taken_core {K : PySem.W.Frag} {H : Hp} {Q : VK} {r : Addr} {m : Int} {S0 : Sc} {F : AP'} {P : D → Prop} (nf : ¬ F r) (nf1 : ¬ F S0.h) (row : RowOk K S0 H r) (m0 : 0 < m) (m1 : m < 1073741824) (hP : ∀ d : Int, 0 ≤ d → d < m → P (.int d))
    (q : ∀ d v H' F', P d → (∀ a o, a ≠ r → H a = some o → H' a = some o) → RowOk K S0 H' r → (∀ a, F a → F' a) → (∀ a, F' a → F a ∨ (H a = none ∧ H' a ≠ none)) → Rv K F' H' v d → Q v H') :
    ∀ (d : Int) (i' seed' rest' : Int), 0 ≤ d → d < m → 0 ≤ i' → 0 ≤ seed' → seed' < 2147483647 → ∀ H', (∀ a o, a ≠ r → H a = some o → H' a = some o) → H' r = some (.lst [.ref S0.a, .int i', .int seed', .int rest']) → Q (.int d) H' := fun d i' seed' rest' h1 h2 h3 h4 h5 H' k1 k3 => by
  refine q (.int d) (.int d) H' F (hP d h1 h2) k1 ⟨?_, i', seed', rest', k3, h3, h4, h5⟩ (fun _ f => f) (fun _ f => .inl f) (.int d)
  rcases row.script with z | ⟨z1, z2, z3⟩
  · exact .inl z
  · exact .inr ⟨z1, z2, k1 _ _ z2 z3⟩
theorem taken_mod {m : Int} (m0 : 0 < m) (z : Int) : 0 ≤ z % m ∧ z % m < m := ⟨Int.emod_nonneg z (by omega), Int.emod_lt_of_pos z m0⟩
theorem taken_div {m : Int} (m0 : 0 < m) (m1 : m < 1073741824) (z : Int) : CDivW z m := ⟨m0, by
  by_cases w : m.natAbs = 0
  · rw [w]; decide
  · have := (Nat.log2_lt w).mpr (show m.natAbs < 2 ^ 31 by omega)
    omega⟩
theorem taken_mul {z : Int} (h1 : 0 ≤ z) (h2 : z < 2147483647) : CMulW z 48271 := by
  have : z.natAbs.log2 ≤ 31 := by
    by_cases w : z.natAbs = 0
    · rw [w]; decide
    · have := (Nat.log2_lt w).mpr (show z.natAbs < 2 ^ 32 by omega)
      omega
  have e : (48271 : Int).natAbs.log2 = 15 := by decide
  show z.natAbs.log2 + (48271 : Int).natAbs.log2 < 1000000
  omega
theorem taken_sq {K : PySem.W.Frag} {H : Hp} {r : Addr} {S0 : Sc} (row : RowOk K S0 H r) : ∀ H', (∀ a o, a ≠ r → H a = some o → H' a = some o) → SqL K H' S0.a (S0.ns.map V.int) := fun H' k => by
  rcases row.script with ⟨_, z⟩ | ⟨z1, z2, z3⟩
  · exact .inr z
  · refine .inl (.inr ⟨S0.o, ?_⟩)
    rw [← z1]
    exact k _ _ z2 z3

/-! ### the law's own def -/
def spLaw (K : PySem.W.Frag) : Sp := fun vs H Q _ => ∃ (a : Addr) (ns : List Int), vs = [.ref a] ∧ Only H ∧ SqL K H a (ns.map V.int) ∧ ∀ H', Q (.bl true) H'
/-- slots forgotten -/
def forget (is : List Nat) (env : Env') : Env' := maskE is env
theorem Rp.forget {K : PySem.W.Frag} {H0 H : Hp} {F0 F : AP'} {O : List Nat} {env : Env'} {σ : L2.St} (r : Rp K H0 F0 F O H env σ) (is : List Nat) : Rp K H0 F0 F O H (FL.forget is env) σ :=
  ⟨r.ext, r.fd, by simp [FL.forget, maskE, r.len], fun i d h hi => r.val i d (mask_at h).1 hi, fun i d h hi => r.own i d (mask_at h).1 hi, fun i j d e a hi hj ne h1 h2 => r.sep i j d e a hi hj ne (mask_at h1).1 (mask_at h2).1⟩
def nForget (is : List Nat) (n : NS) : NS := fun r env P => n r (forget is env) P
theorem xb_forget {X : Cx} {O O' Ol : List Nat} {sts : List Stmt} {n : NS} (is : List Nat) (h : XB X O O' Ol sts n) : XB X O O' Ol sts (nForget is n) := ⟨pss_mono h.pss fun D' σ H ⟨S0, r, H0, F0, F, env, R, hn⟩ =>
  ⟨S0, r, H0, F0, F, _, ⟨R.rp.forget is, R.row, R.n0, R.n1, R.nf, R.nf1, fun i d h hi => R.ap i d (mask_at h).1 hi⟩, hn⟩⟩
theorem mono_forget {is : List Nat} {n : NS} (h : MonoS n) : MonoS (nForget is n) := fun r env P Q hq hw => h r _ P Q hq hw
/-- the law's first statement makes the row; the rest is walked -/
theorem law_rest {X : Cx} {st : Stmt} {rest : List Stmt} {n : NS} {c : Int} {O' : List Nat} {k : Nat} {Q : VK} {H : Hp} {a : Addr} {ns : List Int} {i : Nat}
    (h1 : PS X st (tAsg (tLst (tCons (tVar 0) (tCons (tC (.int 0)) (tCons (tC (.int c)) (tCons (tC (.int 0)) tNil))))) (gName i))) (hc : 0 ≤ c ∧ c < 2147483647) (h2 : XB X [] O' [] rest n) (hM : MonoS n)
    (hi : i < k + 1 ∧ 0 < i) (hO : Only H) (hS : SqL X.K H a (ns.map V.int)) (hq : ∀ H', Q (.bl true) H')
    (hn : ∀ (a p : Addr), n p ((some (hnd a) :: List.replicate k none).set i (some (hnd p))) fun f _ => f = .rt (.bool true)) :
    ∃ t, PSs X (st :: rest) t ∧ t { nx := fun _ H' => Q .non H', rt := Q } (some (.ref a) :: List.replicate k none) H := by
  refine ⟨_, pss_cons h1 h2.pss, .ref a, rfl, (show 4 ≤ sizeLine by decide), fun p np => ?_⟩
  have base : ∀ (S0 : Sc), S0.a = a → RowOk X.K S0 (upd H p (.lst [.ref a, .int 0, .int c, .int 0])) p → tNS X.K [] O' [] n { nx := fun _ H' => Q .non H', rt := Q } ((some (.ref a) :: List.replicate k none).set i (some (.ref p))) (upd H p (.lst [.ref a, .int 0, .int c, .int 0])) := fun S0 _ row => by
    refine ⟨S0, p, fun _ => none, fun _ => False, fun _ => False, _, ⟨⟨⟨(fun b o e => nomatch e), fun _ f => f, fun _ f => False.elim f⟩, fun b f => False.elim f, by simp, fun j d he _ => ?_, fun j d he hj => absurd hj List.not_mem_nil, fun i j d e a hi => absurd hi List.not_mem_nil⟩, row, rfl, rfl, fun f => f, fun f => f, fun j d he hj => absurd hj List.not_mem_nil⟩, hM p _ _ _ (fun f e hf => ?_) (hn a p)⟩
    · by_cases hj : i = j
      · subst hj
        rw [List.getElem?_set_self (by simp; omega)] at he
        cases he
        exact ⟨.ref p, List.getElem?_set_self (by simp; omega), .hnd p⟩
      · rw [List.getElem?_set_ne hj] at he ⊢
        cases j with
        | zero =>
          cases he
          exact ⟨.ref a, rfl, .hnd a⟩
        | succ j =>
          simp only [List.getElem?_cons_succ] at he
          rw [List.getElem?_replicate] at he
          split at he <;> cases he
    · subst hf
      exact fun v H' F' _ _ _ _ rv => by
        obtain rfl := rv.bl_inv
        exact hq H'
  rcases hS with (hS | ⟨o, hS⟩) | hS
  · rcases hO a with z | ⟨o, xs, z⟩
    · rw [z] at hS; cases hS
    · rw [z] at hS; cases hS
  · have ne : a ≠ p := ne_of_none hS np
    exact base ⟨a, a, o, ns⟩ rfl ⟨.inr ⟨rfl, ne, by show upd H p _ a = _; rw [upd_ne ne]; exact hS⟩, 0, c, 0, upd_same, by omega, hc.1, hc.2⟩
  · exact base ⟨a, p, default, ns⟩ rfl ⟨.inl ⟨rfl, hS⟩, 0, c, 0, upd_same, by omega, hc.1, hc.2⟩
end FL

set_option Elab.async false
set_option linter.all false
set_option maxRecDepth 100000
set_option maxHeartbeats 4000000
namespace W
open PySem PySem.Spec PyProof.Rows L2 FL
def topS (i : Nat) : Stmt := PySem.Challenge.pw_counterlines_k96_whole_counts_by_people.main.body.getD i (.Pass ⟨0, 0, 0, 0⟩)
abbrev sis_list : Stmt := topS 3
abbrev Nis_list : List Str := ["value", "least", "most"]
theorem sc_is_list : FnScope Nis_list ["value", "least", "most"] (defScope sis_list) := ⟨rfl, rfl, rfl, by decide +kernel, rfl, by decide +kernel, by decide +kernel⟩
abbrev sis_integer : Stmt := topS 1
abbrev Nis_integer : List Str := ["value"]
theorem sc_is_integer : FnScope Nis_integer ["value"] (defScope sis_integer) := ⟨rfl, rfl, rfl, by decide +kernel, rfl, by decide +kernel, by decide +kernel⟩
abbrev sis_in : Stmt := topS 2
abbrev Nis_in : List Str := ["value", "least", "most"]
theorem sc_is_in : FnScope Nis_in ["value", "least", "most"] (defScope sis_in) := ⟨rfl, rfl, rfl, by decide +kernel, rfl, by decide +kernel, by decide +kernel⟩
abbrev sneed_office : Stmt := topS 10
abbrev Nneed_office : List Str := ["office"]
theorem sc_need_office : FnScope Nneed_office ["office"] (defScope sneed_office) := ⟨rfl, rfl, rfl, by decide +kernel, rfl, by decide +kernel, by decide +kernel⟩
abbrev sfactorial : Stmt := topS 13
abbrev Nfactorial : List Str := ["many", "found", "number"]
theorem sc_factorial : FnScope Nfactorial ["many"] (defScope sfactorial) := ⟨rfl, rfl, rfl, by decide +kernel, rfl, by decide +kernel, by decide +kernel⟩
abbrev sraised : Stmt := topS 15
abbrev Nraised : List Str := ["base", "times", "found", "turn"]
theorem sc_raised : FnScope Nraised ["base", "times"] (defScope sraised) := ⟨rfl, rfl, rfl, by decide +kernel, rfl, by decide +kernel, by decide +kernel⟩
abbrev sclass_sizes : Stmt := topS 23
abbrev Nclass_sizes : List Str := ["office", "people", "counters", "found", "many"]
theorem sc_class_sizes : FnScope Nclass_sizes ["office"] (defScope sclass_sizes) := ⟨rfl, rfl, rfl, by decide +kernel, rfl, by decide +kernel, by decide +kernel⟩
abbrev schoose : Stmt := topS 14
abbrev Nchoose : List Str := ["many", "some", "found", "number"]
theorem sc_choose : FnScope Nchoose ["many", "some"] (defScope schoose) := ⟨rfl, rfl, rfl, by decide +kernel, rfl, by decide +kernel, by decide +kernel⟩
abbrev scount_twice : Stmt := topS 19
abbrev Ncount_twice : List Str := ["office", "many"]
theorem sc_count_twice : FnScope Ncount_twice ["office"] (defScope scount_twice) := ⟨rfl, rfl, rfl, by decide +kernel, rfl, by decide +kernel, by decide +kernel⟩
abbrev szz_taken : Stmt := topS 29
abbrev Nzz_taken : List Str := ["_law_row", "_law_many", "_law_found", "_law_cell"]
theorem sc_zz_taken : FnScope Nzz_taken ["_law_row", "_law_many"] (defScope szz_taken) := ⟨rfl, rfl, rfl, by decide +kernel, rfl, by decide +kernel, by decide +kernel⟩
abbrev snumber_of_deeds : Stmt := topS 17
abbrev Nnumber_of_deeds : List Str := ["office", "people", "counters", "found", "many"]
theorem sc_number_of_deeds : FnScope Nnumber_of_deeds ["office"] (defScope snumber_of_deeds) := ⟨rfl, rfl, rfl, by decide +kernel, rfl, by decide +kernel, by decide +kernel⟩
abbrev scount_deeds : Stmt := topS 18
abbrev Ncount_deeds : List Str := ["office"]
theorem sc_count_deeds : FnScope Ncount_deeds ["office"] (defScope scount_deeds) := ⟨rfl, rfl, rfl, by decide +kernel, rfl, by decide +kernel, by decide +kernel⟩
abbrev scount_ahead : Stmt := topS 22
abbrev Ncount_ahead : List Str := ["office", "people", "many"]
theorem sc_count_ahead : FnScope Ncount_ahead ["office"] (defScope scount_ahead) := ⟨rfl, rfl, rfl, by decide +kernel, rfl, by decide +kernel, by decide +kernel⟩
abbrev scount_behind : Stmt := topS 21
abbrev Ncount_behind : List Str := ["office", "many"]
theorem sc_count_behind : FnScope Ncount_behind ["office"] (defScope scount_behind) := ⟨rfl, rfl, rfl, by decide +kernel, rfl, by decide +kernel, by decide +kernel⟩
abbrev snumber_of_states : Stmt := topS 11
abbrev Nnumber_of_states : List Str := ["office", "people", "counters", "found", "person"]
theorem sc_number_of_states : FnScope Nnumber_of_states ["office"] (defScope snumber_of_states) := ⟨rfl, rfl, rfl, by decide +kernel, rfl, by decide +kernel, by decide +kernel⟩
abbrev scount_states : Stmt := topS 12
abbrev Ncount_states : List Str := ["office"]
theorem sc_count_states : FnScope Ncount_states ["office"] (defScope scount_states) := ⟨rfl, rfl, rfl, by decide +kernel, rfl, by decide +kernel, by decide +kernel⟩
abbrev scount_shapes : Stmt := topS 25
abbrev Ncount_shapes : List Str := ["office"]
theorem sc_count_shapes : FnScope Ncount_shapes ["office"] (defScope scount_shapes) := ⟨rfl, rfl, rfl, by decide +kernel, rfl, by decide +kernel, by decide +kernel⟩
abbrev szz_twos : Stmt := topS 30
abbrev Nzz_twos : List Str := ["_law_many", "_law_found", "_law_turn"]
theorem sc_zz_twos : FnScope Nzz_twos ["_law_many"] (defScope szz_twos) := ⟨rfl, rfl, rfl, by decide +kernel, rfl, by decide +kernel, by decide +kernel⟩
abbrev scount_turns : Stmt := topS 26
abbrev Ncount_turns : List Str := ["office"]
theorem sc_count_turns : FnScope Ncount_turns ["office"] (defScope scount_turns) := ⟨rfl, rfl, rfl, by decide +kernel, rfl, by decide +kernel, by decide +kernel⟩
abbrev scount_kinds : Stmt := topS 27
abbrev Ncount_kinds : List Str := ["office", "people", "counters", "whole", "many", "step", "part"]
theorem sc_count_kinds : FnScope Ncount_kinds ["office"] (defScope scount_kinds) := ⟨rfl, rfl, rfl, by decide +kernel, rfl, by decide +kernel, by decide +kernel⟩
abbrev slaw : Stmt := topS 31
abbrev Nlaw : List Str := ["_law_script", "_law_row", "_law_people", "_law_counters", "_law_office", "_law_less", "_law_orders", "_law_number", "_law_power", "_law_turn", "_law_full", "_law_rest", "_law_small", "_law_part", "_law_sizes", "_law_at"]
theorem sc_law : FnScope Nlaw ["_law_script"] (defScope slaw) := ⟨rfl, rfl, rfl, by decide +kernel, rfl, by decide +kernel, by decide +kernel⟩
structure Txt (K : PySem.W.Frag) (mg : Str → Option Value) where
  f_is_list : Addr
  d_is_list : FuncData
  F_is_list : Fun K "is_list" "is_list" sis_list f_is_list d_is_list
  g_is_list : mg "is_list" = some (.ref f_is_list)
  b_is_list : Binds K d_is_list ["value", "least", "most"] []
  f_is_integer : Addr
  d_is_integer : FuncData
  F_is_integer : Fun K "is_integer" "is_integer" sis_integer f_is_integer d_is_integer
  g_is_integer : mg "is_integer" = some (.ref f_is_integer)
  b_is_integer : Binds K d_is_integer ["value"] []
  f_is_in : Addr
  d_is_in : FuncData
  F_is_in : Fun K "is_in" "is_in" sis_in f_is_in d_is_in
  g_is_in : mg "is_in" = some (.ref f_is_in)
  b_is_in : Binds K d_is_in ["value", "least", "most"] []
  f_need_office : Addr
  d_need_office : FuncData
  F_need_office : Fun K "need_office" "need_office" sneed_office f_need_office d_need_office
  g_need_office : mg "need_office" = some (.ref f_need_office)
  b_need_office : Binds K d_need_office ["office"] []
  f_factorial : Addr
  d_factorial : FuncData
  F_factorial : Fun K "factorial" "factorial" sfactorial f_factorial d_factorial
  g_factorial : mg "factorial" = some (.ref f_factorial)
  b_factorial : Binds K d_factorial ["many"] []
  f_raised : Addr
  d_raised : FuncData
  F_raised : Fun K "raised" "raised" sraised f_raised d_raised
  g_raised : mg "raised" = some (.ref f_raised)
  b_raised : Binds K d_raised ["base", "times"] []
  f_class_sizes : Addr
  d_class_sizes : FuncData
  F_class_sizes : Fun K "class_sizes" "class_sizes" sclass_sizes f_class_sizes d_class_sizes
  g_class_sizes : mg "class_sizes" = some (.ref f_class_sizes)
  b_class_sizes : Binds K d_class_sizes ["office"] []
  f_choose : Addr
  d_choose : FuncData
  F_choose : Fun K "choose" "choose" schoose f_choose d_choose
  g_choose : mg "choose" = some (.ref f_choose)
  b_choose : Binds K d_choose ["many", "some"] []
  f_count_twice : Addr
  d_count_twice : FuncData
  F_count_twice : Fun K "count_twice" "count_twice" scount_twice f_count_twice d_count_twice
  g_count_twice : mg "count_twice" = some (.ref f_count_twice)
  b_count_twice : Binds K d_count_twice ["office"] []
  f_zz_taken : Addr
  d_zz_taken : FuncData
  F_zz_taken : Fun K "_law_taken" "_law_taken" szz_taken f_zz_taken d_zz_taken
  g_zz_taken : mg "_law_taken" = some (.ref f_zz_taken)
  b_zz_taken : Binds K d_zz_taken ["_law_row", "_law_many"] []
  f_number_of_deeds : Addr
  d_number_of_deeds : FuncData
  F_number_of_deeds : Fun K "number_of_deeds" "number_of_deeds" snumber_of_deeds f_number_of_deeds d_number_of_deeds
  g_number_of_deeds : mg "number_of_deeds" = some (.ref f_number_of_deeds)
  b_number_of_deeds : Binds K d_number_of_deeds ["office"] []
  f_count_deeds : Addr
  d_count_deeds : FuncData
  F_count_deeds : Fun K "count_deeds" "count_deeds" scount_deeds f_count_deeds d_count_deeds
  g_count_deeds : mg "count_deeds" = some (.ref f_count_deeds)
  b_count_deeds : Binds K d_count_deeds ["office"] []
  f_count_ahead : Addr
  d_count_ahead : FuncData
  F_count_ahead : Fun K "count_ahead" "count_ahead" scount_ahead f_count_ahead d_count_ahead
  g_count_ahead : mg "count_ahead" = some (.ref f_count_ahead)
  b_count_ahead : Binds K d_count_ahead ["office"] []
  f_count_behind : Addr
  d_count_behind : FuncData
  F_count_behind : Fun K "count_behind" "count_behind" scount_behind f_count_behind d_count_behind
  g_count_behind : mg "count_behind" = some (.ref f_count_behind)
  b_count_behind : Binds K d_count_behind ["office"] []
  f_number_of_states : Addr
  d_number_of_states : FuncData
  F_number_of_states : Fun K "number_of_states" "number_of_states" snumber_of_states f_number_of_states d_number_of_states
  g_number_of_states : mg "number_of_states" = some (.ref f_number_of_states)
  b_number_of_states : Binds K d_number_of_states ["office"] []
  f_count_states : Addr
  d_count_states : FuncData
  F_count_states : Fun K "count_states" "count_states" scount_states f_count_states d_count_states
  g_count_states : mg "count_states" = some (.ref f_count_states)
  b_count_states : Binds K d_count_states ["office"] []
  f_count_shapes : Addr
  d_count_shapes : FuncData
  F_count_shapes : Fun K "count_shapes" "count_shapes" scount_shapes f_count_shapes d_count_shapes
  g_count_shapes : mg "count_shapes" = some (.ref f_count_shapes)
  b_count_shapes : Binds K d_count_shapes ["office"] []
  f_zz_twos : Addr
  d_zz_twos : FuncData
  F_zz_twos : Fun K "_law_twos" "_law_twos" szz_twos f_zz_twos d_zz_twos
  g_zz_twos : mg "_law_twos" = some (.ref f_zz_twos)
  b_zz_twos : Binds K d_zz_twos ["_law_many"] []
  f_count_turns : Addr
  d_count_turns : FuncData
  F_count_turns : Fun K "count_turns" "count_turns" scount_turns f_count_turns d_count_turns
  g_count_turns : mg "count_turns" = some (.ref f_count_turns)
  b_count_turns : Binds K d_count_turns ["office"] []
  f_count_kinds : Addr
  d_count_kinds : FuncData
  F_count_kinds : Fun K "count_kinds" "count_kinds" scount_kinds f_count_kinds d_count_kinds
  g_count_kinds : mg "count_kinds" = some (.ref f_count_kinds)
  b_count_kinds : Binds K d_count_kinds ["office"] []
  f_law : Addr
  d_law : FuncData
  F_law : Fun K "law" "law" slaw f_law d_law
  g_law : mg "law" = some (.ref f_law)
  b_law : Binds K d_law ["_law_script"] []
  n_bool : mg "bool" = none
  n_int : mg "int" = none
  n_isinstance : mg "isinstance" = none
  n_len : mg "len" = none
  n_range : mg "range" = none
  n_sum : mg "sum" = none
  n_tuple : mg "tuple" = none
  c_MOST_COUNTERS : ∃ t, mg "MOST_COUNTERS" = some (.int 6 t)
  c_MOST_PEOPLE : ∃ t, mg "MOST_PEOPLE" = some (.int 7 t)
section
variable {P : Program} {w : World} {K : PySem.W.Frag} {mg : Str → Option Value} {base : Heap}
def b_is_list : SM :=
  (sRet (eAnd (e1 isiTuple (eVar 0)) (eCh leD leD (eVar 1) (eF (on1 lenD) (aCons (eVar 0) aNil)) (eVar 2))))
def m_is_list : List D → Option D := runF 3 b_is_list
theorem ok_is_list (T : Txt K mg) : FnOk P w K mg base CX0 1 T.f_is_list T.d_is_list ["value", "least", "most"] (spF K 3 m_is_list) :=
  fn_ok (O' := []) (T.F_is_list) sc_is_list (fun cdv A outer s H E hr => by
    have hu := hr.units
    have hv := hu65 hr
    exact (fb_one (fs_ret (fe_and (fe_cast isi_tuple (fe_isi (T := "tuple") (by rfl) T.n_isinstance (fe_var 0 (pv 0)) (pe_bltn (by rfl) T.n_tuple (by decide +kernel) rfl))) (fe_and1 (fe_chain od_le od_le (fe_var 1 (pv 1)) (fe_callB cd_len (by rfl) T.n_len (by decide +kernel) (fa_cons (fe_var 0 (pv 0)) fa_nil)) (fe_var 2 (pv 2)) (by with_unfolding_all rfl)))))))
def b_is_integer : SM :=
  (sRet (eAnd (e1 isiInt (eVar 0)) (e1 notD (e1 isiBool (eVar 0)))))
def m_is_integer : List D → Option D := runF 1 b_is_integer
theorem ok_is_integer (T : Txt K mg) : FnOk P w K mg base CX0 1 T.f_is_integer T.d_is_integer ["value"] (spF K 1 m_is_integer) :=
  fn_ok (O' := []) (T.F_is_integer) sc_is_integer (fun cdv A outer s H E hr => by
    have hu := hr.units
    have hv := hu65 hr
    exact (fb_one (fs_ret (fe_and (fe_cast isi_int (fe_isi (T := "int") (by rfl) T.n_isinstance (fe_var 0 (pv 0)) (pe_bltn (by rfl) T.n_int (by decide +kernel) rfl))) (fe_and1 (fe_not (fe_cast isi_bool (fe_isi (T := "bool") (by rfl) T.n_isinstance (fe_var 0 (pv 0)) (pe_bltn (by rfl) T.n_bool (by decide +kernel) rfl)))))))))
def b_is_in : SM :=
  (sRet (eAnd (eCall 1 m_is_integer (aCons (eVar 0) aNil)) (eCh leD leD (eVar 1) (eVar 0) (eVar 2))))
def m_is_in : List D → Option D := runF 3 b_is_in
theorem ok_is_in (T : Txt K mg) : FnOk P w K mg base CX0 2 T.f_is_in T.d_is_in ["value", "least", "most"] (spF K 3 m_is_in) :=
  fn_ok (O' := []) (T.F_is_in) sc_is_in (fun cdv A outer s H E hr => by
    have hu := hr.units
    have hv := hu65 hr
    exact (fb_one (fs_ret (fe_and (fe_call (ok_is_integer T) (hr.mono (by decide)) (by rfl) T.g_is_integer T.F_is_integer.kp T.b_is_integer (fa_cons (fe_var 0 (pv 0)) fa_nil)) (fe_and1 (fe_chain od_le od_le (fe_var 1 (pv 1)) (fe_var 0 (pv 0)) (fe_var 2 (pv 2)) (by with_unfolding_all rfl)))))))
def b_need_office : SM :=
  (sIf (tOr (tNot (tV (eCall 3 m_is_list (aCons (eVar 0) (aCons (eC (.int 2)) (aCons (eC (.int 2)) aNil)))))) (tOr (tNot (tV (eCall 3 m_is_in (aCons (e2 ixD (eVar 0) (eC (.int 0))) (aCons (eC (.int 1)) (aCons (eC (.int 7)) aNil)))))) (tNot (tV (eCall 3 m_is_in (aCons (e2 ixD (eVar 0) (eC (.int 1))) (aCons (eC (.int 1)) (aCons (eC (.int 6)) aNil)))))))) sBad sSkip)
def m_need_office : List D → Option D := runF 1 b_need_office
theorem ok_need_office (T : Txt K mg) : FnOk P w K mg base CX0 3 T.f_need_office T.d_need_office ["office"] (spF K 1 m_need_office) :=
  fn_ok (O' := []) (T.F_need_office) sc_need_office (fun cdv A outer s H E hr => by
    have hu := hr.units
    have hv := hu65 hr
    exact (fb_one (fs_if (FW.ft (fw_or (ft_not (ft_val (fe_call (ok_is_list T) (hr.mono (by decide)) (by rfl) T.g_is_list T.F_is_list.kp T.b_is_list (fa_cons (fe_var 0 (pv 0)) (fa_cons fe_int (fa_cons fe_int fa_nil)))) (fun h => pt_val h))) (fw_or (ft_not (ft_val (fe_call (ok_is_in T) (hr.mono (by decide)) (by rfl) T.g_is_in T.F_is_in.kp T.b_is_in (fa_cons (fe_ix (fe_var 0 (pv 0)) fe_int (fun _ _ => rfl)) (fa_cons fe_int (fa_cons (fe_const (pe_glob (v := .int 7) rfl T.c_MOST_PEOPLE.choose_spec ⟨_, rfl⟩) (fun _ _ => .int _)) fa_nil)))) (fun h => pt_val h))) (fw_or1 (ft_not (ft_val (fe_call (ok_is_in T) (hr.mono (by decide)) (by rfl) T.g_is_in T.F_is_in.kp T.b_is_in (fa_cons (fe_ix (fe_var 0 (pv 0)) fe_int (fun _ _ => rfl)) (fa_cons fe_int (fa_cons (fe_const (pe_glob (v := .int 6) rfl T.c_MOST_COUNTERS.choose_spec ⟨_, rfl⟩) (fun _ _ => .int _)) fa_nil)))) (fun h => pt_val h))))))) (fb_one fs_bad) fb_nil)))
def b_factorial : SM :=
  (sSeq (sLet 1 (eC (.int 1))) (sSeq (sForR (iF rng2 (aCons (eC (.int 2)) (aCons (e2 addD (eVar 0) (eC (.int 1))) aNil))) (gN 2) (sLet 1 (e2 mulD (eVar 1) (eVar 2)))) (sRet (eVar 1))))
def m_factorial : List D → Option D := runF 3 b_factorial
theorem ok_factorial (T : Txt K mg) : FnOk P w K mg base CX0 1 T.f_factorial T.d_factorial ["many"] (spF K 1 m_factorial) :=
  fn_ok (O' := []) (T.F_factorial) sc_factorial (fun cdv A outer s H E hr => by
    have hu := hr.units
    have hv := hu65 hr
    exact (fb_cons (fs_let' (ps_set (i := 1) sc_factorial.nd rfl (by first | exact .inl rfl | exact .inr rfl) fe_int.pe)) (fb_cons (fs_forR PassesOwn.never rfl (fn_range2 (by rfl) T.n_range (fa_cons fe_int (fa_cons (fe_op od_add (fe_var 0 (pv 0)) fe_int) fa_nil))) (fg_name (pg_name (i := 2) sc_factorial.nd rfl (by first | exact .inl rfl | exact .inr rfl))) (so (vs := [2]) (si_n (by decide)) (by decide)) (fb_one (fs_let' (ps_set (i := 1) sc_factorial.nd rfl (by first | exact .inl rfl | exact .inr rfl) (fe_op od_mul (fe_var 1 (pv 1)) (fe_var 2 (pv 2))).pe)))) (fb_one (fs_ret (fe_var 1 (pv 1)))))))
def b_raised : SM :=
  (sSeq (sLet 2 (eC (.int 1))) (sSeq (sForR (iF rng1 (aCons (eVar 1) aNil)) (gN 3) (sLet 2 (e2 mulD (eVar 2) (eVar 0)))) (sRet (eVar 2))))
def m_raised : List D → Option D := runF 4 b_raised
theorem ok_raised (T : Txt K mg) : FnOk P w K mg base CX0 1 T.f_raised T.d_raised ["base", "times"] (spF K 2 m_raised) :=
  fn_ok (O' := []) (T.F_raised) sc_raised (fun cdv A outer s H E hr => by
    have hu := hr.units
    have hv := hu65 hr
    exact (fb_cons (fs_let' (ps_set (i := 2) sc_raised.nd rfl (by first | exact .inl rfl | exact .inr rfl) fe_int.pe)) (fb_cons (fs_forR PassesOwn.never rfl (fn_range1 (by rfl) T.n_range (fa_cons (fe_var 1 (pv 1)) fa_nil)) (fg_name (pg_name (i := 3) sc_raised.nd rfl (by first | exact .inl rfl | exact .inr rfl))) (so (vs := [3]) (si_n (by decide)) (by decide)) (fb_one (fs_let' (ps_set (i := 2) sc_raised.nd rfl (by first | exact .inl rfl | exact .inr rfl) (fe_op od_mul (fe_var 2 (pv 2)) (fe_var 0 (pv 0))).pe)))) (fb_one (fs_ret (fe_var 2 (pv 2)))))))
def b_class_sizes : SM :=
  (sSeq (sDrop (eCall 1 m_need_office (aCons (eVar 0) aNil))) (sSeq (sUnpV [] (eVar 0) (gT 2 (gsCons (gN 1) (gsCons (gN 2) gsNil)))) (sSeq (sLet 3 (eLst (eComp [4] (iF rng1 (aCons (e2 subD (eVar 1) (eC (.int 1))) aNil)) (gN 4) tTrue (e2 mulD (eCall 1 m_factorial (aCons (eVar 4) aNil)) (eCall 2 m_raised (aCons (eVar 2) (aCons (eVar 4) aNil))))))) (sRet (eTup (aCap (aStar (eVar 3) (aCons (e2 mulD (eCall 1 m_factorial (aCons (eVar 1) aNil)) (eCall 2 m_raised (aCons (eVar 2) (aCons (eVar 1) aNil)))) aNil))))))))
def m_class_sizes : List D → Option D := runF 5 b_class_sizes
theorem ok_class_sizes (T : Txt K mg) : FnOk P w K mg base CX0 4 T.f_class_sizes T.d_class_sizes ["office"] (spF K 1 m_class_sizes) :=
  fn_ok (O' := []) (T.F_class_sizes) sc_class_sizes (fun cdv A outer s H E hr => by
    have hu := hr.units
    have hv := hu65 hr
    exact (fb_cons (fs_expr (ps_expr (fe_call (ok_need_office T) (hr.mono (by decide)) (by rfl) T.g_need_office T.F_need_office.kp T.b_need_office (fa_cons (fe_var 0 (pv 0)) fa_nil)).pe)) (fb_cons (fs_unpV (ps_asg (fe_var 0 (pv 0)).pe (FG.pg (fg_tup rfl (fgs_cons (fg_name (pg_name (i := 1) sc_class_sizes.nd rfl (by first | exact .inl rfl | exact .inr rfl))) (fgs_cons (fg_name (pg_name (i := 2) sc_class_sizes.nd rfl (by first | exact .inl rfl | exact .inr rfl))) fgs_nil))))) (so (vs := [1, 2]) (si_t (si_cons (si_n (by decide)) (si_cons (si_n (by decide)) si_nil))) (by decide))) (fb_cons (fs_let' (ps_ff (ps_comp (i := 3) (own := [("many", 4)]) rfl sc_class_sizes.nd rfl rfl (sw_true rfl rfl rfl (by decide +kernel)) (FN.fi (fn_range1 (by rfl) T.n_range (fa_cons (fe_op od_sub (fe_var 1 (pv 1)) fe_int) fa_nil))) (blkOk_by (own := [("many", 4)]) (N := Nclass_sizes) (sc := defScope sclass_sizes) (by decide +kernel)) (si_n (by decide)) (fun _ _ _ _ _ => (fg_name (pg_name (i := 4) sc_class_sizes.nd rfl (by first | exact .inl rfl | exact .inr rfl)))) (fun _ _ _ _ _ => fts_nil) (fun _ _ _ _ _ => (fe_op od_mul (fe_call (ok_factorial T) (hr.mono (by decide)) (by rfl) T.g_factorial T.F_factorial.kp T.b_factorial (fa_cons (fe_var 4 (pv 4)) fa_nil)) (fe_call (ok_raised T) (hr.mono (by decide)) (by rfl) T.g_raised T.F_raised.kp T.b_raised (fa_cons (fe_var 2 (pv 2)) (fa_cons (fe_var 4 (pv 4)) fa_nil)))))))) (fb_one (fs_ret (fe_tup (fa_star (fe_var 3 (pv 3)) (fa_cons (fe_op od_mul (fe_call (ok_factorial T) (hr.mono (by decide)) (by rfl) T.g_factorial T.F_factorial.kp T.b_factorial (fa_cons (fe_var 1 (pv 1)) fa_nil)) (fe_call (ok_raised T) (hr.mono (by decide)) (by rfl) T.g_raised T.F_raised.kp T.b_raised (fa_cons (fe_var 2 (pv 2)) (fa_cons (fe_var 1 (pv 1)) fa_nil)))) fa_nil)))))))))
def b_choose : SM :=
  (sSeq (sIf (tNot (tV (eCh leD leD (eC (.int 0)) (eVar 1) (eVar 0)))) (sRet (eC (.int 0))) sSkip) (sSeq (sLet 2 (eC (.int 1))) (sSeq (sForR (iF rng1 (aCons (eVar 1) aNil)) (gN 3) (sLet 2 (e2 fdivD (e2 mulD (eVar 2) (e2 subD (eVar 0) (eVar 3))) (e2 addD (eVar 3) (eC (.int 1)))))) (sRet (eVar 2)))))
def m_choose : List D → Option D := runF 4 b_choose
theorem ok_choose (T : Txt K mg) : FnOk P w K mg base CX0 1 T.f_choose T.d_choose ["many", "some"] (spF K 2 m_choose) :=
  fn_ok (O' := []) (T.F_choose) sc_choose (fun cdv A outer s H E hr => by
    have hu := hr.units
    have hv := hu65 hr
    exact (fb_cons (fs_if (ft_not (ft_chain od_le od_le fe_int (fe_var 1 (pv 1)) (fe_var 0 (pv 0)) (by with_unfolding_all rfl))) (fb_one (fs_ret fe_int)) fb_nil) (fb_cons (fs_let' (ps_set (i := 2) sc_choose.nd rfl (by first | exact .inl rfl | exact .inr rfl) fe_int.pe)) (fb_cons (fs_forR PassesOwn.never rfl (fn_range1 (by rfl) T.n_range (fa_cons (fe_var 1 (pv 1)) fa_nil)) (fg_name (pg_name (i := 3) sc_choose.nd rfl (by first | exact .inl rfl | exact .inr rfl))) (so (vs := [3]) (si_n (by decide)) (by decide)) (fb_one (fs_let' (ps_set (i := 2) sc_choose.nd rfl (by first | exact .inl rfl | exact .inr rfl) (fe_op od_fdiv (fe_op od_mul (fe_var 2 (pv 2)) (fe_op od_sub (fe_var 0 (pv 0)) (fe_var 3 (pv 3)))) (fe_op od_add (fe_var 3 (pv 3)) fe_int)).pe)))) (fb_one (fs_ret (fe_var 2 (pv 2))))))))
def b_count_twice : SM :=
  (sSeq (sDrop (eCall 1 m_need_office (aCons (eVar 0) aNil))) (sRet (eF (on1 sumD) (aCons (eLst (eComp [1] (iF rng1 (aCons (e2 ixD (eVar 0) (eC (.int 0))) aNil)) (gN 1) tTrue (e2 mulD (eCall 2 m_choose (aCons (e2 ixD (eVar 0) (eC (.int 0))) (aCons (eVar 1) aNil))) (eCall 1 m_factorial (aCons (eVar 1) aNil))))) aNil))))
def m_count_twice : List D → Option D := runF 2 b_count_twice
theorem ok_count_twice (T : Txt K mg) : FnOk P w K mg base CX0 4 T.f_count_twice T.d_count_twice ["office"] (spF K 1 m_count_twice) :=
  fn_ok (O' := []) (T.F_count_twice) sc_count_twice (fun cdv A outer s H E hr => by
    have hu := hr.units
    have hv := hu65 hr
    exact (fb_cons (fs_expr (ps_expr (fe_call (ok_need_office T) (hr.mono (by decide)) (by rfl) T.g_need_office T.F_need_office.kp T.b_need_office (fa_cons (fe_var 0 (pv 0)) fa_nil)).pe)) (fb_one (fs_ret (fe_callB (cd_sum rfl) (by rfl) T.n_sum (by decide +kernel) (fa_cons (FF.fe (ff_comp (own := [("many", 1)]) rfl sc_count_twice.nd (FN.fi (fn_range1 (by rfl) T.n_range (fa_cons (fe_ix (fe_var 0 (pv 0)) fe_int (fun _ _ => rfl)) fa_nil))) (blkOk_by (own := [("many", 1)]) (N := Ncount_twice) (sc := defScope scount_twice) (by decide +kernel)) (si_n (by decide)) (fun _ _ _ _ _ => (fg_name (pg_name (i := 1) sc_count_twice.nd rfl (by first | exact .inl rfl | exact .inr rfl)))) (fun _ _ _ _ _ => fts_nil) (fun _ _ _ _ _ => (fe_op od_mul (fe_call (ok_choose T) (hr.mono (by decide)) (by rfl) T.g_choose T.F_choose.kp T.b_choose (fa_cons (fe_ix (fe_var 0 (pv 0)) fe_int (fun _ _ => rfl)) (fa_cons (fe_var 1 (pv 1)) fa_nil))) (fe_call (ok_factorial T) (hr.mono (by decide)) (by rfl) T.g_factorial T.F_factorial.kp T.b_factorial (fa_cons (fe_var 1 (pv 1)) fa_nil)))))) fa_nil))))))
theorem ok_zz_taken (T : Txt K mg) : FnOk P w K mg base CX0 1 T.f_zz_taken T.d_zz_taken ["_law_row", "_law_many"] (spN K 2 gTaken) := by
  refine (T.F_zz_taken).ok sc_zz_taken (fun vs H Q E h => h.1) (fun cdv A outer s H vs Q E hr h => ⟨_, (pss_cons (ps_if (pt_cmpR op_gt (pe_ix ix_list (pv 0) pe_int (fun _ _ => rfl)) pe_int (nomark _)) (pss_cons (ps_set (i := 2) sc_zz_taken.nd rfl (.inl rfl) (pe_op op_mod (pe_callTy call_int1 (by rfl) T.n_int (by decide +kernel) (pa_cons (pe_ix ix_list (pv 0) pe_int (fun _ _ => rfl)) pa_nil)) (pv 1))) (pss_cons (ps_asg (pe_op op_fdivW (pe_ix ix_list (pv 0) pe_int (fun _ _ => rfl)) (pv 1)) (pg_sub (pv 0) pe_int set_list)) (pss_one (ps_ret (pv 2))))) pss_nil)
   (pss_cons (ps_asg (pe_op op_add (pe_ix ix_list (pv 0) pe_int (fun _ _ => rfl)) pe_int) (pg_sub (pv 0) pe_int set_list))
   (pss_cons (ps_if (pt_cmpR op_gt (pe_ix ix_list (pv 0) pe_int (fun _ _ => rfl)) (pe_callB call_len_seq (by rfl) T.n_len PySem.boot_len (pa_cons (pe_ix ix_list (pv 0) pe_int (fun _ _ => rfl)) pa_nil)) (nomark _)) (pss_cons (ps_asg (pe_op op_mod (pe_callTy call_int1 (by rfl) T.n_int (by decide +kernel) (pa_cons (pe_op op_add (pe_op op_mulW (pe_ix ix_list (pv 0) pe_int (fun _ _ => rfl)) pe_int) pe_int) pa_nil)) pe_int) (pg_sub (pv 0) pe_int set_list)) (pss_one (ps_ret (pe_op op_mod (pe_callTy call_int1 (by rfl) T.n_int (by decide +kernel) (pa_cons (pe_op op_fdivW (pe_ix ix_list (pv 0) pe_int (fun _ _ => rfl)) pe_int) pa_nil)) (pv 1))))) pss_nil)
   (pss_cons (ps_set (i := 3) sc_zz_taken.nd rfl (.inl rfl) (pe_ix ix_list (pe_ix ix_list (pv 0) pe_int (fun _ _ => rfl)) (pe_op op_sub (pe_ix ix_list (pv 0) pe_int (fun _ _ => rfl)) pe_int) (fun _ _ => rfl)))
   (pss_cons (ps_asg (pe_op op_mod (pe_callTy call_int1 (by rfl) T.n_int (by decide +kernel) (pa_cons (pe_op op_add (pe_op op_add (pe_op op_mulW (pe_ix ix_list (pv 0) pe_int (fun _ _ => rfl)) pe_int) (pv 3)) pe_int) pa_nil)) pe_int) (pg_sub (pv 0) pe_int set_list))
   (pss_cons (ps_if (pt_cmpR op_ge (pv 3) (pe_op op_pow pe_int pe_int) (nomark _)) (pss_one (ps_asg (pe_op op_fdivW (pv 3) (pv 1)) (pg_sub (pv 0) pe_int set_list))) pss_nil)
   (pss_one (ps_ret (pe_op op_mod (pe_callTy call_int1 (by rfl) T.n_int (by decide +kernel) (pa_cons (pv 3) pa_nil)) (pv 1)))))))))), ?_⟩)
  obtain ⟨hl, S0, r, F, ds, P, fd, nf, nf1, row, rl, ⟨m, rfl, m0, m1, hP⟩, q⟩ := h
  obtain ⟨v0, v1, rfl, r0, r1⟩ := rl.two_inv
  obtain rfl : v0 = .ref r := by cases r0; rfl
  obtain rfl := r1.int_inv
  obtain ⟨i, seed, rest, hr0, i0, s0, s1⟩ := row.at_
  have fin := taken_core nf nf1 row m0 m1 hP q
  have md := taken_mod m0
  have ms := taken_mod (m := 2147483647) (by decide)
  have dv := taken_div m0 m1
  have sq := taken_sq row
  have ku : ∀ {H' : Hp} {o' : HO}, (∀ a o, a ≠ r → H a = some o → H' a = some o) → ∀ a o, a ≠ r → H a = some o → upd H' r o' a = some o := fun k a o ne e => by
    rw [upd_ne ne]
    exact k a o ne e
  have k0 : ∀ a o, a ≠ r → H a = some o → H a = some o := fun _ _ _ e => e
  refine ⟨.ref r, rfl, r, _, 3, .int rest, rfl, rfl, .inl (.inl hr0), rfl, rest, 0, rfl, rfl, _, rfl, ?_⟩
  by_cases hrest : 0 < rest
  · rw [decide_eq_true hrest]
    refine iteT ⟨.ref r, rfl, r, _, 3, .int rest, rfl, rfl, .inl (.inl hr0), rfl, .inl ⟨rest, rfl, .int m, rfl, rest, m, rfl, rfl, m0, ?_⟩⟩
    refine ⟨.ref r, rfl, r, _, 3, .int rest, rfl, rfl, .inl (.inl hr0), rfl, .int m, rfl, rest, m, rfl, rfl, dv rest, .ref r, rfl, r, _, 3, 3, rfl, rfl, hr0, rfl, ?_⟩
    exact ⟨.int (rest % m), rfl, fin (rest % m) i seed (rest / m) (md rest).1 (md rest).2 i0 s0 s1 _ (ku k0) upd_same⟩
  · rw [decide_eq_false hrest]
    refine iteF ⟨.ref r, rfl, r, _, 1, .int i, rfl, rfl, .inl (.inl hr0), rfl, i, 1, rfl, rfl, .ref r, rfl, r, _, 1, 1, rfl, rfl, hr0, rfl, ?_⟩
    refine ⟨.ref r, rfl, r, _, 1, .int (i + 1), rfl, rfl, .inl (.inl upd_same), rfl, .ref r, rfl, r, _, 0, .ref S0.a, rfl, rfl, .inl (.inl upd_same), rfl, S0.a, _, rfl, .inl (sq _ (ku k0)), (i + 1), _, rfl, rfl, _, rfl, ite2 (fun hgt => ?_) (fun hle => ?_)⟩
    · refine ⟨.ref r, rfl, r, _, 2, .int seed, rfl, rfl, .inl (.inl upd_same), rfl, seed, 48271, rfl, rfl, taken_mul s0 s1, seed * 48271, 11, rfl, rfl, .inl ⟨seed * 48271 + 11, rfl, seed * 48271 + 11, 2147483647, rfl, rfl, (show (0 : Int) < 2147483647 by decide), .ref r, rfl, r, _, 2, 2, rfl, rfl, upd_same, rfl, ?_⟩⟩
      rw [upd_upd]
      refine ⟨.ref r, rfl, r, _, 2, .int ((seed * 48271 + 11) % 2147483647), rfl, rfl, .inl (.inl upd_same), rfl, (seed * 48271 + 11) % 2147483647, 7, rfl, rfl, ⟨by decide, by decide⟩, .inl ⟨(seed * 48271 + 11) % 2147483647 / 7, rfl, .int m, rfl, _, m, rfl, rfl, m0, ?_⟩⟩
      exact fin _ (i + 1) ((seed * 48271 + 11) % 2147483647) rest (md _).1 (md _).2 (by omega) (ms _).1 (ms _).2 _ (ku k0) upd_same
    · have hlen : (i : Int) < S0.ns.length := by
        have h1 : ¬ ((S0.ns.map V.int).length : Int) < i + 1 := fun z => hle (decide_eq_true z)
        rw [List.length_map] at h1
        omega
      have hcell : L2.atI (S0.ns.map V.int) (i + 1 - 1) = some (.int (S0.ns.getD i.toNat 0)) := by
        have e : i + 1 - 1 = ((i.toNat : Nat) : Int) := by omega
        rw [e]
        refine atI_nat ?_
        have hlt : i.toNat < S0.ns.length := by omega
        rw [List.getElem?_map, List.getElem?_eq_getElem hlt]
        show some (V.int _) = some (V.int _)
        rw [List.getD_eq_getElem?_getD, List.getElem?_eq_getElem hlt]
        rfl
      generalize S0.ns.getD i.toNat 0 = cell at hcell
      refine ⟨.ref r, rfl, r, _, 0, .ref S0.a, rfl, rfl, .inl (.inl upd_same), rfl, .ref r, rfl, r, _, 1, .int (i + 1), rfl, rfl, .inl (.inl upd_same), rfl, i + 1, 1, rfl, rfl, S0.a, _, i + 1 - 1, .int cell, rfl, rfl, sq _ (ku k0), hcell, ?_⟩
      refine ⟨.ref r, rfl, r, _, 2, .int seed, rfl, rfl, .inl (.inl upd_same), rfl, seed, 48271, rfl, rfl, taken_mul s0 s1, .int cell, rfl, seed * 48271, cell, rfl, rfl, seed * 48271 + cell, 11, rfl, rfl, .inl ⟨_, rfl, _, 2147483647, rfl, rfl, (show (0 : Int) < 2147483647 by decide), .ref r, rfl, r, _, 2, 2, rfl, rfl, upd_same, rfl, ?_⟩⟩
      rw [upd_upd]
      generalize (seed * 48271 + cell + 11) = zz
      refine ⟨.int cell, rfl, 10, 18, rfl, rfl, ⟨by decide, by decide, by decide⟩, cell, _, rfl, rfl, _, rfl, ite2 (fun hge => ?_) (fun hlt => ?_)⟩
      · refine ⟨.int cell, rfl, .int m, rfl, cell, m, rfl, rfl, dv cell, .ref r, rfl, r, _, 3, 3, rfl, rfl, upd_same, rfl, ?_⟩
        rw [upd_upd]
        exact ⟨.int cell, rfl, .inl ⟨cell, rfl, .int m, rfl, cell, m, rfl, rfl, m0, fin _ (i + 1) (zz % 2147483647) (cell / m) (md _).1 (md _).2 (by omega) (ms _).1 (ms _).2 _ (ku k0) upd_same⟩⟩
      · exact ⟨.int cell, rfl, .inl ⟨cell, rfl, .int m, rfl, cell, m, rfl, rfl, m0, fin _ (i + 1) (zz % 2147483647) rest (md _).1 (md _).2 (by omega) (ms _).1 (ms _).2 _ (ku k0) upd_same⟩⟩

abbrev w_zz_taken := gTaken
theorem mono_zz_taken : MonoG w_zz_taken := mono_taken
def b_number_of_deeds : SM :=
  (sSeq (sUnpV [] (eVar 0) (gT 2 (gsCons (gN 1) (gsCons (gN 2) gsNil)))) (sSeq (sLet 3 (e2 mulD (e2 mulD (eCall 1 m_factorial (aCons (eVar 1) aNil)) (e2 subD (eVar 2) (eC (.int 1)))) (eCall 2 m_raised (aCons (eVar 2) (aCons (e2 subD (eVar 1) (eC (.int 1))) aNil))))) (sSeq (sForR (iF rng1 (aCons (eVar 1) aNil)) (gN 4) (sSet 3 (e2 iaddD (eVar 3) (e2 mulD (e2 mulD (eCall 2 m_choose (aCons (eVar 1) (aCons (eVar 4) aNil))) (eCall 1 m_factorial (aCons (eVar 4) aNil))) (eCall 2 m_raised (aCons (eVar 2) (aCons (eVar 4) aNil))))))) (sRet (eVar 3)))))
def m_number_of_deeds : List D → Option D := runF 5 b_number_of_deeds
theorem ok_number_of_deeds (T : Txt K mg) : FnOk P w K mg base CX0 2 T.f_number_of_deeds T.d_number_of_deeds ["office"] (spF K 1 m_number_of_deeds) :=
  fn_ok (O' := []) (T.F_number_of_deeds) sc_number_of_deeds (fun cdv A outer s H E hr => by
    have hu := hr.units
    have hv := hu65 hr
    exact (fb_cons (fs_unpV (ps_asg (fe_var 0 (pv 0)).pe (FG.pg (fg_tup rfl (fgs_cons (fg_name (pg_name (i := 1) sc_number_of_deeds.nd rfl (by first | exact .inl rfl | exact .inr rfl))) (fgs_cons (fg_name (pg_name (i := 2) sc_number_of_deeds.nd rfl (by first | exact .inl rfl | exact .inr rfl))) fgs_nil))))) (so (vs := [1, 2]) (si_t (si_cons (si_n (by decide)) (si_cons (si_n (by decide)) si_nil))) (by decide))) (fb_cons (fs_let' (ps_set (i := 3) sc_number_of_deeds.nd rfl (by first | exact .inl rfl | exact .inr rfl) (fe_op od_mul (fe_op od_mul (fe_call (ok_factorial T) (hr.mono (by decide)) (by rfl) T.g_factorial T.F_factorial.kp T.b_factorial (fa_cons (fe_var 1 (pv 1)) fa_nil)) (fe_op od_sub (fe_var 2 (pv 2)) fe_int)) (fe_call (ok_raised T) (hr.mono (by decide)) (by rfl) T.g_raised T.F_raised.kp T.b_raised (fa_cons (fe_var 2 (pv 2)) (fa_cons (fe_op od_sub (fe_var 1 (pv 1)) fe_int) fa_nil)))).pe)) (fb_cons (fs_forR PassesOwn.never rfl (fn_range1 (by rfl) T.n_range (fa_cons (fe_var 1 (pv 1)) fa_nil)) (fg_name (pg_name (i := 4) sc_number_of_deeds.nd rfl (by first | exact .inl rfl | exact .inr rfl))) (so (vs := [4]) (si_n (by decide)) (by decide)) (fb_one (fs_aug (i := 3) (f := iaddD) (ps_aug (i := 3) sc_number_of_deeds.nd rfl (by first | exact .inl rfl | exact .inr rfl) (fe_op od_mul (fe_op od_mul (fe_call (ok_choose T) (hr.mono (by decide)) (by rfl) T.g_choose T.F_choose.kp T.b_choose (fa_cons (fe_var 1 (pv 1)) (fa_cons (fe_var 4 (pv 4)) fa_nil))) (fe_call (ok_factorial T) (hr.mono (by decide)) (by rfl) T.g_factorial T.F_factorial.kp T.b_factorial (fa_cons (fe_var 4 (pv 4)) fa_nil))) (fe_call (ok_raised T) (hr.mono (by decide)) (by rfl) T.g_raised T.F_raised.kp T.b_raised (fa_cons (fe_var 2 (pv 2)) (fa_cons (fe_var 4 (pv 4)) fa_nil)))).pe pd_iadd) rfl))) (fb_one (fs_ret (fe_var 3 (pv 3))))))))
def b_count_deeds : SM :=
  (sSeq (sDrop (eCall 1 m_need_office (aCons (eVar 0) aNil))) (sRet (eCall 1 m_number_of_deeds (aCons (eVar 0) aNil))))
def m_count_deeds : List D → Option D := runF 1 b_count_deeds
theorem ok_count_deeds (T : Txt K mg) : FnOk P w K mg base CX0 4 T.f_count_deeds T.d_count_deeds ["office"] (spF K 1 m_count_deeds) :=
  fn_ok (O' := []) (T.F_count_deeds) sc_count_deeds (fun cdv A outer s H E hr => by
    have hu := hr.units
    have hv := hu65 hr
    exact (fb_cons (fs_expr (ps_expr (fe_call (ok_need_office T) (hr.mono (by decide)) (by rfl) T.g_need_office T.F_need_office.kp T.b_need_office (fa_cons (fe_var 0 (pv 0)) fa_nil)).pe)) (fb_one (fs_ret (fe_call (ok_number_of_deeds T) (hr.mono (by decide)) (by rfl) T.g_number_of_deeds T.F_number_of_deeds.kp T.b_number_of_deeds (fa_cons (fe_var 0 (pv 0)) fa_nil))))))
def b_count_ahead : SM :=
  (sSeq (sDrop (eCall 1 m_need_office (aCons (eVar 0) aNil))) (sSeq (sLet 1 (e2 ixD (eVar 0) (eC (.int 0)))) (sRet (e2 addD (eCall 1 m_factorial (aCons (eVar 1) aNil)) (eF (on1 sumD) (aCons (eLst (eComp [2] (iF rng1 (aCons (e2 subD (eVar 1) (eC (.int 1))) aNil)) (gN 2) tTrue (e2 mulD (eCall 2 m_choose (aCons (eVar 1) (aCons (eVar 2) aNil))) (eCall 1 m_factorial (aCons (eVar 2) aNil))))) aNil))))))
def m_count_ahead : List D → Option D := runF 3 b_count_ahead
theorem ok_count_ahead (T : Txt K mg) : FnOk P w K mg base CX0 4 T.f_count_ahead T.d_count_ahead ["office"] (spF K 1 m_count_ahead) :=
  fn_ok (O' := []) (T.F_count_ahead) sc_count_ahead (fun cdv A outer s H E hr => by
    have hu := hr.units
    have hv := hu65 hr
    exact (fb_cons (fs_expr (ps_expr (fe_call (ok_need_office T) (hr.mono (by decide)) (by rfl) T.g_need_office T.F_need_office.kp T.b_need_office (fa_cons (fe_var 0 (pv 0)) fa_nil)).pe)) (fb_cons (fs_let' (ps_set (i := 1) sc_count_ahead.nd rfl (by first | exact .inl rfl | exact .inr rfl) (fe_ix (fe_var 0 (pv 0)) fe_int (fun _ _ => rfl)).pe)) (fb_one (fs_ret (fe_op od_add (fe_call (ok_factorial T) (hr.mono (by decide)) (by rfl) T.g_factorial T.F_factorial.kp T.b_factorial (fa_cons (fe_var 1 (pv 1)) fa_nil)) (fe_callB (cd_sum rfl) (by rfl) T.n_sum (by decide +kernel) (fa_cons (FF.fe (ff_comp (own := [("many", 2)]) rfl sc_count_ahead.nd (FN.fi (fn_range1 (by rfl) T.n_range (fa_cons (fe_op od_sub (fe_var 1 (pv 1)) fe_int) fa_nil))) (blkOk_by (own := [("many", 2)]) (N := Ncount_ahead) (sc := defScope scount_ahead) (by decide +kernel)) (si_n (by decide)) (fun _ _ _ _ _ => (fg_name (pg_name (i := 2) sc_count_ahead.nd rfl (by first | exact .inl rfl | exact .inr rfl)))) (fun _ _ _ _ _ => fts_nil) (fun _ _ _ _ _ => (fe_op od_mul (fe_call (ok_choose T) (hr.mono (by decide)) (by rfl) T.g_choose T.F_choose.kp T.b_choose (fa_cons (fe_var 1 (pv 1)) (fa_cons (fe_var 2 (pv 2)) fa_nil))) (fe_call (ok_factorial T) (hr.mono (by decide)) (by rfl) T.g_factorial T.F_factorial.kp T.b_factorial (fa_cons (fe_var 2 (pv 2)) fa_nil)))))) fa_nil))))))))
def b_count_behind : SM :=
  (sSeq (sDrop (eCall 1 m_need_office (aCons (eVar 0) aNil))) (sRet (e2 addD (eC (.int 1)) (eF (on1 sumD) (aCons (eLst (eComp [1] (iF rng1 (aCons (e2 subD (e2 ixD (eVar 0) (eC (.int 0))) (eC (.int 1))) aNil)) (gN 1) tTrue (eCall 2 m_choose (aCons (e2 ixD (eVar 0) (eC (.int 0))) (aCons (eVar 1) aNil))))) aNil)))))
def m_count_behind : List D → Option D := runF 2 b_count_behind
theorem ok_count_behind (T : Txt K mg) : FnOk P w K mg base CX0 4 T.f_count_behind T.d_count_behind ["office"] (spF K 1 m_count_behind) :=
  fn_ok (O' := []) (T.F_count_behind) sc_count_behind (fun cdv A outer s H E hr => by
    have hu := hr.units
    have hv := hu65 hr
    exact (fb_cons (fs_expr (ps_expr (fe_call (ok_need_office T) (hr.mono (by decide)) (by rfl) T.g_need_office T.F_need_office.kp T.b_need_office (fa_cons (fe_var 0 (pv 0)) fa_nil)).pe)) (fb_one (fs_ret (fe_op od_add fe_int (fe_callB (cd_sum rfl) (by rfl) T.n_sum (by decide +kernel) (fa_cons (FF.fe (ff_comp (own := [("many", 1)]) rfl sc_count_behind.nd (FN.fi (fn_range1 (by rfl) T.n_range (fa_cons (fe_op od_sub (fe_ix (fe_var 0 (pv 0)) fe_int (fun _ _ => rfl)) fe_int) fa_nil))) (blkOk_by (own := [("many", 1)]) (N := Ncount_behind) (sc := defScope scount_behind) (by decide +kernel)) (si_n (by decide)) (fun _ _ _ _ _ => (fg_name (pg_name (i := 1) sc_count_behind.nd rfl (by first | exact .inl rfl | exact .inr rfl)))) (fun _ _ _ _ _ => fts_nil) (fun _ _ _ _ _ => (fe_call (ok_choose T) (hr.mono (by decide)) (by rfl) T.g_choose T.F_choose.kp T.b_choose (fa_cons (fe_ix (fe_var 0 (pv 0)) fe_int (fun _ _ => rfl)) (fa_cons (fe_var 1 (pv 1)) fa_nil)))))) fa_nil)))))))
def b_number_of_states : SM :=
  (sSeq (sUnpV [] (eVar 0) (gT 2 (gsCons (gN 1) (gsCons (gN 2) gsNil)))) (sSeq (sLet 3 (eC (.int 1))) (sSeq (sForR (iF rng1 (aCons (eVar 1) aNil)) (gN 4) (sLet 3 (e2 mulD (eVar 3) (e2 addD (eVar 2) (eVar 4))))) (sRet (eVar 3)))))
def m_number_of_states : List D → Option D := runF 5 b_number_of_states
theorem ok_number_of_states (T : Txt K mg) : FnOk P w K mg base CX0 1 T.f_number_of_states T.d_number_of_states ["office"] (spF K 1 m_number_of_states) :=
  fn_ok (O' := []) (T.F_number_of_states) sc_number_of_states (fun cdv A outer s H E hr => by
    have hu := hr.units
    have hv := hu65 hr
    exact (fb_cons (fs_unpV (ps_asg (fe_var 0 (pv 0)).pe (FG.pg (fg_tup rfl (fgs_cons (fg_name (pg_name (i := 1) sc_number_of_states.nd rfl (by first | exact .inl rfl | exact .inr rfl))) (fgs_cons (fg_name (pg_name (i := 2) sc_number_of_states.nd rfl (by first | exact .inl rfl | exact .inr rfl))) fgs_nil))))) (so (vs := [1, 2]) (si_t (si_cons (si_n (by decide)) (si_cons (si_n (by decide)) si_nil))) (by decide))) (fb_cons (fs_let' (ps_set (i := 3) sc_number_of_states.nd rfl (by first | exact .inl rfl | exact .inr rfl) fe_int.pe)) (fb_cons (fs_forR PassesOwn.never rfl (fn_range1 (by rfl) T.n_range (fa_cons (fe_var 1 (pv 1)) fa_nil)) (fg_name (pg_name (i := 4) sc_number_of_states.nd rfl (by first | exact .inl rfl | exact .inr rfl))) (so (vs := [4]) (si_n (by decide)) (by decide)) (fb_one (fs_let' (ps_set (i := 3) sc_number_of_states.nd rfl (by first | exact .inl rfl | exact .inr rfl) (fe_op od_mul (fe_var 3 (pv 3)) (fe_op od_add (fe_var 2 (pv 2)) (fe_var 4 (pv 4)))).pe)))) (fb_one (fs_ret (fe_var 3 (pv 3))))))))
def b_count_states : SM :=
  (sSeq (sDrop (eCall 1 m_need_office (aCons (eVar 0) aNil))) (sRet (eCall 1 m_number_of_states (aCons (eVar 0) aNil))))
def m_count_states : List D → Option D := runF 1 b_count_states
theorem ok_count_states (T : Txt K mg) : FnOk P w K mg base CX0 4 T.f_count_states T.d_count_states ["office"] (spF K 1 m_count_states) :=
  fn_ok (O' := []) (T.F_count_states) sc_count_states (fun cdv A outer s H E hr => by
    have hu := hr.units
    have hv := hu65 hr
    exact (fb_cons (fs_expr (ps_expr (fe_call (ok_need_office T) (hr.mono (by decide)) (by rfl) T.g_need_office T.F_need_office.kp T.b_need_office (fa_cons (fe_var 0 (pv 0)) fa_nil)).pe)) (fb_one (fs_ret (fe_call (ok_number_of_states T) (hr.mono (by decide)) (by rfl) T.g_number_of_states T.F_number_of_states.kp T.b_number_of_states (fa_cons (fe_var 0 (pv 0)) fa_nil))))))
def b_count_shapes : SM :=
  (sSeq (sDrop (eCall 1 m_need_office (aCons (eVar 0) aNil))) (sRet (eCall 2 m_choose (aCons (e2 subD (e2 addD (e2 ixD (eVar 0) (eC (.int 0))) (e2 ixD (eVar 0) (eC (.int 1)))) (eC (.int 1))) (aCons (e2 subD (e2 ixD (eVar 0) (eC (.int 1))) (eC (.int 1))) aNil)))))
def m_count_shapes : List D → Option D := runF 1 b_count_shapes
theorem ok_count_shapes (T : Txt K mg) : FnOk P w K mg base CX0 4 T.f_count_shapes T.d_count_shapes ["office"] (spF K 1 m_count_shapes) :=
  fn_ok (O' := []) (T.F_count_shapes) sc_count_shapes (fun cdv A outer s H E hr => by
    have hu := hr.units
    have hv := hu65 hr
    exact (fb_cons (fs_expr (ps_expr (fe_call (ok_need_office T) (hr.mono (by decide)) (by rfl) T.g_need_office T.F_need_office.kp T.b_need_office (fa_cons (fe_var 0 (pv 0)) fa_nil)).pe)) (fb_one (fs_ret (fe_call (ok_choose T) (hr.mono (by decide)) (by rfl) T.g_choose T.F_choose.kp T.b_choose (fa_cons (fe_op od_sub (fe_op od_add (fe_ix (fe_var 0 (pv 0)) fe_int (fun _ _ => rfl)) (fe_ix (fe_var 0 (pv 0)) fe_int (fun _ _ => rfl))) fe_int) (fa_cons (fe_op od_sub (fe_ix (fe_var 0 (pv 0)) fe_int (fun _ _ => rfl)) fe_int) fa_nil)))))))
def b_zz_twos : SM :=
  (sSeq (sLet 1 (eC (.int 1))) (sSeq (sForR (iF rng1 (aCons (eVar 0) aNil)) (gN 2) (sLet 1 (e2 mulD (eC (.int 2)) (eVar 1)))) (sRet (eVar 1))))
def m_zz_twos : List D → Option D := runF 3 b_zz_twos
theorem ok_zz_twos (T : Txt K mg) : FnOk P w K mg base CX0 1 T.f_zz_twos T.d_zz_twos ["_law_many"] (spF K 1 m_zz_twos) :=
  fn_ok (O' := []) (T.F_zz_twos) sc_zz_twos (fun cdv A outer s H E hr => by
    have hu := hr.units
    have hv := hu65 hr
    exact (fb_cons (fs_let' (ps_set (i := 1) sc_zz_twos.nd rfl (by first | exact .inl rfl | exact .inr rfl) fe_int.pe)) (fb_cons (fs_forR PassesOwn.never rfl (fn_range1 (by rfl) T.n_range (fa_cons (fe_var 0 (pv 0)) fa_nil)) (fg_name (pg_name (i := 2) sc_zz_twos.nd rfl (by first | exact .inl rfl | exact .inr rfl))) (so (vs := [2]) (si_n (by decide)) (by decide)) (fb_one (fs_let' (ps_set (i := 1) sc_zz_twos.nd rfl (by first | exact .inl rfl | exact .inr rfl) (fe_op od_mul fe_int (fe_var 1 (pv 1))).pe)))) (fb_one (fs_ret (fe_var 1 (pv 1)))))))
def b_count_turns : SM :=
  (sSeq (sDrop (eCall 1 m_need_office (aCons (eVar 0) aNil))) (sRet (e2 fdivD (eCall 1 m_number_of_states (aCons (eVar 0) aNil)) (e2 ixD (eVar 0) (eC (.int 1))))))
def m_count_turns : List D → Option D := runF 1 b_count_turns
theorem ok_count_turns (T : Txt K mg) : FnOk P w K mg base CX0 4 T.f_count_turns T.d_count_turns ["office"] (spF K 1 m_count_turns) :=
  fn_ok (O' := []) (T.F_count_turns) sc_count_turns (fun cdv A outer s H E hr => by
    have hu := hr.units
    have hv := hu65 hr
    exact (fb_cons (fs_expr (ps_expr (fe_call (ok_need_office T) (hr.mono (by decide)) (by rfl) T.g_need_office T.F_need_office.kp T.b_need_office (fa_cons (fe_var 0 (pv 0)) fa_nil)).pe)) (fb_one (fs_ret (fe_op od_fdiv (fe_call (ok_number_of_states T) (hr.mono (by decide)) (by rfl) T.g_number_of_states T.F_number_of_states.kp T.b_number_of_states (fa_cons (fe_var 0 (pv 0)) fa_nil)) (fe_ix (fe_var 0 (pv 0)) fe_int (fun _ _ => rfl)))))))
def b_count_kinds : SM :=
  (sSeq (sDrop (eCall 1 m_need_office (aCons (eVar 0) aNil))) (sSeq (sUnpV [] (eVar 0) (gT 2 (gsCons (gN 1) (gsCons (gN 2) gsNil)))) (sSeq (sLet 3 (eC (.int 0))) (sSeq (sForR (iF rng1 (aCons (eVar 2) aNil)) (gN 4) (sSeq (sLet 5 (eVar 2)) (sSeq (whD (tOr (tV (e2 neD (e2 modD (eVar 2) (eVar 5)) (eC (.int 0)))) (tV (e2 neD (e2 modD (eVar 4) (eVar 5)) (eC (.int 0))))) (sSet 5 (e2 subD (eVar 5) (eC (.int 1)))) 100000) (sIf (tV (e2 eqD (e2 modD (eVar 1) (e2 fdivD (eVar 2) (eVar 5))) (eC (.int 0)))) (sSeq (sLet 6 (e2 fdivD (eVar 1) (e2 fdivD (eVar 2) (eVar 5)))) (sSet 3 (e2 iaddD (eVar 3) (eCall 2 m_choose (aCons (e2 subD (e2 addD (eVar 6) (eVar 5)) (eC (.int 1))) (aCons (e2 subD (eVar 5) (eC (.int 1))) aNil)))))) sSkip)))) (sRet (e2 fdivD (eVar 3) (eVar 2)))))))
def m_count_kinds : List D → Option D := runF 7 b_count_kinds
theorem ok_count_kinds (T : Txt K mg) : FnOk P w K mg base CX0 4 T.f_count_kinds T.d_count_kinds ["office"] (spF K 1 m_count_kinds) :=
  fn_ok (O' := []) (T.F_count_kinds) sc_count_kinds (fun cdv A outer s H E hr => by
    have hu := hr.units
    have hv := hu65 hr
    exact (fb_cons (fs_expr (ps_expr (fe_call (ok_need_office T) (hr.mono (by decide)) (by rfl) T.g_need_office T.F_need_office.kp T.b_need_office (fa_cons (fe_var 0 (pv 0)) fa_nil)).pe)) (fb_cons (fs_unpV (ps_asg (fe_var 0 (pv 0)).pe (FG.pg (fg_tup rfl (fgs_cons (fg_name (pg_name (i := 1) sc_count_kinds.nd rfl (by first | exact .inl rfl | exact .inr rfl))) (fgs_cons (fg_name (pg_name (i := 2) sc_count_kinds.nd rfl (by first | exact .inl rfl | exact .inr rfl))) fgs_nil))))) (so (vs := [1, 2]) (si_t (si_cons (si_n (by decide)) (si_cons (si_n (by decide)) si_nil))) (by decide))) (fb_cons (fs_let' (ps_set (i := 3) sc_count_kinds.nd rfl (by first | exact .inl rfl | exact .inr rfl) fe_int.pe)) (fb_cons (fs_forR PassesOwn.never rfl (fn_range1 (by rfl) T.n_range (fa_cons (fe_var 2 (pv 2)) fa_nil)) (fg_name (pg_name (i := 4) sc_count_kinds.nd rfl (by first | exact .inl rfl | exact .inr rfl))) (so (vs := [4]) (si_n (by decide)) (by decide)) (fb_cons (fs_let' (ps_set (i := 5) sc_count_kinds.nd rfl (by first | exact .inl rfl | exact .inr rfl) (fe_var 2 (pv 2)).pe)) (fb_cons (fs_while 100000 PassesOwn.never (FW.ft (fw_or (ft_cmp (od_ne hu) (fe_op od_mod (fe_var 2 (pv 2)) (fe_var 5 (pv 5))) fe_int (by rfl)) (fw_or1 (ft_cmp (od_ne hu) (fe_op od_mod (fe_var 4 (pv 4)) (fe_var 5 (pv 5))) fe_int (by rfl))))) (fb_one (fs_aug (i := 5) (f := subD) (ps_aug (i := 5) sc_count_kinds.nd rfl (by first | exact .inl rfl | exact .inr rfl) fe_int.pe pd_isub) rfl))) (fb_one (fs_if (ft_cmp (od_eq hu) (fe_op od_mod (fe_var 1 (pv 1)) (fe_op od_fdiv (fe_var 2 (pv 2)) (fe_var 5 (pv 5)))) fe_int (by rfl)) (fb_cons (fs_let' (ps_set (i := 6) sc_count_kinds.nd rfl (by first | exact .inl rfl | exact .inr rfl) (fe_op od_fdiv (fe_var 1 (pv 1)) (fe_op od_fdiv (fe_var 2 (pv 2)) (fe_var 5 (pv 5)))).pe)) (fb_one (fs_aug (i := 3) (f := iaddD) (ps_aug (i := 3) sc_count_kinds.nd rfl (by first | exact .inl rfl | exact .inr rfl) (fe_call (ok_choose T) (hr.mono (by decide)) (by rfl) T.g_choose T.F_choose.kp T.b_choose (fa_cons (fe_op od_sub (fe_op od_add (fe_var 6 (pv 6)) (fe_var 5 (pv 5))) fe_int) (fa_cons (fe_op od_sub (fe_var 5 (pv 5)) fe_int) fa_nil))).pe pd_iadd) rfl))) fb_nil))))) (fb_one (fs_ret (fe_op od_fdiv (fe_var 3 (pv 3)) (fe_var 2 (pv 2))))))))))
def b_law : SM :=
  (sSeq (sPar [4, 5] [false, false] (aCons (eTup (aCap (aCons (eVar 2) (aCons (eVar 3) aNil)))) (aCons (eTup (aCap (aCons (e2 subD (eVar 2) (eC (.int 1))) (aCons (eVar 3) aNil)))) aNil))) (sSeq (sLet 6 (eC (.int 1))) (sSeq (sForR (iF rng1 (aCons (eVar 2) aNil)) (gN 7) (sLet 6 (e2 mulD (eVar 6) (e2 addD (eVar 7) (eC (.int 1)))))) (sSeq (sLet 8 (eC (.int 1))) (sSeq (sForR (iF rng1 (aCons (eVar 2) aNil)) (gN 9) (sLet 8 (e2 mulD (eVar 8) (eVar 3)))) (sSeq (sPar [10, 11] [false, false] (aCons (e2 mulD (eVar 6) (eVar 8)) (aCons (e2 subD (eCall 1 m_count_deeds (aCons (eVar 4) aNil)) (e2 mulD (eVar 6) (eVar 8))) aNil))) (sSeq (sUnpV [] (eTup (aCap (aCons (eC (.int 0)) (aCons (eC (.int 1)) aNil)))) (gT 2 (gsCons (gN 12) (gsCons (gN 13) gsNil)))) (sSeq (sForR (iF rng1 (aCons (e2 subD (eVar 2) (eC (.int 1))) aNil)) (gN 7) (sSeq (sLet 12 (e2 addD (eVar 12) (eVar 13))) (sLet 13 (e2 mulD (e2 mulD (eVar 13) (e2 subD (eVar 2) (eVar 7))) (eVar 3))))) (sSeq (sIf (tOr (tV (e2 neD (eVar 11) (eVar 12))) (tV (e2 ltD (eVar 10) (eC (.int 1))))) (sRet (eC (.bool false))) sSkip) (sSeq (sIf (tV (e2 neD (eCall 1 m_count_twice (aCons (eVar 4) aNil)) (e2 addD (eC (.int 1)) (e2 mulD (eVar 2) (eCall 1 m_count_twice (aCons (eVar 5) aNil)))))) (sRet (eC (.bool false))) sSkip) (sSeq (sIf (tOr (tV (e2 neD (eCall 1 m_count_ahead (aCons (eVar 4) aNil)) (eCall 1 m_count_twice (aCons (eVar 4) aNil)))) (tV (e2 neD (eCall 1 m_count_behind (aCons (eVar 4) aNil)) (e2 subD (eCall 1 m_zz_twos (aCons (eVar 2) aNil)) (eVar 2))))) (sRet (eC (.bool false))) sSkip) (sSeq (sLet 14 (eCall 1 m_class_sizes (aCons (eVar 4) aNil))) (sSeq (sIf (tOr (tV (e2 neD (e2 ixD (eVar 14) (e1 negD (eC (.int 1)))) (eVar 10))) (tOr (tV (e2 neD (e2 ixD (eVar 14) (eC (.int 0))) (eC (.int 1)))) (tV (e2 neD (eLst (eComp [15] (iF rng2 (aCons (eC (.int 1)) (aCons (e2 subD (eVar 2) (eC (.int 1))) aNil))) (gN 15) (tV (e2 neD (e2 ixD (eVar 14) (eVar 15)) (e2 mulD (e2 mulD (e2 ixD (eVar 14) (e2 subD (eVar 15) (eC (.int 1)))) (eVar 15)) (eVar 3)))) (eVar 15))) (eLst (aCap aNil)))))) (sRet (eC (.bool false))) sSkip) (sSeq (sIf (tOr (tV (e2 neD (eCall 1 m_count_states (aCons (eVar 4) aNil)) (e2 mulD (eCall 1 m_count_states (aCons (eVar 5) aNil)) (e2 addD (e2 subD (eVar 2) (eC (.int 1))) (eVar 3))))) (tV (e2 neD (eCall 1 m_count_states (aCons (eVar 4) aNil)) (e2 mulD (eVar 6) (eCall 1 m_count_shapes (aCons (eVar 4) aNil)))))) (sRet (eC (.bool false))) sSkip) (sRet (eAnd (e2 eqD (e2 mulD (eCall 1 m_count_turns (aCons (eVar 4) aNil)) (eVar 3)) (eCall 1 m_count_states (aCons (eVar 4) aNil))) (e2 geD (e2 mulD (eCall 1 m_count_kinds (aCons (eVar 4) aNil)) (eVar 3)) (eCall 1 m_count_shapes (aCons (eVar 4) aNil)))))))))))))))))))
def w_law : NS :=
  (nSeq (nUnp (nTup (nCons (n2 addD (nV0 (eC (.int 2))) (nCall 2 w_zz_taken (nCons (nV0 (eVar 1)) (nCons (nV0 (eC (.int 5))) nNil)))) (nCons (n2 addD (nV0 (eC (.int 1))) (nCall 2 w_zz_taken (nCons (nV0 (eVar 1)) (nCons (nV0 (eC (.int 6))) nNil)))) nNil))) (gT 2 (gsCons (gN 2) (gsCons (gN 3) gsNil)))) (nForget [0, 1] (nS b_law)))
theorem mono_law : MonoS w_law := (mono_seq (mono_unp (mono_tup (mono_cons (mono_2 mono_v0 (mono_call mono_zz_taken (mono_cons mono_v0 (mono_cons mono_v0 mono_nil)))) (mono_cons (mono_2 mono_v0 (mono_call mono_zz_taken (mono_cons mono_v0 (mono_cons mono_v0 mono_nil)))) mono_nil)))) (mono_forget mono_s))
def Law : Prop := ∀ (a p : Addr), w_law p ((some (hnd a) :: List.replicate 15 none).set 1 (some (hnd p))) fun f _ => f = .rt (.bool true)
theorem ok_law (T : Txt K mg) (L : Law) : FnOk P w K mg base CX0 5 T.f_law T.d_law ["_law_script"] (spLaw K) := by
  refine (T.F_law).ok sc_law (fun vs H Q E h => by obtain ⟨a, ns, rfl, _⟩ := h; rfl) (fun cdv A outer s H vs Q E hr h => ?_)
  obtain ⟨a, ns, rfl, hO, hS, hq⟩ := h
  have hu := hr.units
  have hv := hu65 hr
  refine law_rest (O' := []) (k := 15) (ps_set (i := 1) sc_law.nd rfl (by first | exact .inl rfl | exact .inr rfl) (pe_lst (pa_cons (pv 0) (pa_cons pe_int (pa_cons pe_int (pa_cons pe_int pa_nil)))))) (by decide) ?_ mono_law (by decide) hO hS hq L
  exact (xb_cons (mono_unp (mono_tup (mono_cons (mono_2 mono_v0 (mono_call mono_zz_taken (mono_cons mono_v0 (mono_cons mono_v0 mono_nil)))) (mono_cons (mono_2 mono_v0 (mono_call mono_zz_taken (mono_cons mono_v0 (mono_cons mono_v0 mono_nil)))) mono_nil)))) (xs_unp (ps_asg (xe_tup (xa_cons (xe_op od_add (xe_v0 fe_int) (xe_nCall (ok_zz_taken T) (hr.mono (by decide)) (by rfl) T.g_zz_taken T.F_zz_taken.kp T.b_zz_taken (xa_cons (xe_v0 (fe_var 1 (pv 1))) (xa_cons (xe_v0 fe_int) xa_nil)))) (xa_cons (xe_op od_add (xe_v0 fe_int) (xe_nCall (ok_zz_taken T) (hr.mono (by decide)) (by rfl) T.g_zz_taken T.F_zz_taken.kp T.b_zz_taken (xa_cons (xe_v0 (fe_var 1 (pv 1))) (xa_cons (xe_v0 fe_int) xa_nil)))) xa_nil))).pe (FG.pg (fg_tup rfl (fgs_cons (fg_name (pg_name (i := 2) sc_law.nd rfl (by first | exact .inl rfl | exact .inr rfl))) (fgs_cons (fg_name (pg_name (i := 3) sc_law.nd rfl (by first | exact .inl rfl | exact .inr rfl))) fgs_nil))))) (so (vs := [2, 3]) (si_t (si_cons (si_n (by decide)) (si_cons (si_n (by decide)) si_nil))) (by decide))) (xb_forget [0, 1] (xb_s (fb_cons (fs_par2 (ps_par (i := 4) (j := 5) rfl sc_law.nd rfl rfl (by decide) rfl rfl (FK.pa (fk_val (fe_tup (fa_cons (fe_var 2 (pv 2)) (fa_cons (fe_var 3 (pv 3)) fa_nil))) (fk_val (fe_tup (fa_cons (fe_op od_sub (fe_var 2 (pv 2)) fe_int) (fa_cons (fe_var 3 (pv 3)) fa_nil))) fk_nil))) (by rfl)) rfl) (fb_cons (fs_let' (ps_set (i := 6) sc_law.nd rfl (by first | exact .inl rfl | exact .inr rfl) fe_int.pe)) (fb_cons (fs_forR PassesOwn.never rfl (fn_range1 (by rfl) T.n_range (fa_cons (fe_var 2 (pv 2)) fa_nil)) (fg_name (pg_name (i := 7) sc_law.nd rfl (by first | exact .inl rfl | exact .inr rfl))) (so (vs := [7]) (si_n (by decide)) (by decide)) (fb_one (fs_let' (ps_set (i := 6) sc_law.nd rfl (by first | exact .inl rfl | exact .inr rfl) (fe_op od_mul (fe_var 6 (pv 6)) (fe_op od_add (fe_var 7 (pv 7)) fe_int)).pe)))) (fb_cons (fs_let' (ps_set (i := 8) sc_law.nd rfl (by first | exact .inl rfl | exact .inr rfl) fe_int.pe)) (fb_cons (fs_forR PassesOwn.never rfl (fn_range1 (by rfl) T.n_range (fa_cons (fe_var 2 (pv 2)) fa_nil)) (fg_name (pg_name (i := 9) sc_law.nd rfl (by first | exact .inl rfl | exact .inr rfl))) (so (vs := [9]) (si_n (by decide)) (by decide)) (fb_one (fs_let' (ps_set (i := 8) sc_law.nd rfl (by first | exact .inl rfl | exact .inr rfl) (fe_op od_mul (fe_var 8 (pv 8)) (fe_var 3 (pv 3))).pe)))) (fb_cons (fs_par2 (ps_par (i := 10) (j := 11) rfl sc_law.nd rfl rfl (by decide) rfl rfl (FK.pa (fk_val (fe_op od_mul (fe_var 6 (pv 6)) (fe_var 8 (pv 8))) (fk_val (fe_op od_sub (fe_call (ok_count_deeds T) (hr.mono (by decide)) (by rfl) T.g_count_deeds T.F_count_deeds.kp T.b_count_deeds (fa_cons (fe_var 4 (pv 4)) fa_nil)) (fe_op od_mul (fe_var 6 (pv 6)) (fe_var 8 (pv 8)))) fk_nil))) (by rfl)) rfl) (fb_cons (fs_unpV (ps_asg (fe_tup (fa_cons fe_int (fa_cons fe_int fa_nil))).pe (FG.pg (fg_tup rfl (fgs_cons (fg_name (pg_name (i := 12) sc_law.nd rfl (by first | exact .inl rfl | exact .inr rfl))) (fgs_cons (fg_name (pg_name (i := 13) sc_law.nd rfl (by first | exact .inl rfl | exact .inr rfl))) fgs_nil))))) (so (vs := [12, 13]) (si_t (si_cons (si_n (by decide)) (si_cons (si_n (by decide)) si_nil))) (by decide))) (fb_cons (fs_forR PassesOwn.never rfl (fn_range1 (by rfl) T.n_range (fa_cons (fe_op od_sub (fe_var 2 (pv 2)) fe_int) fa_nil)) (fg_name (pg_name (i := 7) sc_law.nd rfl (by first | exact .inl rfl | exact .inr rfl))) (so (vs := [7]) (si_n (by decide)) (by decide)) (fb_cons (fs_let' (ps_set (i := 12) sc_law.nd rfl (by first | exact .inl rfl | exact .inr rfl) (fe_op od_add (fe_var 12 (pv 12)) (fe_var 13 (pv 13))).pe)) (fb_one (fs_let' (ps_set (i := 13) sc_law.nd rfl (by first | exact .inl rfl | exact .inr rfl) (fe_op od_mul (fe_op od_mul (fe_var 13 (pv 13)) (fe_op od_sub (fe_var 2 (pv 2)) (fe_var 7 (pv 7)))) (fe_var 3 (pv 3))).pe))))) (fb_cons (fs_if (FW.ft (fw_or (ft_cmp (od_ne hu) (fe_var 11 (pv 11)) (fe_var 12 (pv 12)) (by rfl)) (fw_or1 (ft_cmp od_lt (fe_var 10 (pv 10)) fe_int (by rfl))))) (fb_one (fs_ret fe_bl)) fb_nil) (fb_cons (fs_if (ft_cmp (od_ne hu) (fe_call (ok_count_twice T) (hr.mono (by decide)) (by rfl) T.g_count_twice T.F_count_twice.kp T.b_count_twice (fa_cons (fe_var 4 (pv 4)) fa_nil)) (fe_op od_add fe_int (fe_op od_mul (fe_var 2 (pv 2)) (fe_call (ok_count_twice T) (hr.mono (by decide)) (by rfl) T.g_count_twice T.F_count_twice.kp T.b_count_twice (fa_cons (fe_var 5 (pv 5)) fa_nil)))) (by rfl)) (fb_one (fs_ret fe_bl)) fb_nil) (fb_cons (fs_if (FW.ft (fw_or (ft_cmp (od_ne hu) (fe_call (ok_count_ahead T) (hr.mono (by decide)) (by rfl) T.g_count_ahead T.F_count_ahead.kp T.b_count_ahead (fa_cons (fe_var 4 (pv 4)) fa_nil)) (fe_call (ok_count_twice T) (hr.mono (by decide)) (by rfl) T.g_count_twice T.F_count_twice.kp T.b_count_twice (fa_cons (fe_var 4 (pv 4)) fa_nil)) (by rfl)) (fw_or1 (ft_cmp (od_ne hu) (fe_call (ok_count_behind T) (hr.mono (by decide)) (by rfl) T.g_count_behind T.F_count_behind.kp T.b_count_behind (fa_cons (fe_var 4 (pv 4)) fa_nil)) (fe_op od_sub (fe_call (ok_zz_twos T) (hr.mono (by decide)) (by rfl) T.g_zz_twos T.F_zz_twos.kp T.b_zz_twos (fa_cons (fe_var 2 (pv 2)) fa_nil)) (fe_var 2 (pv 2))) (by rfl))))) (fb_one (fs_ret fe_bl)) fb_nil) (fb_cons (fs_let' (ps_set (i := 14) sc_law.nd rfl (by first | exact .inl rfl | exact .inr rfl) (fe_call (ok_class_sizes T) (hr.mono (by decide)) (by rfl) T.g_class_sizes T.F_class_sizes.kp T.b_class_sizes (fa_cons (fe_var 4 (pv 4)) fa_nil)).pe)) (fb_cons (fs_if (FW.ft (fw_or (ft_cmp (od_ne hu) (fe_ix (fe_var 14 (pv 14)) (fe_un od_neg fe_int) (fun _ _ => rfl)) (fe_var 10 (pv 10)) (by rfl)) (fw_or (ft_cmp (od_ne hu) (fe_ix (fe_var 14 (pv 14)) fe_int (fun _ _ => rfl)) fe_int (by rfl)) (fw_or1 (ft_cmp (od_ne hu) (FF.fe (ff_comp (own := [("_law_at", 15)]) rfl sc_law.nd (FN.fi (fn_range2 (by rfl) T.n_range (fa_cons fe_int (fa_cons (fe_op od_sub (fe_var 2 (pv 2)) fe_int) fa_nil)))) (blkOk_by (own := [("_law_at", 15)]) (N := Nlaw) (sc := defScope slaw) (by decide +kernel)) (si_n (by decide)) (fun _ _ _ _ _ => (fg_name (pg_name (i := 15) sc_law.nd rfl (by first | exact .inl rfl | exact .inr rfl)))) (fun _ _ _ _ _ => (fts_one (ft_cmp (od_ne hu) (fe_ix (fe_var 14 (pv 14)) (fe_var 15 (pv 15)) (fun _ _ => rfl)) (fe_op od_mul (fe_op od_mul (fe_ix (fe_var 14 (pv 14)) (fe_op od_sub (fe_var 15 (pv 15)) fe_int) (fun _ _ => rfl)) (fe_var 15 (pv 15))) (fe_var 3 (pv 3))) (by rfl)))) (fun _ _ _ _ _ => (fe_var 15 (pv 15))))) (FF.fe (ff_lst fa_nil)) (by rfl)))))) (fb_one (fs_ret fe_bl)) fb_nil) (fb_cons (fs_if (FW.ft (fw_or (ft_cmp (od_ne hu) (fe_call (ok_count_states T) (hr.mono (by decide)) (by rfl) T.g_count_states T.F_count_states.kp T.b_count_states (fa_cons (fe_var 4 (pv 4)) fa_nil)) (fe_op od_mul (fe_call (ok_count_states T) (hr.mono (by decide)) (by rfl) T.g_count_states T.F_count_states.kp T.b_count_states (fa_cons (fe_var 5 (pv 5)) fa_nil)) (fe_op od_add (fe_op od_sub (fe_var 2 (pv 2)) fe_int) (fe_var 3 (pv 3)))) (by rfl)) (fw_or1 (ft_cmp (od_ne hu) (fe_call (ok_count_states T) (hr.mono (by decide)) (by rfl) T.g_count_states T.F_count_states.kp T.b_count_states (fa_cons (fe_var 4 (pv 4)) fa_nil)) (fe_op od_mul (fe_var 6 (pv 6)) (fe_call (ok_count_shapes T) (hr.mono (by decide)) (by rfl) T.g_count_shapes T.F_count_shapes.kp T.b_count_shapes (fa_cons (fe_var 4 (pv 4)) fa_nil))) (by rfl))))) (fb_one (fs_ret fe_bl)) fb_nil) (fb_one (fs_ret (fe_and (fe_cmp (od_eq hu) (fe_op od_mul (fe_call (ok_count_turns T) (hr.mono (by decide)) (by rfl) T.g_count_turns T.F_count_turns.kp T.b_count_turns (fa_cons (fe_var 4 (pv 4)) fa_nil)) (fe_var 3 (pv 3))) (fe_call (ok_count_states T) (hr.mono (by decide)) (by rfl) T.g_count_states T.F_count_states.kp T.b_count_states (fa_cons (fe_var 4 (pv 4)) fa_nil)) (by rfl)) (fe_and1 (fe_cmp od_ge (fe_op od_mul (fe_call (ok_count_kinds T) (hr.mono (by decide)) (by rfl) T.g_count_kinds T.F_count_kinds.kp T.b_count_kinds (fa_cons (fe_var 4 (pv 4)) fa_nil)) (fe_var 3 (pv 3))) (fe_call (ok_count_shapes T) (hr.mono (by decide)) (by rfl) T.g_count_shapes T.F_count_shapes.kp T.b_count_shapes (fa_cons (fe_var 4 (pv 4)) fa_nil)) (by rfl)))))))))))))))))))))))
end
/-! ### the law -/
def env96 (p c : Int) : Env' := [none, none, some (.int p), some (.int c)] ++ List.replicate 12 none
def chk (p c : Nat) : Bool := yes (b_law (env96 (2 + (p : Int)) (1 + (c : Int))))
theorem chk_0 : ((List.range 6).all fun c => chk 0 c) = true := by decide +kernel
theorem chk_1 : ((List.range 6).all fun c => chk 1 c) = true := by decide +kernel
theorem chk_2 : ((List.range 6).all fun c => chk 2 c) = true := by decide +kernel
theorem chk_3 : ((List.range 6).all fun c => chk 3 c) = true := by decide +kernel
theorem chk_4 : ((List.range 6).all fun c => chk 4 c) = true := by decide +kernel
theorem chk_all : ∀ p : Nat, p < 5 → ((List.range 6).all fun c => chk p c) = true
  | 0, _ => chk_0
  | 1, _ => chk_1
  | 2, _ => chk_2
  | 3, _ => chk_3
  | 4, _ => chk_4
  | p + 5, h => absurd h (by omega)
theorem chk_some {p c : Int} (hp : 0 ≤ p ∧ p < 5) (hc : 0 ≤ c ∧ c < 6) : ∃ f env', b_law (env96 (2 + p) (1 + c)) = some (f, env') ∧ f = .rt (.bool true) := by
  have h := List.all_eq_true.mp (chk_all p.toNat (by omega)) c.toNat (List.mem_range.mpr (by omega))
  rw [show (2 + p : Int) = 2 + (p.toNat : Int) by omega, show (1 + c : Int) = 1 + (c.toNat : Int) by omega]
  exact yes_some h
theorem law_true : Law := by
  intro a p
  refine ⟨.int 2, rfl, ⟨hnd p, rfl, .int 5, rfl, rfl, 5, rfl, by decide, by decide, fun d1 h1 h2 => ⟨.int (2 + d1), rfl, .int 1, rfl, ⟨hnd p, rfl, .int 6, rfl, rfl, 6, rfl, by decide, by decide, fun d2 h3 h4 => ⟨.int (1 + d2), rfl, (show 2 ≤ 16777216 by decide), _, rfl, ?_⟩⟩⟩⟩⟩
  exact chk_some ⟨h1, h2⟩ ⟨h3, h4⟩
theorem all_mk {l : PySem.W.OpenLaw} {w : World} {K : PySem.W.Frag} {h : Heap} {mg : Str → Option Value} {fa : Addr} (L : Law) (X : K.In h) (G : h.Ns mainGlobals mg) (hfa : mg "law" = some (.ref fa))
    {f_is_list : Addr} {od_is_list an_is_list : Option Addr} {sl_is_list : Array (Option Value)} {oc_is_list kV_is_list dc_is_list pm_is_list cd_is_list ct_is_list : Value}
    {f_is_integer : Addr} {od_is_integer an_is_integer : Option Addr} {sl_is_integer : Array (Option Value)} {oc_is_integer kV_is_integer dc_is_integer pm_is_integer cd_is_integer ct_is_integer : Value}
    {f_is_in : Addr} {od_is_in an_is_in : Option Addr} {sl_is_in : Array (Option Value)} {oc_is_in kV_is_in dc_is_in pm_is_in cd_is_in ct_is_in : Value}
    {f_need_office : Addr} {od_need_office an_need_office : Option Addr} {sl_need_office : Array (Option Value)} {oc_need_office kV_need_office dc_need_office pm_need_office cd_need_office ct_need_office : Value}
    {f_factorial : Addr} {od_factorial an_factorial : Option Addr} {sl_factorial : Array (Option Value)} {oc_factorial kV_factorial dc_factorial pm_factorial cd_factorial ct_factorial : Value}
    {f_raised : Addr} {od_raised an_raised : Option Addr} {sl_raised : Array (Option Value)} {oc_raised kV_raised dc_raised pm_raised cd_raised ct_raised : Value}
    {f_class_sizes : Addr} {od_class_sizes an_class_sizes : Option Addr} {sl_class_sizes : Array (Option Value)} {oc_class_sizes kV_class_sizes dc_class_sizes pm_class_sizes cd_class_sizes ct_class_sizes : Value}
    {f_choose : Addr} {od_choose an_choose : Option Addr} {sl_choose : Array (Option Value)} {oc_choose kV_choose dc_choose pm_choose cd_choose ct_choose : Value}
    {f_count_twice : Addr} {od_count_twice an_count_twice : Option Addr} {sl_count_twice : Array (Option Value)} {oc_count_twice kV_count_twice dc_count_twice pm_count_twice cd_count_twice ct_count_twice : Value}
    {f_zz_taken : Addr} {od_zz_taken an_zz_taken : Option Addr} {sl_zz_taken : Array (Option Value)} {oc_zz_taken kV_zz_taken dc_zz_taken pm_zz_taken cd_zz_taken ct_zz_taken : Value}
    {f_number_of_deeds : Addr} {od_number_of_deeds an_number_of_deeds : Option Addr} {sl_number_of_deeds : Array (Option Value)} {oc_number_of_deeds kV_number_of_deeds dc_number_of_deeds pm_number_of_deeds cd_number_of_deeds ct_number_of_deeds : Value}
    {f_count_deeds : Addr} {od_count_deeds an_count_deeds : Option Addr} {sl_count_deeds : Array (Option Value)} {oc_count_deeds kV_count_deeds dc_count_deeds pm_count_deeds cd_count_deeds ct_count_deeds : Value}
    {f_count_ahead : Addr} {od_count_ahead an_count_ahead : Option Addr} {sl_count_ahead : Array (Option Value)} {oc_count_ahead kV_count_ahead dc_count_ahead pm_count_ahead cd_count_ahead ct_count_ahead : Value}
    {f_count_behind : Addr} {od_count_behind an_count_behind : Option Addr} {sl_count_behind : Array (Option Value)} {oc_count_behind kV_count_behind dc_count_behind pm_count_behind cd_count_behind ct_count_behind : Value}
    {f_number_of_states : Addr} {od_number_of_states an_number_of_states : Option Addr} {sl_number_of_states : Array (Option Value)} {oc_number_of_states kV_number_of_states dc_number_of_states pm_number_of_states cd_number_of_states ct_number_of_states : Value}
    {f_count_states : Addr} {od_count_states an_count_states : Option Addr} {sl_count_states : Array (Option Value)} {oc_count_states kV_count_states dc_count_states pm_count_states cd_count_states ct_count_states : Value}
    {f_count_shapes : Addr} {od_count_shapes an_count_shapes : Option Addr} {sl_count_shapes : Array (Option Value)} {oc_count_shapes kV_count_shapes dc_count_shapes pm_count_shapes cd_count_shapes ct_count_shapes : Value}
    {f_zz_twos : Addr} {od_zz_twos an_zz_twos : Option Addr} {sl_zz_twos : Array (Option Value)} {oc_zz_twos kV_zz_twos dc_zz_twos pm_zz_twos cd_zz_twos ct_zz_twos : Value}
    {f_count_turns : Addr} {od_count_turns an_count_turns : Option Addr} {sl_count_turns : Array (Option Value)} {oc_count_turns kV_count_turns dc_count_turns pm_count_turns cd_count_turns ct_count_turns : Value}
    {f_count_kinds : Addr} {od_count_kinds an_count_kinds : Option Addr} {sl_count_kinds : Array (Option Value)} {oc_count_kinds kV_count_kinds dc_count_kinds pm_count_kinds cd_count_kinds ct_count_kinds : Value}
    {f_law : Addr} {od_law an_law : Option Addr} {sl_law : Array (Option Value)} {oc_law kV_law dc_law pm_law cd_law ct_law : Value}
    (a_is_list : PySem.W.nsIn K mainGlobals "is_list" = some (some (.ref f_is_list))) (l_is_list : K.lookup f_is_list = some ⟨oc_is_list, od_is_list, .func (PySem.W.fnOf "is_list" "is_list" (defArgs sis_list) (defBody sis_list) (defScope sis_list) .none kV_is_list dc_is_list pm_is_list an_is_list cd_is_list ct_is_list), sl_is_list⟩) (c_is_list : PySem.W.codeIn K cd_is_list "is_list" = true) (k_is_list : PySem.W.keepIn K (.ref f_is_list) = true)
    (a_is_integer : PySem.W.nsIn K mainGlobals "is_integer" = some (some (.ref f_is_integer))) (l_is_integer : K.lookup f_is_integer = some ⟨oc_is_integer, od_is_integer, .func (PySem.W.fnOf "is_integer" "is_integer" (defArgs sis_integer) (defBody sis_integer) (defScope sis_integer) .none kV_is_integer dc_is_integer pm_is_integer an_is_integer cd_is_integer ct_is_integer), sl_is_integer⟩) (c_is_integer : PySem.W.codeIn K cd_is_integer "is_integer" = true) (k_is_integer : PySem.W.keepIn K (.ref f_is_integer) = true)
    (a_is_in : PySem.W.nsIn K mainGlobals "is_in" = some (some (.ref f_is_in))) (l_is_in : K.lookup f_is_in = some ⟨oc_is_in, od_is_in, .func (PySem.W.fnOf "is_in" "is_in" (defArgs sis_in) (defBody sis_in) (defScope sis_in) .none kV_is_in dc_is_in pm_is_in an_is_in cd_is_in ct_is_in), sl_is_in⟩) (c_is_in : PySem.W.codeIn K cd_is_in "is_in" = true) (k_is_in : PySem.W.keepIn K (.ref f_is_in) = true)
    (a_need_office : PySem.W.nsIn K mainGlobals "need_office" = some (some (.ref f_need_office))) (l_need_office : K.lookup f_need_office = some ⟨oc_need_office, od_need_office, .func (PySem.W.fnOf "need_office" "need_office" (defArgs sneed_office) (defBody sneed_office) (defScope sneed_office) .none kV_need_office dc_need_office pm_need_office an_need_office cd_need_office ct_need_office), sl_need_office⟩) (c_need_office : PySem.W.codeIn K cd_need_office "need_office" = true) (k_need_office : PySem.W.keepIn K (.ref f_need_office) = true)
    (a_factorial : PySem.W.nsIn K mainGlobals "factorial" = some (some (.ref f_factorial))) (l_factorial : K.lookup f_factorial = some ⟨oc_factorial, od_factorial, .func (PySem.W.fnOf "factorial" "factorial" (defArgs sfactorial) (defBody sfactorial) (defScope sfactorial) .none kV_factorial dc_factorial pm_factorial an_factorial cd_factorial ct_factorial), sl_factorial⟩) (c_factorial : PySem.W.codeIn K cd_factorial "factorial" = true) (k_factorial : PySem.W.keepIn K (.ref f_factorial) = true)
    (a_raised : PySem.W.nsIn K mainGlobals "raised" = some (some (.ref f_raised))) (l_raised : K.lookup f_raised = some ⟨oc_raised, od_raised, .func (PySem.W.fnOf "raised" "raised" (defArgs sraised) (defBody sraised) (defScope sraised) .none kV_raised dc_raised pm_raised an_raised cd_raised ct_raised), sl_raised⟩) (c_raised : PySem.W.codeIn K cd_raised "raised" = true) (k_raised : PySem.W.keepIn K (.ref f_raised) = true)
    (a_class_sizes : PySem.W.nsIn K mainGlobals "class_sizes" = some (some (.ref f_class_sizes))) (l_class_sizes : K.lookup f_class_sizes = some ⟨oc_class_sizes, od_class_sizes, .func (PySem.W.fnOf "class_sizes" "class_sizes" (defArgs sclass_sizes) (defBody sclass_sizes) (defScope sclass_sizes) .none kV_class_sizes dc_class_sizes pm_class_sizes an_class_sizes cd_class_sizes ct_class_sizes), sl_class_sizes⟩) (c_class_sizes : PySem.W.codeIn K cd_class_sizes "class_sizes" = true) (k_class_sizes : PySem.W.keepIn K (.ref f_class_sizes) = true)
    (a_choose : PySem.W.nsIn K mainGlobals "choose" = some (some (.ref f_choose))) (l_choose : K.lookup f_choose = some ⟨oc_choose, od_choose, .func (PySem.W.fnOf "choose" "choose" (defArgs schoose) (defBody schoose) (defScope schoose) .none kV_choose dc_choose pm_choose an_choose cd_choose ct_choose), sl_choose⟩) (c_choose : PySem.W.codeIn K cd_choose "choose" = true) (k_choose : PySem.W.keepIn K (.ref f_choose) = true)
    (a_count_twice : PySem.W.nsIn K mainGlobals "count_twice" = some (some (.ref f_count_twice))) (l_count_twice : K.lookup f_count_twice = some ⟨oc_count_twice, od_count_twice, .func (PySem.W.fnOf "count_twice" "count_twice" (defArgs scount_twice) (defBody scount_twice) (defScope scount_twice) .none kV_count_twice dc_count_twice pm_count_twice an_count_twice cd_count_twice ct_count_twice), sl_count_twice⟩) (c_count_twice : PySem.W.codeIn K cd_count_twice "count_twice" = true) (k_count_twice : PySem.W.keepIn K (.ref f_count_twice) = true)
    (a_zz_taken : PySem.W.nsIn K mainGlobals "_law_taken" = some (some (.ref f_zz_taken))) (l_zz_taken : K.lookup f_zz_taken = some ⟨oc_zz_taken, od_zz_taken, .func (PySem.W.fnOf "_law_taken" "_law_taken" (defArgs szz_taken) (defBody szz_taken) (defScope szz_taken) .none kV_zz_taken dc_zz_taken pm_zz_taken an_zz_taken cd_zz_taken ct_zz_taken), sl_zz_taken⟩) (c_zz_taken : PySem.W.codeIn K cd_zz_taken "_law_taken" = true) (k_zz_taken : PySem.W.keepIn K (.ref f_zz_taken) = true)
    (a_number_of_deeds : PySem.W.nsIn K mainGlobals "number_of_deeds" = some (some (.ref f_number_of_deeds))) (l_number_of_deeds : K.lookup f_number_of_deeds = some ⟨oc_number_of_deeds, od_number_of_deeds, .func (PySem.W.fnOf "number_of_deeds" "number_of_deeds" (defArgs snumber_of_deeds) (defBody snumber_of_deeds) (defScope snumber_of_deeds) .none kV_number_of_deeds dc_number_of_deeds pm_number_of_deeds an_number_of_deeds cd_number_of_deeds ct_number_of_deeds), sl_number_of_deeds⟩) (c_number_of_deeds : PySem.W.codeIn K cd_number_of_deeds "number_of_deeds" = true) (k_number_of_deeds : PySem.W.keepIn K (.ref f_number_of_deeds) = true)
    (a_count_deeds : PySem.W.nsIn K mainGlobals "count_deeds" = some (some (.ref f_count_deeds))) (l_count_deeds : K.lookup f_count_deeds = some ⟨oc_count_deeds, od_count_deeds, .func (PySem.W.fnOf "count_deeds" "count_deeds" (defArgs scount_deeds) (defBody scount_deeds) (defScope scount_deeds) .none kV_count_deeds dc_count_deeds pm_count_deeds an_count_deeds cd_count_deeds ct_count_deeds), sl_count_deeds⟩) (c_count_deeds : PySem.W.codeIn K cd_count_deeds "count_deeds" = true) (k_count_deeds : PySem.W.keepIn K (.ref f_count_deeds) = true)
    (a_count_ahead : PySem.W.nsIn K mainGlobals "count_ahead" = some (some (.ref f_count_ahead))) (l_count_ahead : K.lookup f_count_ahead = some ⟨oc_count_ahead, od_count_ahead, .func (PySem.W.fnOf "count_ahead" "count_ahead" (defArgs scount_ahead) (defBody scount_ahead) (defScope scount_ahead) .none kV_count_ahead dc_count_ahead pm_count_ahead an_count_ahead cd_count_ahead ct_count_ahead), sl_count_ahead⟩) (c_count_ahead : PySem.W.codeIn K cd_count_ahead "count_ahead" = true) (k_count_ahead : PySem.W.keepIn K (.ref f_count_ahead) = true)
    (a_count_behind : PySem.W.nsIn K mainGlobals "count_behind" = some (some (.ref f_count_behind))) (l_count_behind : K.lookup f_count_behind = some ⟨oc_count_behind, od_count_behind, .func (PySem.W.fnOf "count_behind" "count_behind" (defArgs scount_behind) (defBody scount_behind) (defScope scount_behind) .none kV_count_behind dc_count_behind pm_count_behind an_count_behind cd_count_behind ct_count_behind), sl_count_behind⟩) (c_count_behind : PySem.W.codeIn K cd_count_behind "count_behind" = true) (k_count_behind : PySem.W.keepIn K (.ref f_count_behind) = true)
    (a_number_of_states : PySem.W.nsIn K mainGlobals "number_of_states" = some (some (.ref f_number_of_states))) (l_number_of_states : K.lookup f_number_of_states = some ⟨oc_number_of_states, od_number_of_states, .func (PySem.W.fnOf "number_of_states" "number_of_states" (defArgs snumber_of_states) (defBody snumber_of_states) (defScope snumber_of_states) .none kV_number_of_states dc_number_of_states pm_number_of_states an_number_of_states cd_number_of_states ct_number_of_states), sl_number_of_states⟩) (c_number_of_states : PySem.W.codeIn K cd_number_of_states "number_of_states" = true) (k_number_of_states : PySem.W.keepIn K (.ref f_number_of_states) = true)
    (a_count_states : PySem.W.nsIn K mainGlobals "count_states" = some (some (.ref f_count_states))) (l_count_states : K.lookup f_count_states = some ⟨oc_count_states, od_count_states, .func (PySem.W.fnOf "count_states" "count_states" (defArgs scount_states) (defBody scount_states) (defScope scount_states) .none kV_count_states dc_count_states pm_count_states an_count_states cd_count_states ct_count_states), sl_count_states⟩) (c_count_states : PySem.W.codeIn K cd_count_states "count_states" = true) (k_count_states : PySem.W.keepIn K (.ref f_count_states) = true)
    (a_count_shapes : PySem.W.nsIn K mainGlobals "count_shapes" = some (some (.ref f_count_shapes))) (l_count_shapes : K.lookup f_count_shapes = some ⟨oc_count_shapes, od_count_shapes, .func (PySem.W.fnOf "count_shapes" "count_shapes" (defArgs scount_shapes) (defBody scount_shapes) (defScope scount_shapes) .none kV_count_shapes dc_count_shapes pm_count_shapes an_count_shapes cd_count_shapes ct_count_shapes), sl_count_shapes⟩) (c_count_shapes : PySem.W.codeIn K cd_count_shapes "count_shapes" = true) (k_count_shapes : PySem.W.keepIn K (.ref f_count_shapes) = true)
    (a_zz_twos : PySem.W.nsIn K mainGlobals "_law_twos" = some (some (.ref f_zz_twos))) (l_zz_twos : K.lookup f_zz_twos = some ⟨oc_zz_twos, od_zz_twos, .func (PySem.W.fnOf "_law_twos" "_law_twos" (defArgs szz_twos) (defBody szz_twos) (defScope szz_twos) .none kV_zz_twos dc_zz_twos pm_zz_twos an_zz_twos cd_zz_twos ct_zz_twos), sl_zz_twos⟩) (c_zz_twos : PySem.W.codeIn K cd_zz_twos "_law_twos" = true) (k_zz_twos : PySem.W.keepIn K (.ref f_zz_twos) = true)
    (a_count_turns : PySem.W.nsIn K mainGlobals "count_turns" = some (some (.ref f_count_turns))) (l_count_turns : K.lookup f_count_turns = some ⟨oc_count_turns, od_count_turns, .func (PySem.W.fnOf "count_turns" "count_turns" (defArgs scount_turns) (defBody scount_turns) (defScope scount_turns) .none kV_count_turns dc_count_turns pm_count_turns an_count_turns cd_count_turns ct_count_turns), sl_count_turns⟩) (c_count_turns : PySem.W.codeIn K cd_count_turns "count_turns" = true) (k_count_turns : PySem.W.keepIn K (.ref f_count_turns) = true)
    (a_count_kinds : PySem.W.nsIn K mainGlobals "count_kinds" = some (some (.ref f_count_kinds))) (l_count_kinds : K.lookup f_count_kinds = some ⟨oc_count_kinds, od_count_kinds, .func (PySem.W.fnOf "count_kinds" "count_kinds" (defArgs scount_kinds) (defBody scount_kinds) (defScope scount_kinds) .none kV_count_kinds dc_count_kinds pm_count_kinds an_count_kinds cd_count_kinds ct_count_kinds), sl_count_kinds⟩) (c_count_kinds : PySem.W.codeIn K cd_count_kinds "count_kinds" = true) (k_count_kinds : PySem.W.keepIn K (.ref f_count_kinds) = true)
    (a_law : PySem.W.nsIn K mainGlobals "law" = some (some (.ref f_law))) (l_law : K.lookup f_law = some ⟨oc_law, od_law, .func (PySem.W.fnOf "law" "law" (defArgs slaw) (defBody slaw) (defScope slaw) .none kV_law dc_law pm_law an_law cd_law ct_law), sl_law⟩) (c_law : PySem.W.codeIn K cd_law "law" = true) (k_law : PySem.W.keepIn K (.ref f_law) = true)
    (z_bool : PySem.W.nsIn K mainGlobals "bool" = some none)
    (z_int : PySem.W.nsIn K mainGlobals "int" = some none)
    (z_isinstance : PySem.W.nsIn K mainGlobals "isinstance" = some none)
    (z_len : PySem.W.nsIn K mainGlobals "len" = some none)
    (z_range : PySem.W.nsIn K mainGlobals "range" = some none)
    (z_sum : PySem.W.nsIn K mainGlobals "sum" = some none)
    (z_tuple : PySem.W.nsIn K mainGlobals "tuple" = some none)
    {t_MOST_COUNTERS : Tok} (y_MOST_COUNTERS : PySem.W.nsIn K mainGlobals "MOST_COUNTERS" = some (some (.int 6 t_MOST_COUNTERS)))
    {t_MOST_PEOPLE : Tok} (y_MOST_PEOPLE : PySem.W.nsIn K mainGlobals "MOST_PEOPLE" = some (some (.int 7 t_MOST_PEOPLE)))
    : ∃ fd : FuncData, (∀ (s : Shared) (v : Value), BindsTo s fd ⟨[v], []⟩ [("_law_script", v)]) ∧ ∀ base : Heap, K.In base → base.Ns mainGlobals mg → FnOk l.prog w K mg base CX0 5 fa fd ["_law_script"] (spLaw K) := by
  have e := hfa.symm.trans (PySem.W.mg_of X G a_law)
  cases e
  have F_is_list := fun_mk (st := sis_list) l_is_list c_is_list k_is_list
  have b_is_list := F_is_list.binds (ps := ["value", "least", "most"]) fun _ _ _ _ _ _ us hl => match us, hl with | [_, _, _], _ => rfl
  have F_is_integer := fun_mk (st := sis_integer) l_is_integer c_is_integer k_is_integer
  have b_is_integer := F_is_integer.binds (ps := ["value"]) fun _ _ _ _ _ _ us hl => match us, hl with | [_], _ => rfl
  have F_is_in := fun_mk (st := sis_in) l_is_in c_is_in k_is_in
  have b_is_in := F_is_in.binds (ps := ["value", "least", "most"]) fun _ _ _ _ _ _ us hl => match us, hl with | [_, _, _], _ => rfl
  have F_need_office := fun_mk (st := sneed_office) l_need_office c_need_office k_need_office
  have b_need_office := F_need_office.binds (ps := ["office"]) fun _ _ _ _ _ _ us hl => match us, hl with | [_], _ => rfl
  have F_factorial := fun_mk (st := sfactorial) l_factorial c_factorial k_factorial
  have b_factorial := F_factorial.binds (ps := ["many"]) fun _ _ _ _ _ _ us hl => match us, hl with | [_], _ => rfl
  have F_raised := fun_mk (st := sraised) l_raised c_raised k_raised
  have b_raised := F_raised.binds (ps := ["base", "times"]) fun _ _ _ _ _ _ us hl => match us, hl with | [_, _], _ => rfl
  have F_class_sizes := fun_mk (st := sclass_sizes) l_class_sizes c_class_sizes k_class_sizes
  have b_class_sizes := F_class_sizes.binds (ps := ["office"]) fun _ _ _ _ _ _ us hl => match us, hl with | [_], _ => rfl
  have F_choose := fun_mk (st := schoose) l_choose c_choose k_choose
  have b_choose := F_choose.binds (ps := ["many", "some"]) fun _ _ _ _ _ _ us hl => match us, hl with | [_, _], _ => rfl
  have F_count_twice := fun_mk (st := scount_twice) l_count_twice c_count_twice k_count_twice
  have b_count_twice := F_count_twice.binds (ps := ["office"]) fun _ _ _ _ _ _ us hl => match us, hl with | [_], _ => rfl
  have F_zz_taken := fun_mk (st := szz_taken) l_zz_taken c_zz_taken k_zz_taken
  have b_zz_taken := F_zz_taken.binds (ps := ["_law_row", "_law_many"]) fun _ _ _ _ _ _ us hl => match us, hl with | [_, _], _ => rfl
  have F_number_of_deeds := fun_mk (st := snumber_of_deeds) l_number_of_deeds c_number_of_deeds k_number_of_deeds
  have b_number_of_deeds := F_number_of_deeds.binds (ps := ["office"]) fun _ _ _ _ _ _ us hl => match us, hl with | [_], _ => rfl
  have F_count_deeds := fun_mk (st := scount_deeds) l_count_deeds c_count_deeds k_count_deeds
  have b_count_deeds := F_count_deeds.binds (ps := ["office"]) fun _ _ _ _ _ _ us hl => match us, hl with | [_], _ => rfl
  have F_count_ahead := fun_mk (st := scount_ahead) l_count_ahead c_count_ahead k_count_ahead
  have b_count_ahead := F_count_ahead.binds (ps := ["office"]) fun _ _ _ _ _ _ us hl => match us, hl with | [_], _ => rfl
  have F_count_behind := fun_mk (st := scount_behind) l_count_behind c_count_behind k_count_behind
  have b_count_behind := F_count_behind.binds (ps := ["office"]) fun _ _ _ _ _ _ us hl => match us, hl with | [_], _ => rfl
  have F_number_of_states := fun_mk (st := snumber_of_states) l_number_of_states c_number_of_states k_number_of_states
  have b_number_of_states := F_number_of_states.binds (ps := ["office"]) fun _ _ _ _ _ _ us hl => match us, hl with | [_], _ => rfl
  have F_count_states := fun_mk (st := scount_states) l_count_states c_count_states k_count_states
  have b_count_states := F_count_states.binds (ps := ["office"]) fun _ _ _ _ _ _ us hl => match us, hl with | [_], _ => rfl
  have F_count_shapes := fun_mk (st := scount_shapes) l_count_shapes c_count_shapes k_count_shapes
  have b_count_shapes := F_count_shapes.binds (ps := ["office"]) fun _ _ _ _ _ _ us hl => match us, hl with | [_], _ => rfl
  have F_zz_twos := fun_mk (st := szz_twos) l_zz_twos c_zz_twos k_zz_twos
  have b_zz_twos := F_zz_twos.binds (ps := ["_law_many"]) fun _ _ _ _ _ _ us hl => match us, hl with | [_], _ => rfl
  have F_count_turns := fun_mk (st := scount_turns) l_count_turns c_count_turns k_count_turns
  have b_count_turns := F_count_turns.binds (ps := ["office"]) fun _ _ _ _ _ _ us hl => match us, hl with | [_], _ => rfl
  have F_count_kinds := fun_mk (st := scount_kinds) l_count_kinds c_count_kinds k_count_kinds
  have b_count_kinds := F_count_kinds.binds (ps := ["office"]) fun _ _ _ _ _ _ us hl => match us, hl with | [_], _ => rfl
  have F_law := fun_mk (st := slaw) l_law c_law k_law
  have b_law := F_law.binds (ps := ["_law_script"]) fun _ _ _ _ _ _ us hl => match us, hl with | [_], _ => rfl
  let T : Txt K mg := { f_is_list := _, d_is_list := _, F_is_list := F_is_list, g_is_list := (PySem.W.mg_of X G a_is_list), b_is_list := b_is_list, f_is_integer := _, d_is_integer := _, F_is_integer := F_is_integer, g_is_integer := (PySem.W.mg_of X G a_is_integer), b_is_integer := b_is_integer, f_is_in := _, d_is_in := _, F_is_in := F_is_in, g_is_in := (PySem.W.mg_of X G a_is_in), b_is_in := b_is_in, f_need_office := _, d_need_office := _, F_need_office := F_need_office, g_need_office := (PySem.W.mg_of X G a_need_office), b_need_office := b_need_office, f_factorial := _, d_factorial := _, F_factorial := F_factorial, g_factorial := (PySem.W.mg_of X G a_factorial), b_factorial := b_factorial, f_raised := _, d_raised := _, F_raised := F_raised, g_raised := (PySem.W.mg_of X G a_raised), b_raised := b_raised, f_class_sizes := _, d_class_sizes := _, F_class_sizes := F_class_sizes, g_class_sizes := (PySem.W.mg_of X G a_class_sizes), b_class_sizes := b_class_sizes, f_choose := _, d_choose := _, F_choose := F_choose, g_choose := (PySem.W.mg_of X G a_choose), b_choose := b_choose, f_count_twice := _, d_count_twice := _, F_count_twice := F_count_twice, g_count_twice := (PySem.W.mg_of X G a_count_twice), b_count_twice := b_count_twice, f_zz_taken := _, d_zz_taken := _, F_zz_taken := F_zz_taken, g_zz_taken := (PySem.W.mg_of X G a_zz_taken), b_zz_taken := b_zz_taken, f_number_of_deeds := _, d_number_of_deeds := _, F_number_of_deeds := F_number_of_deeds, g_number_of_deeds := (PySem.W.mg_of X G a_number_of_deeds), b_number_of_deeds := b_number_of_deeds, f_count_deeds := _, d_count_deeds := _, F_count_deeds := F_count_deeds, g_count_deeds := (PySem.W.mg_of X G a_count_deeds), b_count_deeds := b_count_deeds, f_count_ahead := _, d_count_ahead := _, F_count_ahead := F_count_ahead, g_count_ahead := (PySem.W.mg_of X G a_count_ahead), b_count_ahead := b_count_ahead, f_count_behind := _, d_count_behind := _, F_count_behind := F_count_behind, g_count_behind := (PySem.W.mg_of X G a_count_behind), b_count_behind := b_count_behind, f_number_of_states := _, d_number_of_states := _, F_number_of_states := F_number_of_states, g_number_of_states := (PySem.W.mg_of X G a_number_of_states), b_number_of_states := b_number_of_states, f_count_states := _, d_count_states := _, F_count_states := F_count_states, g_count_states := (PySem.W.mg_of X G a_count_states), b_count_states := b_count_states, f_count_shapes := _, d_count_shapes := _, F_count_shapes := F_count_shapes, g_count_shapes := (PySem.W.mg_of X G a_count_shapes), b_count_shapes := b_count_shapes, f_zz_twos := _, d_zz_twos := _, F_zz_twos := F_zz_twos, g_zz_twos := (PySem.W.mg_of X G a_zz_twos), b_zz_twos := b_zz_twos, f_count_turns := _, d_count_turns := _, F_count_turns := F_count_turns, g_count_turns := (PySem.W.mg_of X G a_count_turns), b_count_turns := b_count_turns, f_count_kinds := _, d_count_kinds := _, F_count_kinds := F_count_kinds, g_count_kinds := (PySem.W.mg_of X G a_count_kinds), b_count_kinds := b_count_kinds, f_law := _, d_law := _, F_law := F_law, g_law := (PySem.W.mg_of X G a_law), b_law := b_law, n_bool := (PySem.W.mg_none_of X G z_bool), n_int := (PySem.W.mg_none_of X G z_int), n_isinstance := (PySem.W.mg_none_of X G z_isinstance), n_len := (PySem.W.mg_none_of X G z_len), n_range := (PySem.W.mg_none_of X G z_range), n_sum := (PySem.W.mg_none_of X G z_sum), n_tuple := (PySem.W.mg_none_of X G z_tuple), c_MOST_COUNTERS := ⟨_, PySem.W.mg_of X G y_MOST_COUNTERS⟩, c_MOST_PEOPLE := ⟨_, PySem.W.mg_of X G y_MOST_PEOPLE⟩ }
  exact ⟨_, fun s v => .of_eq rfl, fun base _ _ => ok_law T L⟩
end W
open PySem PySem.W PyProof.Rows
set_option maxHeartbeats 0 in
theorem PySem.Challenge.cw_counterlines_k96_whole_counts_by_people_holds : PySem.Challenge.rw_counterlines_k96_whole_counts_by_people.Holds := by
  w_on; o_law; k_head; (case hw => w_witness2)
  k_fill
  refine L2.walk_of (l := PySem.Challenge.rw_counterlines_k96_whole_counts_by_people) (n := 63) (k := 5) (x := "_law_script") (CX := fun _ => L2.CX0) (sp := fun w => FL.spLaw _) rfl (by decide) rfl ⟨rfl, by decide, by decide⟩ (fun w h Y => PySem.W.kIn_of Y) ?F (fun _ _ a ns hl hO hS => ⟨a, ns, rfl, hO, hS, fun _ => rfl⟩) (fun _ _ _ _ _ h => h)
  case F =>
    intro w mg fa h KX G hmg
    refine' W.all_mk W.law_true KX G hmg ?a_is_list ?l_is_list ?c_is_list ?k_is_list ?a_is_integer ?l_is_integer ?c_is_integer ?k_is_integer ?a_is_in ?l_is_in ?c_is_in ?k_is_in ?a_need_office ?l_need_office ?c_need_office ?k_need_office ?a_factorial ?l_factorial ?c_factorial ?k_factorial ?a_raised ?l_raised ?c_raised ?k_raised ?a_class_sizes ?l_class_sizes ?c_class_sizes ?k_class_sizes ?a_choose ?l_choose ?c_choose ?k_choose ?a_count_twice ?l_count_twice ?c_count_twice ?k_count_twice ?a_zz_taken ?l_zz_taken ?c_zz_taken ?k_zz_taken ?a_number_of_deeds ?l_number_of_deeds ?c_number_of_deeds ?k_number_of_deeds ?a_count_deeds ?l_count_deeds ?c_count_deeds ?k_count_deeds ?a_count_ahead ?l_count_ahead ?c_count_ahead ?k_count_ahead ?a_count_behind ?l_count_behind ?c_count_behind ?k_count_behind ?a_number_of_states ?l_number_of_states ?c_number_of_states ?k_number_of_states ?a_count_states ?l_count_states ?c_count_states ?k_count_states ?a_count_shapes ?l_count_shapes ?c_count_shapes ?k_count_shapes ?a_zz_twos ?l_zz_twos ?c_zz_twos ?k_zz_twos ?a_count_turns ?l_count_turns ?c_count_turns ?k_count_turns ?a_count_kinds ?l_count_kinds ?c_count_kinds ?k_count_kinds ?a_law ?l_law ?c_law ?k_law ?z_bool ?z_int ?z_isinstance ?z_len ?z_range ?z_sum ?z_tuple ?y_MOST_COUNTERS ?y_MOST_PEOPLE
    (case a_is_list => k_is); (case l_is_list => k_is); (case c_is_list => k_is); (case k_is_list => k_is); (case a_is_integer => k_is); (case l_is_integer => k_is); (case c_is_integer => k_is); (case k_is_integer => k_is); (case a_is_in => k_is); (case l_is_in => k_is); (case c_is_in => k_is); (case k_is_in => k_is); (case a_need_office => k_is); (case l_need_office => k_is); (case c_need_office => k_is); (case k_need_office => k_is); (case a_factorial => k_is); (case l_factorial => k_is); (case c_factorial => k_is); (case k_factorial => k_is); (case a_raised => k_is); (case l_raised => k_is); (case c_raised => k_is); (case k_raised => k_is); (case a_class_sizes => k_is); (case l_class_sizes => k_is); (case c_class_sizes => k_is); (case k_class_sizes => k_is); (case a_choose => k_is); (case l_choose => k_is); (case c_choose => k_is); (case k_choose => k_is); (case a_count_twice => k_is); (case l_count_twice => k_is); (case c_count_twice => k_is); (case k_count_twice => k_is); (case a_zz_taken => k_is); (case l_zz_taken => k_is); (case c_zz_taken => k_is); (case k_zz_taken => k_is); (case a_number_of_deeds => k_is); (case l_number_of_deeds => k_is); (case c_number_of_deeds => k_is); (case k_number_of_deeds => k_is); (case a_count_deeds => k_is); (case l_count_deeds => k_is); (case c_count_deeds => k_is); (case k_count_deeds => k_is); (case a_count_ahead => k_is); (case l_count_ahead => k_is); (case c_count_ahead => k_is); (case k_count_ahead => k_is); (case a_count_behind => k_is); (case l_count_behind => k_is); (case c_count_behind => k_is); (case k_count_behind => k_is); (case a_number_of_states => k_is); (case l_number_of_states => k_is); (case c_number_of_states => k_is); (case k_number_of_states => k_is); (case a_count_states => k_is); (case l_count_states => k_is); (case c_count_states => k_is); (case k_count_states => k_is); (case a_count_shapes => k_is); (case l_count_shapes => k_is); (case c_count_shapes => k_is); (case k_count_shapes => k_is); (case a_zz_twos => k_is); (case l_zz_twos => k_is); (case c_zz_twos => k_is); (case k_zz_twos => k_is); (case a_count_turns => k_is); (case l_count_turns => k_is); (case c_count_turns => k_is); (case k_count_turns => k_is); (case a_count_kinds => k_is); (case l_count_kinds => k_is); (case c_count_kinds => k_is); (case k_count_kinds => k_is); (case a_law => k_is); (case l_law => k_is); (case c_law => k_is); (case k_law => k_is); (case z_bool => k_is); (case z_int => k_is); (case z_isinstance => k_is); (case z_len => k_is); (case z_range => k_is); (case z_sum => k_is); (case z_tuple => k_is); (case y_MOST_COUNTERS => k_is); (case y_MOST_PEOPLE => k_is)

