import PyProof.Rows.All
import Wide.All
import OpenK.AllK
import Wide.FinOn
import HandS.ForMost
import HandS.ForExc
import HandS.Wide
import HandS.Lambda
import HandS.Deep
import HandS.IsInst
import HandS.ExcCtx
import HandS.HotCalls
import HandS.ExcIs
import HandS.EndTab
import HandS.TupAny
import HandS.TupMul
import HandS.Style
import HandS.Zip
import PySem.Challenge.RW_rulemade_k10_whole_draws
set_option Elab.async false
set_option linter.all false
set_option maxRecDepth 100000
set_option maxHeartbeats 4000000
/-! VL1: a value layer over HandS: plain data, what represents it in a heap, readings by functions upon plain data. -/
namespace VL
open PySem PySem.Spec PyProof.Rows L2

abbrev St := L2.St
inductive Dat where
  | non | bl (b : Bool) | int (i : Int) | str (s : Str) | lst (xs : List Dat) | tup (xs : List Dat) | rls (xs : List Dat)
  | dct (kvs : List (Key × Dat)) | ins (C : Str) (fs : List (Str × Dat)) | ty (n : String) | opq (a : Addr)
  deriving Inhabited

inductive Res (α : Type) where
  | ok (a : α) | exc (c : Str) | stuck

def Res.bind {α β : Type} (r : Res α) (k : α → Res β) : Res β := match r with
  | .ok a => k a
  | .exc c => .exc c
  | .stuck => .stuck
instance : Monad Res where
  pure := .ok
  bind := Res.bind
@[simp] theorem Res.bind_ok {α β : Type} (a : α) (k : α → Res β) : Res.bind (.ok a) k = k a := Eq.trans rfl rfl
@[simp] theorem Res.bind_exc {α β : Type} (c : Str) (k : α → Res β) : Res.bind (.exc c) k = .exc c := Eq.trans rfl rfl
@[simp] theorem Res.bind_stuck {α β : Type} (k : α → Res β) : Res.bind .stuck k = .stuck := Eq.trans rfl rfl
theorem Res.bind_assoc {α β γ : Type} (r : Res α) (k : α → Res β) (l : β → Res γ) : Res.bind (Res.bind r k) l = Res.bind r (fun a => Res.bind (k a) l) := by cases r <;> rfl

/-- the classes by names; the tables of code objects -/
structure Glob where
  cls : Str → Addr
  tabs : List (Addr × Str)

mutual
inductive Rep (K : PySem.W.Frag) (g : Glob) (F : Hp) : V → Dat → Prop
  | non : Rep K g F .non .non
  | bl (b : Bool) : Rep K g F (.bl b) (.bl b)
  | int (i : Int) : Rep K g F (.int i) (.int i)
  | str (x : Str) : Rep K g F (.str x) (.str x)
  | ty (n : String) : Rep K g F (.ty n) (.ty n)
  | opq (a : Addr) : Rep K g F (.ref a) (.opq a)
  | lst {a : Addr} {xs : List V} {ds : List Dat} : F a = some (.lst xs) → Reps K g F xs ds → Rep K g F (.ref a) (.lst ds)
  | rls {a : Addr} {xs : List V} {ds : List Dat} : SqL K F a xs → Reps K g F xs ds → Rep K g F (.ref a) (.rls ds)
  | tup {a : Addr} {xs : List V} {ds : List Dat} : SqT K F a xs → Reps K g F xs ds → Rep K g F (.ref a) (.tup ds)
  | dct {a : Addr} {kvs : List (Key × V)} {ds : List (Key × Dat)} : Rd F a (.dK kvs) → kvs.map Prod.fst = ds.map Prod.fst → Reps K g F (kvs.map Prod.snd) (ds.map Prod.snd) → Rep K g F (.ref a) (.dct ds)
  | ins {a dx : Addr} {C : Str} {fs : List (Str × V)} {ds : List (Str × Dat)} : F a = some (.ins (g.cls C) dx fs) → fs.map Prod.fst = ds.map Prod.fst → Reps K g F (fs.map Prod.snd) (ds.map Prod.snd) → Rep K g F (.ref a) (.ins C ds)
inductive Reps (K : PySem.W.Frag) (g : Glob) (F : Hp) : List V → List Dat → Prop
  | nil : Reps K g F [] []
  | cons {v : V} {vs : List V} {d : Dat} {ds : List Dat} : Rep K g F v d → Reps K g F vs ds → Reps K g F (v :: vs) (d :: ds)
end

section
variable {K : PySem.W.Frag} {g : Glob} {F F' F1 F2 H H' H1 H2 : Hp}

theorem sqT_mono {a : Addr} {xs : List V} (e : Same F F') (h : SqT K F a xs) : SqT K F' a xs := by
  rcases h with (h | ⟨o, h⟩) | h
  · exact .inl (.inl (e _ _ h))
  · exact .inl (.inr ⟨o, e _ _ h⟩)
  · exact .inr h
theorem rd_mono {a : Addr} {u : HO} (e : Same F F') (h : Rd F a u) : Rd F' a u := by
  rcases h with h | ⟨o, h⟩
  · exact .inl (e _ _ h)
  · exact .inr ⟨o, e _ _ h⟩
theorem Rep.mono (e : Same F F') {v : V} {d : Dat} (h : Rep K g F v d) : Rep K g F' v d :=
  Rep.rec (motive_1 := fun v d _ => Rep K g F' v d) (motive_2 := fun vs ds _ => Reps K g F' vs ds)
    .non .bl .int .str .ty .opq (fun h _ r => .lst (e _ _ h) r) (fun h _ r => .rls (e.seq h) r) (fun h _ r => .tup (sqT_mono e h) r) (fun h q _ r => .dct (rd_mono e h) q r) (fun h q _ r => .ins (e _ _ h) q r) .nil (fun _ _ a b => .cons a b) h
theorem Reps.mono (e : Same F F') {vs : List V} {ds : List Dat} (h : Reps K g F vs ds) : Reps K g F' vs ds := by
  induction vs generalizing ds with
  | nil => cases h; exact .nil
  | cons v vs ih => cases h with | cons a b => exact .cons (a.mono e) (ih b)
theorem Reps.length {vs : List V} {ds : List Dat} (h : Reps K g F vs ds) : vs.length = ds.length := by
  induction vs generalizing ds with
  | nil => cases h; rfl
  | cons v vs ih => cases h with | cons a b => simp [ih b]
theorem Reps.get {vs : List V} {ds : List Dat} (h : Reps K g F vs ds) : ∀ {i : Nat} {d : Dat}, ds[i]? = some d → ∃ v, vs[i]? = some v ∧ Rep K g F v d := by
  induction vs generalizing ds with
  | nil => cases h; intro i d e; simp at e
  | cons v vs ih =>
    cases h with
    | cons a b =>
      intro i d e
      cases i with
      | zero => simp at e; subst e; exact ⟨v, rfl, a⟩
      | succ i => exact ih b (by simpa using e)
theorem Reps.append {vs ws : List V} {ds es : List Dat} (h : Reps K g F vs ds) (h' : Reps K g F ws es) : Reps K g F (vs ++ ws) (ds ++ es) := by
  induction vs generalizing ds with
  | nil => cases h; exact h'
  | cons v vs ih => cases h with | cons a b => exact .cons a (ih b)
theorem Reps.take {vs : List V} {ds : List Dat} (h : Reps K g F vs ds) : ∀ n, Reps K g F (vs.take n) (ds.take n) := by
  induction vs generalizing ds with
  | nil => cases h; intro n; simp; exact .nil
  | cons v vs ih =>
    cases h with
    | cons a b =>
      intro n
      cases n with
      | zero => exact .nil
      | succ n => exact .cons a (ih b n)
theorem Reps.drop {vs : List V} {ds : List Dat} (h : Reps K g F vs ds) : ∀ n, Reps K g F (vs.drop n) (ds.drop n) := by
  induction vs generalizing ds with
  | nil => cases h; intro n; simp; exact .nil
  | cons v vs ih =>
    cases h with
    | cons a b =>
      intro n
      cases n with
      | zero => exact .cons a b
      | succ n => exact ih b n
theorem Reps.reverse {vs : List V} {ds : List Dat} (h : Reps K g F vs ds) : Reps K g F vs.reverse ds.reverse := by
  induction vs generalizing ds with
  | nil => cases h; exact .nil
  | cons v vs ih => cases h with | cons a b => simp only [List.reverse_cons]; exact (ih b).append (.cons a .nil)
theorem Reps.snoc {vs : List V} {ds : List Dat} {v : V} {d : Dat} (h : Reps K g F vs ds) (r : Rep K g F v d) : Reps K g F (vs ++ [v]) (ds ++ [d]) := h.append (.cons r .nil)
theorem Reps.mem {vs : List V} {ds : List Dat} (h : Reps K g F vs ds) {v : V} (hv : v ∈ vs) : ∃ d ∈ ds, Rep K g F v d := by
  induction vs generalizing ds with
  | nil => cases hv
  | cons w vs ih =>
    cases h with
    | cons a b =>
      rcases List.mem_cons.mp hv with e | e
      · subst e; exact ⟨_, List.mem_cons_self, a⟩
      · obtain ⟨d, h1, h2⟩ := ih b e
        exact ⟨d, List.mem_cons_of_mem _ h1, h2⟩

/-- from (F, H) on to (F', H'): nothing of H is changed but tables grow, what is new in F' is new in H' -/
structure Ext (g : Glob) (F H F' H' : Hp) : Prop where
  keep : ∀ a o, H a = some o → (∀ ps, o ≠ .tbl ps) → H' a = some o
  dom : ∀ a, H a ≠ none → H' a ≠ none
  tabs : LamX.Tabs g.tabs H → LamX.Tabs g.tabs H'
  sub : Same F' H'
  old : ∀ a, H a ≠ none → F' a = F a
  nt : ∀ a ps, F' a = some (.tbl ps) → F a = some (.tbl ps)
theorem Ext.refl (h : Same F H) : Ext g F H F H := ⟨fun _ _ e _ => e, fun _ e => e, fun t => t, h, fun _ _ => rfl, fun _ _ e => e⟩
theorem Ext.trans (x : Ext g F H F1 H1) (y : Ext g F1 H1 F2 H2) : Ext g F H F2 H2 :=
  ⟨fun a o e n => y.keep a o (x.keep a o e n) n, fun a e => y.dom a (x.dom a e), fun t => y.tabs (x.tabs t), y.sub, fun a e => (y.old a (x.dom a e)).trans (x.old a e), fun a ps e => x.nt a ps (y.nt a ps e)⟩
theorem Ext.le (h : Same F H) (x : Ext g F H F' H') : Same F F' := fun a o e => by
  rw [x.old a (by rw [h a o e]; simp)]; exact e
theorem Ext.free (x : Ext g F H F' H') {p : Addr} (h : H' p = none) : H p = none := by
  cases e : H p with
  | none => rfl
  | some o => exact absurd h (x.dom p (by rw [e]; simp))
theorem sub_none (h : Same F H) {p : Addr} (e : H p = none) : F p = none := by
  cases q : F p with
  | none => rfl
  | some o => rw [h p o q] at e; cases e
theorem same_upd {p : Addr} {o : HO} (hp : H p = none) : Same H (upd H p o) := fun a u e => by
  rw [upd_ne (ne_of_none e hp)]; exact e
/-- a new thing, frozen -/
theorem Ext.new {p : Addr} {o : HO} (h : Same F H) (hp : H p = none) (hn : ∀ ps, o ≠ .tbl ps := by intro _ z; cases z) : Ext g F H (upd F p o) (upd H p o) where
  keep := fun a u e _ => by rw [upd_ne (ne_of_none e hp)]; exact e
  dom := fun a e => by
    by_cases q : a = p
    · subst q; rw [upd_same]; simp
    · rw [upd_ne q]; exact e
  tabs := fun t => t.ext (same_upd hp)
  sub := fun a u e => by
    by_cases q : a = p
    · subst q; rw [upd_same] at e ⊢; exact e
    · rw [upd_ne q] at e ⊢; exact h a u e
  old := fun a e => upd_ne fun q => by subst q; exact e hp
  nt := fun a ps e => by
    by_cases q : a = p
    · subst q; rw [upd_same] at e; exact absurd (Option.some.inj e) (hn ps)
    · rw [upd_ne q] at e; exact e
/-- a new thing, not frozen -/
theorem Ext.newO {p : Addr} {o : HO} (h : Same F H) (hp : H p = none) : Ext g F H F (upd H p o) where
  keep := fun a u e _ => by rw [upd_ne (ne_of_none e hp)]; exact e
  dom := fun a e => by
    by_cases q : a = p
    · subst q; rw [upd_same]; simp
    · rw [upd_ne q]; exact e
  tabs := fun t => t.ext (same_upd hp)
  sub := fun a u e => by
    rw [upd_ne (ne_of_none (h a u e) hp)]; exact h a u e
  old := fun a e => rfl
  nt := fun _ _ e => e
end

/-! ### the environment of an expression -/
abbrev Env := List (Option Dat)
section
variable (K : PySem.W.Frag) (g : Glob)
def REnv (F : Hp) (σ : St) (ρ : Env) : Prop := ∀ (i : Nat) (d : Dat), ρ[i]? = some (some d) → ∃ v, σ[i]? = some (some v) ∧ Rep K g F v d
/-- where an expression starts -/
structure Stt (F H : Hp) (σ : St) (ρ : Env) : Prop where
  sub : Same F H
  tabs : LamX.Tabs g.tabs H
  env : REnv K g F σ ρ
  len : ρ.length = σ.length
  nt : ∀ a ps, F a ≠ some (.tbl ps)
/-- what is asked behind it: R tells how what came represents the result -/
def PostG {α β : Type} (R : Hp → β → α → Prop) (W : WX) (σ : St) (F H : Hp) (r : Res α) (Q : β → Hp → Prop) : Prop := match r with
  | .ok a => ∀ v H' F', Ext g F H F' H' → R F' v a → Q v H'
  | .exc c => ∀ H' F', Ext g F H F' H' → W (.ref (g.cls c)) none σ H'
  | .stuck => False
def tG {α β : Type} (R : Hp → β → α → Prop) (W : WX) (f : Env → Res α) : St → Hp → (β → Hp → Prop) → Prop := fun σ H Q => ∃ ρ F, Stt K g F H σ ρ ∧ PostG g R W σ F H (f ρ) Q
def tV (W : WX) (f : Env → Res Dat) : TE := tG K g (Rep K g) W f
def tVT (W : WX) (f : Env → Res Bool) : TT := tG K g (fun _ b a => b = a) W f
def tVA (W : WX) (f : Env → Res (List Dat)) : TA := tG K g (Reps K g) W f
end
section
variable {K : PySem.W.Frag} {g : Glob} {F F' F1 F2 H H' H1 H2 : Hp} {σ : St} {ρ : Env} {W : WX}
theorem Stt.ext (s : Stt K g F H σ ρ) (x : Ext g F H F' H') : Stt K g F' H' σ ρ :=
  ⟨x.sub, x.tabs s.tabs, fun i d e => let ⟨v, h1, h2⟩ := s.env i d e; ⟨v, h1, h2.mono (x.le s.sub)⟩, s.len, fun a ps e => s.nt a ps (x.nt a ps e)⟩
theorem PostG.ext {α β : Type} {R : Hp → β → α → Prop} {r : Res α} {Q : β → Hp → Prop} (x : Ext g F H F' H') (h : PostG g R W σ F H r Q) : PostG g R W σ F' H' r Q := by
  cases r with
  | ok a => exact fun v H1 F1 y r => h v H1 F1 (x.trans y) r
  | exc c => exact fun H1 F1 y => h H1 F1 (x.trans y)
  | stuck => exact h
theorem PostG.imp {α β : Type} {R : Hp → β → α → Prop} {r : Res α} {Q Q' : β → Hp → Prop} (h : PostG g R W σ F H r Q) (hQ : ∀ v H', Q v H' → Q' v H') : PostG g R W σ F H r Q' := by
  cases r with
  | ok a => exact fun v H1 F1 y r => hQ _ _ (h v H1 F1 y r)
  | exc c => exact h
  | stuck => exact h
/-- one after another: first f, then what follows, at the state behind it -/
theorem PostG.bind {α β γ δ : Type} {R : Hp → β → α → Prop} {R' : Hp → δ → γ → Prop} {r : Res α} {k : α → Res γ} {Q : δ → Hp → Prop} (s : Stt K g F H σ ρ) (h : PostG g R' W σ F H (r.bind k) Q) :
    PostG g R W σ F H r (fun v H1 => ∃ F1 a, Stt K g F1 H1 σ ρ ∧ R F1 v a ∧ Ext g F H F1 H1 ∧ PostG g R' W σ F1 H1 (k a) Q) := by
  cases r with
  | ok a => exact fun v H1 F1 x r => ⟨F1, a, s.ext x, r, x, PostG.ext x h⟩
  | exc c => exact h
  | stuck => exact h
theorem PostG.ret {α β : Type} {R : Hp → β → α → Prop} {a : α} {v : β} {Q : β → Hp → Prop} (x : Ext g F H F' H') (h : PostG g R W σ F H (.ok a) Q) (r : R F' v a) : Q v H' := h v H' F' x r
theorem PostG.here {α β : Type} {R : Hp → β → α → Prop} {a : α} {v : β} {Q : β → Hp → Prop} (s : Same F H) (h : PostG g R W σ F H (.ok a) Q) (r : R F v a) : Q v H := h v H F (Ext.refl s) r
end

/-! ### the judgements -/
section
variable (X : Cx) (g : Glob) (W : WX)
def VE (e : Expr) (f : Env → Res Dat) : Prop := PE X e (tV X.K g W f)
def VT (e : Expr) (f : Env → Res Bool) : Prop := PT X e (tVT X.K g W f)
def VW (e : Expr) (f : Env → Res Bool) : Prop := PW X e (tVT X.K g W f)
def VA (es : List Expr) (f : Env → Res (List Dat)) : Prop := PA X es (tVA X.K g W f)
end
theorem PE.imp {X : Cx} {e : Expr} {t t' : TE} (h : PE X e t) (i : ∀ σ H Q, t' σ H Q → t σ H Q) : PE X e t' := ⟨fun pins s σ H Q I q => h.run pins s σ H Q I (i σ H Q q)⟩
theorem PT.imp {X : Cx} {e : Expr} {t t' : TT} (h : PT X e t) (i : ∀ σ H Q, t' σ H Q → t σ H Q) : PT X e t' := ⟨fun pins s σ H Q I q => h.run pins s σ H Q I (i σ H Q q)⟩
theorem PW.imp {X : Cx} {e : Expr} {t t' : TT} (h : PW X e t) (i : ∀ σ H Q, t' σ H Q → t σ H Q) : PW X e t' := ⟨fun wh pins s σ H Q I q => h.run wh pins s σ H Q I (i σ H Q q)⟩
theorem PA.imp {X : Cx} {e : List Expr} {t t' : TA} (h : PA X e t) (i : ∀ σ H Q, t' σ H Q → t σ H Q) : PA X e t' := ⟨fun pos pins s σ H Q I q => h.run pos pins s σ H Q I (i σ H Q q)⟩
theorem PS.imp {X : Cx} {e : Stmt} {t t' : TS} (h : PS X e t) (i : ∀ D σ H, t' D σ H → t D σ H) : PS X e t' := ⟨fun pins s σ H D I q => h.run pins s σ H D I (i D σ H q)⟩
theorem PSs.imp {X : Cx} {e : List Stmt} {t t' : TS} (h : PSs X e t) (i : ∀ D σ H, t' D σ H → t D σ H) : PSs X e t' := ⟨fun pins s σ H D I q => h.run pins s σ H D I (i D σ H q)⟩
theorem PI.imp {X : Cx} {tg e : Expr} {t t' : TI} (h : PI X tg e t) (i : ∀ σ H R, t' σ H R → t σ H R) : PI X tg e t' := ⟨fun pins s σ H D I q => h.run pins s σ H D I (i σ H D q)⟩

/-! ### expressions -/
def eVar (i : Nat) : Env → Res Dat := fun ρ => match ρ[i]? with
  | some (some d) => .ok d
  | _ => .stuck
def eC (d : Dat) : Env → Res Dat := fun _ => .ok d
def eBin (op : Dat → Dat → Res Dat) (f h : Env → Res Dat) : Env → Res Dat := fun ρ => (f ρ).bind fun a => (h ρ).bind fun b => op a b
def eUn (op : Dat → Res Dat) (f : Env → Res Dat) : Env → Res Dat := fun ρ => (f ρ).bind op
def toB : Dat → Res Bool
  | .bl b => .ok b
  | _ => .stuck
def eTest (f : Env → Res Dat) : Env → Res Bool := fun ρ => (f ρ).bind toB
def eIf (c : Env → Res Bool) (f h : Env → Res Dat) : Env → Res Dat := fun ρ => (c ρ).bind fun b => if b = true then f ρ else h ρ
def eAnd (f h : Env → Res Dat) : Env → Res Dat := fun ρ => (f ρ).bind fun a => (toB a).bind fun b => if b = true then h ρ else .ok (.bl false)
def eOr (f h : Env → Res Dat) : Env → Res Dat := fun ρ => (f ρ).bind fun a => (toB a).bind fun b => if b = true then .ok (.bl true) else h ρ
def eNot (f : Env → Res Dat) : Env → Res Dat := fun ρ => (f ρ).bind fun a => (toB a).bind fun b => .ok (.bl (!b))
def bAnd (f h : Env → Res Bool) : Env → Res Bool := fun ρ => (f ρ).bind fun b => if b = true then h ρ else .ok false
def bOr (f h : Env → Res Bool) : Env → Res Bool := fun ρ => (f ρ).bind fun b => if b = true then .ok true else h ρ
def bNot (f : Env → Res Bool) : Env → Res Bool := fun ρ => (f ρ).bind fun b => .ok (!b)
def aNil : Env → Res (List Dat) := fun _ => .ok []
def aCons (f : Env → Res Dat) (h : Env → Res (List Dat)) : Env → Res (List Dat) := fun ρ => (f ρ).bind fun a => (h ρ).bind fun b => .ok (a :: b)

section
variable {X : Cx} {g : Glob} {W : WX}
theorem ve_var (i : Nat) {x : Str} {pos : Pos} (hN : X.N[i]? = some x := by rfl) (hv : Vis X.env.scope x := by first | exact Or.inl rfl | exact Or.inr (Or.inl rfl) | exact Or.inr (Or.inr rfl)) (hd : (x == ("__debug__" : Str)) = false := by decide)
    (hcd : (x == ("__classdict__" : Str)) = false := by decide) : VE X g W (.Name x pos) (eVar i) := by
  refine PE.imp (pe_var hN hv hd hcd) fun σ H Q h => ?_
  obtain ⟨ρ, F, s, p⟩ := h
  unfold eVar at p
  cases e : ρ[i]? with
  | none => rw [e] at p; exact p.elim
  | some o =>
    cases o with
    | none => rw [e] at p; exact p.elim
    | some d =>
      rw [e] at p
      obtain ⟨v, h1, h2⟩ := s.env i d e
      exact ⟨v, h1, PostG.here s.sub p h2⟩
theorem ve_const {e : Expr} {v : V} {d : Dat} (h : PE X e (tC v)) (r : ∀ F, Rep X.K g F v d) : VE X g W e (eC d) := PE.imp h fun σ H Q ⟨ρ, F, s, p⟩ => PostG.here s.sub p (r F)
theorem ve_int {i j pos} : VE X g W (.Constant (.int i) j pos) (eC (.int i)) := ve_const pe_int fun _ => .int i
theorem ve_bl {b j pos} : VE X g W (.Constant (.bool b) j pos) (eC (.bl b)) := ve_const pe_bl fun _ => .bl b
theorem ve_non {j pos} : VE X g W (.Constant .none j pos) (eC .non) := ve_const pe_non fun _ => .non
theorem ve_str {x j pos} : VE X g W (.Constant (.str x) j pos) (eC (.str x)) := ve_const pe_str fun _ => .str x
/-- a module's constant -/
theorem ve_glob {x : Str} {v : V} {d : Dat} {pos : Pos} (h : ∃ u, X.mg x = some u ∧ RelV v u) (r : ∀ F, Rep X.K g F v d) (hg : Gl X x := by rfl) (hd : (x == ("__debug__" : Str)) = false := by decide) : VE X g W (.Name x pos) (eC d) := by
  obtain ⟨u, h1, h2⟩ := h
  exact ve_const (pe_glob hg h1 h2 hd) r
theorem ve_bltn {x : Str} {n : String} {pos : Pos} (hm : X.mg x = none) (hv : bootBuiltins x = some (.type n)) (hg : Gl X x := by rfl) (hn : x ≠ "__name__" := by decide) (hd : (x == ("__debug__" : Str)) = false := by decide) : VE X g W (.Name x pos) (eC (.ty n)) :=
  ve_const (pe_bltn (v := .ty n) hg hm hv rfl hn hd) fun _ => .ty n

/-- an operator by plain data: r is asked of what represents the data -/
def OpD (X : Cx) (g : Glob) (W : WX) (op : Dat → Dat → Res Dat) (r : R2) : Prop := ∀ {F H : Hp} {σ : St} {ρ : Env} {x y : V} {a b : Dat} {Q : VK}, Stt X.K g F H σ ρ → Rep X.K g F x a → Rep X.K g F y b → PostG g (Rep X.K g) W σ F H (op a b) Q → r x y H Q
theorem tOp_of {f h : Env → Res Dat} {op : Dat → Dat → Res Dat} {r : R2} {σ : St} {H : Hp} {Q : VK} (hd : OpD X g W op r) (q : tV X.K g W (eBin op f h) σ H Q) : tOp r (tV X.K g W f) (tV X.K g W h) σ H Q := by
  obtain ⟨ρ, F, s, p⟩ := q
  refine ⟨ρ, F, s, (PostG.bind s p).imp ?_⟩
  rintro x H1 ⟨F1, a, s1, ra, x1, p1⟩
  refine ⟨ρ, F1, s1, (PostG.bind s1 p1).imp ?_⟩
  rintro y H2 ⟨F2, b, s2, rb, x2, p2⟩
  exact hd s2 (ra.mono (x2.le s1.sub)) rb p2
theorem ve_op {a b : Expr} {op : Operator} {pos : Pos} {opd : Dat → Dat → Res Dat} {r : R2} {f h : Env → Res Dat} (ho : OpR X (binaryOp op) r) (hd : OpD X g W opd r) (ha : VE X g W a f) (hb : VE X g W b h) : VE X g W (.BinOp a op b pos) (eBin opd f h) :=
  PE.imp (pe_op ho ha hb) fun _ _ _ q => tOp_of hd q
theorem ve_cmp {a b : Expr} {op : CmpOp} {pos : Pos} {opd : Dat → Dat → Res Dat} {r : R2} {f h : Env → Res Dat} (ho : OpR X (compareOp op) r) (hd : OpD X g W opd r) (ha : VE X g W a f) (hb : VE X g W b h) (hm : behindInMarks op b = false) : VE X g W (.Compare a [op] [b] pos) (eBin opd f h) :=
  PE.imp (pe_cmpR ho ha hb hm) fun _ _ _ q => tOp_of hd q
theorem ve_ix {a b : Expr} {pos : Pos} {opd : Dat → Dat → Res Dat} {r : R2} {f h : Env → Res Dat} (ho : IxR X r) (hd : OpD X g W opd r) (ha : VE X g W a f) (hb : VE X g W b h) (hs : PlainIx b) : VE X g W (.Subscript a b pos) (eBin opd f h) :=
  PE.imp (pe_ix ho ha hb hs) fun _ _ _ q => tOp_of hd q
def UnD (X : Cx) (g : Glob) (W : WX) (op : Dat → Res Dat) (r : V → Hp → VK → Prop) : Prop := ∀ {F H : Hp} {σ : St} {ρ : Env} {x : V} {a : Dat} {Q : VK}, Stt X.K g F H σ ρ → Rep X.K g F x a → PostG g (Rep X.K g) W σ F H (op a) Q → r x H Q
theorem ve_un {a : Expr} {op : UnaryOp} {pos : Pos} {opd : Dat → Res Dat} {r : V → Hp → VK → Prop} {f : Env → Res Dat} (ho : UnR X (unaryOp op) r) (hd : UnD X g W opd r) (ha : VE X g W a f) : VE X g W (.UnaryOp op a pos) (eUn opd f) :=
  PE.imp (pe_un ho ha) fun σ H Q ⟨ρ, F, s, p⟩ => ⟨ρ, F, s, (PostG.bind s p).imp fun x H1 ⟨F1, a, s1, ra, x1, p1⟩ => hd s1 ra p1⟩

/-! ### tests -/
theorem rep_bool {K : PySem.W.Frag} {F H : Hp} {σ : St} {x : V} {a : Dat} {α β : Type} {R : Hp → β → α → Prop} {k : Bool → Res α} {Q : β → Hp → Prop} (r : Rep K g F x a) (p : PostG g R W σ F H ((toB a).bind k) Q) : ∃ c, x = .bl c ∧ a = .bl c ∧ PostG g R W σ F H (k c) Q := by
  cases r with
  | bl b => exact ⟨b, rfl, rfl, p⟩
  | _ => exact p.elim
theorem bind_toB (r : Res Bool) : r.bind (fun b => .ok b) = r := by cases r <;> rfl
theorem rep_bool' {K : PySem.W.Frag} {F H : Hp} {σ : St} {x : V} {a : Dat} {β : Type} {R : Hp → β → Bool → Prop} {Q : β → Hp → Prop} (r : Rep K g F x a) (p : PostG g R W σ F H (toB a) Q) : ∃ c, x = .bl c ∧ a = .bl c ∧ PostG g R W σ F H (.ok c) Q := rep_bool (k := fun b => .ok b) r (by rw [bind_toB]; exact p)
theorem vt_of {e : Expr} {f : Env → Res Dat} (h : VE X g W e f) (he : ∀ whole, isTrue e X.env whole = (do let v ← whole; standAt e.pos; holding [v] (truthy v)) := by intro _; rfl) : VT X g W e (eTest f) :=
  PT.imp (pt_val h he) fun σ H Q ⟨ρ, F, s, p⟩ => ⟨ρ, F, s, (PostG.bind s p).imp fun x H1 ⟨F1, a, s1, ra, x1, p1⟩ => by
    obtain ⟨c, e1, _, p2⟩ := rep_bool' ra p1
    exact ⟨c, e1, PostG.here s1.sub p2 rfl⟩⟩
theorem vw_pt {e : Expr} {f : Env → Res Bool} (h : VW X g W e f) : VT X g W e f := PW.pt h
theorem vw_and1 {a : Expr} {pos : Pos} {f : Env → Res Bool} (ha : VT X g W a f) : VW X g W (.BoolOp .And [a] pos) f := pw_and1 ha
theorem vw_or1 {a : Expr} {pos : Pos} {f : Env → Res Bool} (ha : VT X g W a f) : VW X g W (.BoolOp .Or [a] pos) f := pw_or1 ha
theorem vw_and {a b : Expr} {rest : List Expr} {pos : Pos} {f h : Env → Res Bool} (ha : VT X g W a f) (hb : VW X g W (.BoolOp .And (b :: rest) pos) h) : VW X g W (.BoolOp .And (a :: b :: rest) pos) (bAnd f h) :=
  PW.imp (pw_and ha hb) fun σ H Q ⟨ρ, F, s, p⟩ => ⟨ρ, F, s, (PostG.bind s p).imp fun c H1 ⟨F1, a, s1, e, x1, p1⟩ => by
    subst e
    cases c with
    | true => rw [if_pos rfl] at p1 ⊢; exact ⟨ρ, F1, s1, p1⟩
    | false => rw [if_neg (by decide)] at p1 ⊢; exact PostG.here s1.sub p1 rfl⟩
theorem vw_or {a b : Expr} {rest : List Expr} {pos : Pos} {f h : Env → Res Bool} (ha : VT X g W a f) (hb : VW X g W (.BoolOp .Or (b :: rest) pos) h) : VW X g W (.BoolOp .Or (a :: b :: rest) pos) (bOr f h) :=
  PW.imp (pw_or ha hb) fun σ H Q ⟨ρ, F, s, p⟩ => ⟨ρ, F, s, (PostG.bind s p).imp fun c H1 ⟨F1, a, s1, e, x1, p1⟩ => by
    subst e
    cases c with
    | true => rw [if_pos rfl] at p1 ⊢; exact PostG.here s1.sub p1 rfl
    | false => rw [if_neg (by decide)] at p1 ⊢; exact ⟨ρ, F1, s1, p1⟩⟩
theorem vt_not {a : Expr} {pos : Pos} {f : Env → Res Bool} (ha : VT X g W a f) : VT X g W (.UnaryOp .Not a pos) (bNot f) :=
  PT.imp (pt_not ha) fun σ H Q ⟨ρ, F, s, p⟩ => ⟨ρ, F, s, (PostG.bind s p).imp fun c H1 ⟨F1, a, s1, e, x1, p1⟩ => by
    subst e
    exact PostG.here s1.sub p1 rfl⟩
theorem ve_one {op} {a : Expr} {pos : Pos} {f : Env → Res Dat} (h : VE X g W a f) : VE X g W (.BoolOp op [a] pos) f := pe_one h
theorem ve_and {a b : Expr} {rest : List Expr} {pos : Pos} {f h : Env → Res Dat} (ha : VE X g W a f) (hb : VE X g W (.BoolOp .And (b :: rest) pos) h) : VE X g W (.BoolOp .And (a :: b :: rest) pos) (eAnd f h) :=
  PE.imp (pe_and ha hb) fun σ H Q ⟨ρ, F, s, p⟩ => ⟨ρ, F, s, (PostG.bind s p).imp fun x H1 ⟨F1, a, s1, ra, x1, p1⟩ => by
    obtain ⟨c, e1, _, p2⟩ := rep_bool ra p1
    refine ⟨c, e1, ?_⟩
    cases c with
    | true => rw [if_pos rfl] at p2 ⊢; exact ⟨ρ, F1, s1, p2⟩
    | false => rw [if_neg (by decide)] at p2 ⊢; exact PostG.here s1.sub p2 (.bl _)⟩
theorem ve_or {a b : Expr} {rest : List Expr} {pos : Pos} {f h : Env → Res Dat} (ha : VE X g W a f) (hb : VE X g W (.BoolOp .Or (b :: rest) pos) h) : VE X g W (.BoolOp .Or (a :: b :: rest) pos) (eOr f h) :=
  PE.imp (pe_or ha hb) fun σ H Q ⟨ρ, F, s, p⟩ => ⟨ρ, F, s, (PostG.bind s p).imp fun x H1 ⟨F1, a, s1, ra, x1, p1⟩ => by
    obtain ⟨c, e1, _, p2⟩ := rep_bool ra p1
    refine ⟨c, e1, ?_⟩
    cases c with
    | true => rw [if_pos rfl] at p2 ⊢; exact PostG.here s1.sub p2 (.bl _)
    | false => rw [if_neg (by decide)] at p2 ⊢; exact ⟨ρ, F1, s1, p2⟩⟩
theorem ve_not {a : Expr} {pos : Pos} {f : Env → Res Dat} (ha : VE X g W a f) : VE X g W (.UnaryOp .Not a pos) (eNot f) :=
  PE.imp (pe_not ha) fun σ H Q ⟨ρ, F, s, p⟩ => ⟨ρ, F, s, (PostG.bind s p).imp fun x H1 ⟨F1, a, s1, ra, x1, p1⟩ => by
    obtain ⟨c, e1, _, p2⟩ := rep_bool ra p1
    exact ⟨c, e1, PostG.here s1.sub p2 (.bl _)⟩⟩
theorem ve_ifExp {c a b : Expr} {pos : Pos} {t : Env → Res Bool} {f h : Env → Res Dat} (hc : VT X g W c t) (ha : VE X g W a f) (hb : VE X g W b h) : VE X g W (.IfExp c a b pos) (eIf t f h) :=
  PE.imp (pe_ifExp hc ha hb) fun σ H Q ⟨ρ, F, s, p⟩ => ⟨ρ, F, s, (PostG.bind s p).imp fun c H1 ⟨F1, a, s1, e, x1, p1⟩ => by
    subst e
    cases c with
    | true => rw [if_pos rfl] at p1 ⊢; exact ⟨ρ, F1, s1, p1⟩
    | false => rw [if_neg (by decide)] at p1 ⊢; exact ⟨ρ, F1, s1, p1⟩⟩

/-! ### arguments -/
theorem va_nil : VA X g W [] aNil := PA.imp pa_nil fun σ H Q ⟨ρ, F, s, p⟩ => PostG.here s.sub p .nil
theorem va_cons {e : Expr} {es : List Expr} {f : Env → Res Dat} {h : Env → Res (List Dat)} (ha : VE X g W e f) (hr : VA X g W es h) (hs : starEach (e :: es) X.env = (false, eval e X.env) :: starEach es X.env := by rfl) : VA X g W (e :: es) (aCons f h) :=
  PA.imp (pa_cons ha hr hs) fun σ H Q ⟨ρ, F, s, p⟩ => ⟨ρ, F, s, (PostG.bind s p).imp fun x H1 ⟨F1, a, s1, ra, x1, p1⟩ => ⟨ρ, F1, s1, (PostG.bind s1 p1).imp fun xs H2 ⟨F2, b, s2, rb, x2, p2⟩ => PostG.here s2.sub p2 (.cons (ra.mono (x2.le s1.sub)) rb)⟩⟩
end
end VL

/-! VL2: operators upon plain data. -/
namespace VL
open PySem PySem.Spec PyProof.Rows L2

def big : Nat := 1000000
theorem big_le : big ≤ sizeLine := by decide

/-! ### arithmetic -/
def addD : Dat → Dat → Res Dat
  | .int i, .int j => .ok (.int (i + j))
  | .str a, .str b => if a.length + b.length ≤ big then .ok (.str (a ++ b)) else .stuck
  | .lst a, .lst b => if a.length + b.length ≤ big then .ok (.lst (a ++ b)) else .stuck
  | .tup a, .tup b => if a.length + b.length ≤ big then .ok (.tup (a ++ b)) else .stuck
  | _, _ => .stuck
def subD : Dat → Dat → Res Dat
  | .int i, .int j => .ok (.int (i - j))
  | _, _ => .stuck
def mulOk (i j : Int) : Bool := (decide (-(2 ^ 64) < i) && decide (i < 2 ^ 64)) || (decide (-(2 ^ 64) < j) && decide (j < 2 ^ 64)) || (decide (i.natAbs < 2 ^ 200) && decide (j.natAbs < 2 ^ 200))
def mulD : Dat → Dat → Res Dat
  | .int i, .int j => if mulOk i j = true then .ok (.int (i * j)) else .stuck
  | .lst a, .int k => if -(2 ^ 31) ≤ k ∧ k < 2 ^ 31 ∧ a.length * k.toNat ≤ big then .ok (.lst (List.replicate k.toNat a).flatten) else .stuck
  | _, _ => .stuck
def fdivD : Dat → Dat → Res Dat
  | .int i, .int j => if 0 < j ∧ j < 2 ^ 200 then .ok (.int (i / j)) else .stuck
  | _, _ => .stuck
def modD : Dat → Dat → Res Dat
  | .int i, .int j => if 0 < j then .ok (.int (i % j)) else .stuck
  | _, _ => .stuck
def powD : Dat → Dat → Res Dat
  | .int i, .int j => if 0 ≤ j ∧ j ≤ 1000 ∧ i.natAbs < 2 ^ 64 then .ok (.int (i ^ j.toNat)) else .stuck
  | _, _ => .stuck
def negD : Dat → Res Dat
  | .int i => .ok (.int (-i))
  | _ => .stuck
theorem mulOk_ok {i j : Int} (h : mulOk i j = true) : CMul i j ∨ CMulW i j := by
  unfold mulOk at h
  simp only [Bool.or_eq_true, Bool.and_eq_true, decide_eq_true_eq] at h
  rcases h with (h | h) | h
  · exact .inl (.inl h)
  · exact .inl (.inr h)
  · exact .inr (wide_mul h.1 h.2 (by decide) (by decide) (by decide))
theorem natAbs_lt {j : Int} {n : Nat} (h0 : 0 < j) (h : j < (n : Int)) : j.natAbs < n := by omega

section
variable {X : Cx} {g : Glob} {W : WX}
def rAddA (K : PySem.W.Frag) : R2 := fun x y H Q => (rI0 fun i j => V.int (i + j)) x y H Q ∨ (∃ i j, x = .str i ∧ y = .str j ∧ i.length + j.length ≤ sizeLine ∧ Q (.str (i ++ j)) H) ∨ rCat x y H Q ∨ rCatA K x y H Q
theorem op_addA : OpR X (binaryOp .Add) (rAddA X.K) := op_add.or (op_add_str.or (op_cat.or op_catA))
theorem opd_add : OpD X g W addD (rAddA X.K) := by
  intro F H σ ρ x y a b Q s ra rb p
  cases ra with
  | int i => cases rb with
    | int j => exact .inl ⟨i, j, rfl, rfl, PostG.here s.sub p (.int _)⟩
    | _ => exact p.elim
  | str i => cases rb with
    | str j =>
      dsimp only [addD] at p
      by_cases h : i.length + j.length ≤ big
      · rw [if_pos h] at p
        exact .inr (.inl ⟨i, j, rfl, rfl, Nat.le_trans h big_le, PostG.here s.sub p (.str _)⟩)
      · rw [if_neg h] at p; exact p.elim
    | _ => exact p.elim
  | lst ha rs => cases rb with
    | @lst bb ys es hb rt =>
      rename_i aa xs ds
      dsimp only [addD] at p
      by_cases h : ds.length + es.length ≤ big
      · rw [if_pos h] at p
        refine .inr (.inr (.inl ⟨aa, bb, xs, ys, rfl, rfl, s.sub _ _ ha, s.sub _ _ hb, by rw [rs.length, rt.length]; exact Nat.le_trans h big_le, fun q hq => ?_⟩))
        have x1 := Ext.new (g := g) (o := .lst (xs ++ ys)) s.sub hq
        exact PostG.ret x1 p (.lst upd_same ((rs.append rt).mono (x1.le s.sub)))
      · rw [if_neg h] at p; exact p.elim
    | _ => exact p.elim
  | tup ha rs => cases rb with
    | @tup bb ys es hb rt =>
      rename_i aa xs ds
      dsimp only [addD] at p
      by_cases h : ds.length + es.length ≤ big
      · rw [if_pos h] at p
        refine .inr (.inr (.inr ⟨aa, bb, xs, ys, rfl, rfl, sqT_mono s.sub ha, sqT_mono s.sub hb, by rw [rs.length, rt.length]; exact Nat.le_trans h big_le, fun e => ?_, fun _ e => ?_, fun _ _ q hq => ?_⟩))
        · subst e
          cases rs
          exact PostG.here s.sub p (.tup hb rt)
        · subst e
          cases rt
          refine PostG.here s.sub p (.tup ha ?_)
          rw [List.append_nil]; exact rs
        · have x1 := Ext.new (g := g) (o := .tup (xs ++ ys)) s.sub hq
          exact PostG.ret x1 p (.tup (SqT.of upd_same) ((rs.append rt).mono (x1.le s.sub)))
      · rw [if_neg h] at p; exact p.elim
    | _ => exact p.elim
  | _ => exact p.elim
theorem ve_add {a b : Expr} {pos : Pos} {f h : Env → Res Dat} (ha : VE X g W a f) (hb : VE X g W b h) : VE X g W (.BinOp a .Add b pos) (eBin addD f h) := ve_op op_addA opd_add ha hb
theorem opd_sub : OpD X g W subD (rI0 fun i j => .int (i - j)) := by
  intro F H σ ρ x y a b Q s ra rb p
  cases ra with
  | int i => cases rb with
    | int j => exact ⟨i, j, rfl, rfl, PostG.here s.sub p (.int _)⟩
    | _ => exact p.elim
  | _ => exact p.elim
theorem ve_sub {a b : Expr} {pos : Pos} {f h : Env → Res Dat} (ha : VE X g W a f) (hb : VE X g W b h) : VE X g W (.BinOp a .Sub b pos) (eBin subD f h) := ve_op op_sub opd_sub ha hb
def rMulA : R2 := fun x y H Q => ((rI CMul fun i j => V.int (i * j)) x y H Q ∨ (rI CMulW fun i j => V.int (i * j)) x y H Q) ∨ rRep x y H Q
theorem op_mulA : OpR X (binaryOp .Mult) rMulA := (op_mul.or op_mulW).or op_rep
theorem flatten_reps {K : PySem.W.Frag} {F : Hp} {vs : List V} {ds : List Dat} (h : Reps K g F vs ds) : ∀ n : Nat, Reps K g F (List.replicate n vs).flatten (List.replicate n ds).flatten
  | 0 => .nil
  | n + 1 => by
    rw [List.replicate_succ, List.replicate_succ, List.flatten_cons, List.flatten_cons]
    exact h.append (flatten_reps h n)
theorem opd_mul : OpD X g W mulD rMulA := by
  intro F H σ ρ x y a b Q s ra rb p
  cases ra with
  | int i => cases rb with
    | int j =>
      dsimp only [mulD] at p
      by_cases h : mulOk i j = true
      · rw [if_pos h] at p
        rcases mulOk_ok h with q | q
        · exact .inl (.inl ⟨i, j, rfl, rfl, q, PostG.here s.sub p (.int _)⟩)
        · exact .inl (.inr ⟨i, j, rfl, rfl, q, PostG.here s.sub p (.int _)⟩)
      · rw [if_neg h] at p; exact p.elim
    | _ => exact p.elim
  | lst ha rs => cases rb with
    | int k =>
      rename_i aa xs ds
      dsimp only [mulD] at p
      by_cases h : -(2 ^ 31) ≤ k ∧ k < 2 ^ 31 ∧ ds.length * k.toNat ≤ big
      · rw [if_pos h] at p
        refine .inr ⟨aa, k, xs, rfl, rfl, s.sub _ _ ha, by omega, by omega, by rw [rs.length]; exact Nat.le_trans h.2.2 big_le, fun q hq => ?_⟩
        have x1 := Ext.new (g := g) (o := .lst (List.replicate k.toNat xs).flatten) s.sub hq
        exact PostG.ret x1 p (.lst upd_same ((flatten_reps rs _).mono (x1.le s.sub)))
      · rw [if_neg h] at p; exact p.elim
    | _ => exact p.elim
  | _ => exact p.elim
theorem ve_mul {a b : Expr} {pos : Pos} {f h : Env → Res Dat} (ha : VE X g W a f) (hb : VE X g W b h) : VE X g W (.BinOp a .Mult b pos) (eBin mulD f h) := ve_op op_mulA opd_mul ha hb
theorem opd_fdiv : OpD X g W fdivD (rI CDivW fun i j => .int (i / j)) := by
  intro F H σ ρ x y a b Q s ra rb p
  cases ra with
  | int i => cases rb with
    | int j =>
      dsimp only [fdivD] at p
      by_cases h : 0 < j ∧ j < 2 ^ 200
      · rw [if_pos h] at p
        exact ⟨i, j, rfl, rfl, wide_div h.1 (natAbs_lt h.1 (by simpa using h.2)) (by decide : 0 < 200) (by decide), PostG.here s.sub p (.int _)⟩
      · rw [if_neg h] at p; exact p.elim
    | _ => exact p.elim
  | _ => exact p.elim
theorem ve_fdiv {a b : Expr} {pos : Pos} {f h : Env → Res Dat} (ha : VE X g W a f) (hb : VE X g W b h) : VE X g W (.BinOp a .FloorDiv b pos) (eBin fdivD f h) := ve_op op_fdivW opd_fdiv ha hb
theorem opd_mod : OpD X g W modD (rI (fun _ j => 0 < j) fun i j => .int (i % j)) := by
  intro F H σ ρ x y a b Q s ra rb p
  cases ra with
  | int i => cases rb with
    | int j =>
      dsimp only [modD] at p
      by_cases h : 0 < j
      · rw [if_pos h] at p
        exact ⟨i, j, rfl, rfl, h, PostG.here s.sub p (.int _)⟩
      · rw [if_neg h] at p; exact p.elim
    | _ => exact p.elim
  | _ => exact p.elim
theorem ve_mod {a b : Expr} {pos : Pos} {f h : Env → Res Dat} (ha : VE X g W a f) (hb : VE X g W b h) : VE X g W (.BinOp a .Mod b pos) (eBin modD f h) := ve_op op_mod opd_mod ha hb
theorem opd_pow : OpD X g W powD (rI CPow fun i j => .int (i ^ j.toNat)) := by
  intro F H σ ρ x y a b Q s ra rb p
  cases ra with
  | int i => cases rb with
    | int j =>
      dsimp only [powD] at p
      by_cases h : 0 ≤ j ∧ j ≤ 1000 ∧ i.natAbs < 2 ^ 64
      · rw [if_pos h] at p
        exact ⟨i, j, rfl, rfl, ⟨h.1, by omega, h.2.2⟩, PostG.here s.sub p (.int _)⟩
      · rw [if_neg h] at p; exact p.elim
    | _ => exact p.elim
  | _ => exact p.elim
theorem ve_pow {a b : Expr} {pos : Pos} {f h : Env → Res Dat} (ha : VE X g W a f) (hb : VE X g W b h) : VE X g W (.BinOp a .Pow b pos) (eBin powD f h) := ve_op op_pow opd_pow ha hb
theorem und_neg : UnD X g W negD (rU fun i => .int (-i)) := by
  intro F H σ ρ x a Q s ra p
  cases ra with
  | int i => exact ⟨i, rfl, PostG.here s.sub p (.int _)⟩
  | _ => exact p.elim
theorem ve_neg {a : Expr} {pos : Pos} {f : Env → Res Dat} (ha : VE X g W a f) : VE X g W (.UnaryOp .USub a pos) (eUn negD f) := ve_un un_neg und_neg ha
end

/-! ### == and != -/
mutual
/-- as the model's plain data -/
def toPy : Dat → Option PyData
  | .non => some .none
  | .bl b => some (.bool b)
  | .int i => some (.int i)
  | .str x => some (.str x)
  | .lst xs => (toPys xs).map .list
  | .rls xs => (toPys xs).map .list
  | .tup xs => (toPys xs).map .tuple
  | .dct _ => none
  | .ins _ _ => none
  | .ty _ => none
  | .opq _ => none
def toPys : List Dat → Option (List PyData)
  | [] => some []
  | d :: ds => match toPy d, toPys ds with
    | some x, some xs => some (x :: xs)
    | _, _ => none
end
section
variable {K : PySem.W.Frag} {g : Glob} {F H : Hp}
theorem reps_dp {vs : List V} {ds : List Dat} (ih : ∀ v d, d ∈ ds → ∀ e, Rep K g F v d → toPy d = some e → Dp K H v e) (h : Reps K g F vs ds) : ∀ es, toPys ds = some es → DpAll K H vs es := by
  induction vs generalizing ds with
  | nil => cases h; intro es e; unfold toPys at e; cases e; exact .nil
  | cons v vs k =>
    cases h with
    | @cons _ _ d ds a b =>
      intro es e
      unfold toPys at e
      cases h1 : toPy d with
      | none => rw [h1] at e; simp at e
      | some x =>
        cases h2 : toPys ds with
        | none => rw [h1, h2] at e; simp at e
        | some xs =>
          rw [h1, h2] at e
          cases e
          exact .cons (ih v d (by simp) x a h1) (k (fun v d hd => ih v d (List.mem_cons_of_mem _ hd)) b xs h2)
theorem rep_dp (s : Same F H) {v : V} {d : Dat} (h : Rep K g F v d) : ∀ e, toPy d = some e → Dp K H v e :=
  Rep.rec (motive_1 := fun v d _ => ∀ e, toPy d = some e → Dp K H v e) (motive_2 := fun vs ds _ => ∀ es, toPys ds = some es → DpAll K H vs es)
    (fun e h => by unfold toPy at h; cases h; exact .non) (fun b e h => by unfold toPy at h; cases h; exact .bl b) (fun b e h => by unfold toPy at h; cases h; exact .int b) (fun b e h => by unfold toPy at h; cases h; exact .str b) (fun b e h => by unfold toPy at h; cases h) (fun b e h => by unfold toPy at h; cases h)
    (fun {a xs ds} h _ r e q => by
      unfold toPy at q
      cases h1 : toPys ds with
      | none => rw [h1] at q; simp at q
      | some es => rw [h1] at q; simp at q; subst q; exact .lst (SqL.of (s _ _ h)) (r es h1))
    (fun {a xs ds} h _ r e q => by
      unfold toPy at q
      cases h1 : toPys ds with
      | none => rw [h1] at q; simp at q
      | some es => rw [h1] at q; simp at q; subst q; exact .lst (s.seq h) (r es h1))
    (fun {a xs ds} h _ r e q => by
      unfold toPy at q
      cases h1 : toPys ds with
      | none => rw [h1] at q; simp at q
      | some es => rw [h1] at q; simp at q; subst q; exact .tup (sqT_mono s h) (r es h1))
    (fun _ _ _ _ e q => by unfold toPy at q; cases q) (fun _ _ _ _ e q => by unfold toPy at q; cases q)
    (fun es e => by unfold toPys at e; cases e; exact .nil)
    (fun {v vs d ds} _ _ a b es e => by
      unfold toPys at e
      cases h1 : toPy d with
      | none => rw [h1] at e; simp at e
      | some x =>
        cases h2 : toPys ds with
        | none => rw [h1, h2] at e; simp at e
        | some xs => rw [h1, h2] at e; cases e; exact .cons (a x h1) (b xs h2)) h
end
/-- the answer of ==, where the layer knows it -/
def eqB (a b : Dat) : Option Bool := match toPy a, toPy b with
  | some x, some y => if SeqAt.shaped x && SeqAt.shaped y then some (PyData.eqv x y) else none
  | _, _ => none
def eqD (a b : Dat) : Res Dat := match eqB a b with
  | some c => .ok (.bl c)
  | none => .stuck
def neD (a b : Dat) : Res Dat := match eqB a b with
  | some c => .ok (.bl (!c))
  | none => .stuck
section
variable {X : Cx} {g : Glob} {W : WX}
theorem eqB_of {a b : Dat} {c : Bool} (h : eqB a b = some c) : ∃ x y, toPy a = some x ∧ toPy b = some y ∧ SeqAt.shaped x = true ∧ SeqAt.shaped y = true ∧ c = PyData.eqv x y := by
  unfold eqB at h
  cases h1 : toPy a with
  | none => rw [h1] at h; simp at h
  | some x =>
    cases h2 : toPy b with
    | none => rw [h1, h2] at h; simp at h
    | some y =>
      rw [h1, h2] at h
      by_cases q : (SeqAt.shaped x && SeqAt.shaped y) = true
      · simp only [q, if_true] at h
        have q' := Bool.and_eq_true_iff.mp q
        exact ⟨x, y, rfl, rfl, q'.1, q'.2, (Option.some.inj h).symm⟩
      · simp [q] at h
theorem opd_eq : OpD X g W eqD (rEqD X.K) := by
  intro F H σ ρ x y a b Q s ra rb p
  unfold eqD at p
  cases e : eqB a b with
  | none => rw [e] at p; exact p.elim
  | some c =>
    rw [e] at p
    obtain ⟨u, v, h1, h2, h3, h4, h5⟩ := eqB_of e
    subst h5
    exact ⟨u, v, rep_dp s.sub ra u h1, rep_dp s.sub rb v h2, h3, h4, PostG.here s.sub p (.bl _)⟩
theorem opd_ne : OpD X g W neD (rNeD X.K) := by
  intro F H σ ρ x y a b Q s ra rb p
  unfold neD at p
  cases e : eqB a b with
  | none => rw [e] at p; exact p.elim
  | some c =>
    rw [e] at p
    obtain ⟨u, v, h1, h2, h3, h4, h5⟩ := eqB_of e
    subst h5
    exact ⟨u, v, rep_dp s.sub ra u h1, rep_dp s.sub rb v h2, h3, h4, PostG.here s.sub p (.bl _)⟩
theorem ve_eq {k : Nat} {a b : Expr} {pos : Pos} {f h : Env → Res Dat} (hr : Room k X.A) (ha : VE X g W a f) (hb : VE X g W b h) : VE X g W (.Compare a [.Eq] [b] pos) (eBin eqD f h) := ve_cmp (op_eqD hr.units) opd_eq ha hb (nomark _)
theorem ve_ne {k : Nat} {a b : Expr} {pos : Pos} {f h : Env → Res Dat} (hr : Room k X.A) (ha : VE X g W a f) (hb : VE X g W b h) : VE X g W (.Compare a [.NotEq] [b] pos) (eBin neD f h) := ve_cmp (op_neD hr.units) opd_ne ha hb (nomark _)
end

/-! ### the order of ints and of texts -/
def ltD : Dat → Dat → Res Dat
  | .int i, .int j => .ok (.bl (decide (i < j)))
  | .str a, .str b => .ok (.bl (decide (a.cps.toList < b.cps.toList)))
  | _, _ => .stuck
def leD : Dat → Dat → Res Dat
  | .int i, .int j => .ok (.bl (decide (i ≤ j)))
  | .str a, .str b => .ok (.bl (!decide (b.cps.toList < a.cps.toList)))
  | _, _ => .stuck
def gtD : Dat → Dat → Res Dat
  | .int i, .int j => .ok (.bl (decide (j < i)))
  | _, _ => .stuck
def geD : Dat → Dat → Res Dat
  | .int i, .int j => .ok (.bl (decide (j ≤ i)))
  | _, _ => .stuck
section
variable {X : Cx} {g : Glob} {W : WX}
def rLtA : R2 := fun x y H Q => (rI0 fun i j => V.bl (decide (i < j))) x y H Q ∨ (∃ i j, x = .str i ∧ y = .str j ∧ Q (.bl (decide (i.cps.toList < j.cps.toList))) H)
theorem op_ltA : OpR X (compareOp .Lt) rLtA := op_lt.or op_lt_str
theorem opd_lt : OpD X g W ltD rLtA := by
  intro F H σ ρ x y a b Q s ra rb p
  cases ra with
  | int i => cases rb with
    | int j => exact .inl ⟨i, j, rfl, rfl, PostG.here s.sub p (.bl _)⟩
    | _ => exact p.elim
  | str i => cases rb with
    | str j => exact .inr ⟨i, j, rfl, rfl, PostG.here s.sub p (.bl _)⟩
    | _ => exact p.elim
  | _ => exact p.elim
def rLeA : R2 := fun x y H Q => (rI0 fun i j => V.bl (decide (i ≤ j))) x y H Q ∨ (∃ i j, x = .str i ∧ y = .str j ∧ Q (.bl (!decide (j.cps.toList < i.cps.toList))) H)
theorem op_leA : OpR X (compareOp .LtE) rLeA := op_le.or op_le_str
theorem opd_le : OpD X g W leD rLeA := by
  intro F H σ ρ x y a b Q s ra rb p
  cases ra with
  | int i => cases rb with
    | int j => exact .inl ⟨i, j, rfl, rfl, PostG.here s.sub p (.bl _)⟩
    | _ => exact p.elim
  | str i => cases rb with
    | str j => exact .inr ⟨i, j, rfl, rfl, PostG.here s.sub p (.bl _)⟩
    | _ => exact p.elim
  | _ => exact p.elim
theorem opd_gt : OpD X g W gtD (rI0 fun i j => .bl (decide (j < i))) := by
  intro F H σ ρ x y a b Q s ra rb p
  cases ra with
  | int i => cases rb with
    | int j => exact ⟨i, j, rfl, rfl, PostG.here s.sub p (.bl _)⟩
    | _ => exact p.elim
  | _ => exact p.elim
theorem opd_ge : OpD X g W geD (rI0 fun i j => .bl (decide (j ≤ i))) := by
  intro F H σ ρ x y a b Q s ra rb p
  cases ra with
  | int i => cases rb with
    | int j => exact ⟨i, j, rfl, rfl, PostG.here s.sub p (.bl _)⟩
    | _ => exact p.elim
  | _ => exact p.elim
theorem ve_lt {a b : Expr} {pos : Pos} {f h : Env → Res Dat} (ha : VE X g W a f) (hb : VE X g W b h) : VE X g W (.Compare a [.Lt] [b] pos) (eBin ltD f h) := ve_cmp op_ltA opd_lt ha hb (nomark _)
theorem ve_le {a b : Expr} {pos : Pos} {f h : Env → Res Dat} (ha : VE X g W a f) (hb : VE X g W b h) : VE X g W (.Compare a [.LtE] [b] pos) (eBin leD f h) := ve_cmp op_leA opd_le ha hb (nomark _)
theorem ve_gt {a b : Expr} {pos : Pos} {f h : Env → Res Dat} (ha : VE X g W a f) (hb : VE X g W b h) : VE X g W (.Compare a [.Gt] [b] pos) (eBin gtD f h) := ve_cmp op_gt opd_gt ha hb (nomark _)
theorem ve_ge {a b : Expr} {pos : Pos} {f h : Env → Res Dat} (ha : VE X g W a f) (hb : VE X g W b h) : VE X g W (.Compare a [.GtE] [b] pos) (eBin geD f h) := ve_cmp op_ge opd_ge ha hb (nomark _)
/-- a < b < c -/
def eChain (o1 o2 : Dat → Dat → Res Dat) (f h l : Env → Res Dat) : Env → Res Dat := fun ρ => (f ρ).bind fun a => (h ρ).bind fun b => (o1 a b).bind fun z => (toB z).bind fun k => if k = true then (l ρ).bind fun c => o2 b c else .ok (.bl false)
theorem tChain_of {o1 o2 : Dat → Dat → Res Dat} {r r' : R2} {f h l : Env → Res Dat} {σ : St} {H : Hp} {Q : VK} (h1 : OpD X g W o1 r) (h2 : OpD X g W o2 r') (q : tV X.K g W (eChain o1 o2 f h l) σ H Q) : tChain r r' (tV X.K g W f) (tV X.K g W h) (tV X.K g W l) σ H Q := by
  obtain ⟨ρ, F, s, p⟩ := q
  refine ⟨ρ, F, s, (PostG.bind s p).imp ?_⟩
  rintro x H1 ⟨F1, a, s1, ra, x1, p1⟩
  refine ⟨ρ, F1, s1, (PostG.bind s1 p1).imp ?_⟩
  rintro y H2 ⟨F2, b, s2, rb, x2, p2⟩
  refine h1 s2 (ra.mono (x2.le s1.sub)) rb ((PostG.bind (R := Rep X.K g) s2 p2).imp ?_)
  rintro z H3 ⟨F3, c, s3, rc, x3, p3⟩
  obtain ⟨k, e1, _, p4⟩ := rep_bool rc p3
  refine ⟨k, e1, ?_⟩
  cases k with
  | true =>
    rw [if_pos rfl] at p4 ⊢
    refine ⟨ρ, F3, s3, (PostG.bind s3 p4).imp ?_⟩
    rintro w H4 ⟨F4, d, s4, rd, x4, p5⟩
    exact h2 s4 (rb.mono (Same.trans (x3.le s2.sub) (x4.le s3.sub))) rd p5
  | false => rw [if_neg (by decide)] at p4 ⊢; exact PostG.here s3.sub p4 (.bl _)
theorem ve_lele {a b c : Expr} {pos : Pos} {f h l : Env → Res Dat} (ha : VE X g W a f) (hb : VE X g W b h) (hc : VE X g W c l) (hm : lastMarks [.LtE, .LtE] [b, c] = false := by with_unfolding_all rfl) : VE X g W (.Compare a [.LtE, .LtE] [b, c] pos) (eChain leD leD f h l) :=
  PE.imp (pe_chain op_leA op_leA ha hb hc hm) fun _ _ _ q => tChain_of opd_le opd_le q
end
end VL

/-! VL3: displays, subscripts, slices, membership, builtins, calls. -/
namespace VL
open PySem PySem.Spec PyProof.Rows L2

/-! ### displays -/
def eTup (f : Env → Res (List Dat)) : Env → Res Dat := fun ρ => (f ρ).bind fun ds => if ds.length ≤ big then .ok (.tup ds) else .stuck
def eLst (f : Env → Res (List Dat)) : Env → Res Dat := fun ρ => (f ρ).bind fun ds => if ds.length ≤ big then .ok (.lst ds) else .stuck
section
variable {X : Cx} {g : Glob} {W : WX}
theorem ve_tup {es : List Expr} {x1} {pos : Pos} {f : Env → Res (List Dat)} (h : VA X g W es f) : VE X g W (.Tuple es x1 pos) (eTup f) :=
  PE.imp (pe_tup h) fun σ H Q ⟨ρ, F, s, p⟩ => ⟨ρ, F, s, (PostG.bind s p).imp fun xs H1 ⟨F1, ds, s1, rs, x1, p1⟩ => by
    by_cases h : ds.length ≤ big
    · rw [if_pos h] at p1
      refine ⟨by rw [rs.length]; exact Nat.le_trans h big_le, fun q hq => ?_⟩
      have x2 := Ext.new (g := g) (o := .tup xs) s1.sub hq
      exact PostG.ret x2 p1 (.tup (SqT.of upd_same) (rs.mono (x2.le s1.sub)))
    · rw [if_neg h] at p1; exact p1.elim⟩
theorem ve_lst {es : List Expr} {pos : Pos} {f : Env → Res (List Dat)} (h : VA X g W es f) : VE X g W (.List es pos) (eLst f) :=
  PE.imp (pe_lst h) fun σ H Q ⟨ρ, F, s, p⟩ => ⟨ρ, F, s, (PostG.bind s p).imp fun xs H1 ⟨F1, ds, s1, rs, x1, p1⟩ => by
    by_cases h : ds.length ≤ big
    · rw [if_pos h] at p1
      refine ⟨by rw [rs.length]; exact Nat.le_trans h big_le, fun q hq => ?_⟩
      have x2 := Ext.new (g := g) (o := .lst xs) s1.sub hq
      exact PostG.ret x2 p1 (.lst upd_same (rs.mono (x2.le s1.sub)))
    · rw [if_neg h] at p1; exact p1.elim⟩
end

/-! ### keys and dicts -/
def keyOf : Dat → Option Key
  | .int i => some (.inl i)
  | .str x => some (.inr x)
  | _ => none
def dLook (kvs : List (Key × Dat)) (k : Key) : Option Dat := (kvs.find? fun kv => decide (kv.1 = k)).map (·.2)
section
variable {K : PySem.W.Frag} {g : Glob} {F : Hp}
theorem rep_key {v : V} {d : Dat} {k : Key} (r : Rep K g F v d) (h : keyOf d = some k) : v = kV k := by
  cases r with
  | int i => cases h; rfl
  | str x => cases h; rfl
  | _ => cases h
theorem look_rep : ∀ {kvs : List (Key × V)} {ds : List (Key × Dat)} (k : Key), kvs.map Prod.fst = ds.map Prod.fst → Reps K g F (kvs.map Prod.snd) (ds.map Prod.snd) →
    (dLook ds k = none ∧ valV kvs k = none) ∨ ∃ d v, dLook ds k = some d ∧ valV kvs k = some v ∧ Rep K g F v d := by
  intro kvs
  induction kvs with
  | nil =>
    intro ds k e r
    cases ds with
    | nil => exact .inl ⟨rfl, rfl⟩
    | cons _ _ => simp at e
  | cons p kvs ih =>
    intro ds k e r
    cases ds with
    | nil => simp at e
    | cons q ds =>
      simp only [List.map_cons, List.cons.injEq] at e
      simp only [List.map_cons] at r
      cases r with
      | cons a b =>
        by_cases h : p.1 = k
        · have h' : q.1 = k := by rw [← e.1]; exact h
          refine .inr ⟨q.2, p.2, ?_, ?_, a⟩
          · unfold dLook; simp [List.find?_cons, h']
          · unfold valV; simp [List.find?_cons, h]
        · have h' : ¬ q.1 = k := by rw [← e.1]; exact h
          have e1 : dLook (q :: ds) k = dLook ds k := by unfold dLook; simp [List.find?_cons, h']
          have e2 : valV (p :: kvs) k = valV kvs k := by unfold valV; simp [List.find?_cons, h]
          rw [e1, e2]
          exact ih k e.2 b
end

/-! ### x[i] -/
def rIxDk : R2 := fun x y H Q => ∃ a v, x = .ref a ∧ DGet H a y (some v) ∧ Q v H
def ixD : Dat → Dat → Res Dat
  | .lst xs, .int i => match atI xs i with
    | some d => .ok d
    | none => .stuck
  | .rls xs, .int i => match atI xs i with
    | some d => .ok d
    | none => .stuck
  | .tup xs, .int i => match atI xs i with
    | some d => .ok d
    | none => .stuck
  | .str z, .int i => if z.length ≤ big then match atI z.cps.toList i with
      | some c => .ok (.str ⟨#[c]⟩)
      | none => .stuck
    else .stuck
  | .dct kvs, k => match keyOf k with
    | some k => match dLook kvs k with
      | some d => .ok d
      | none => .stuck
    | none => .stuck
  | _, _ => .stuck
theorem reps_atI {K : PySem.W.Frag} {g : Glob} {F : Hp} {vs : List V} {ds : List Dat} {i : Int} {d : Dat} (h : Reps K g F vs ds) (e : atI ds i = some d) : ∃ v, atI vs i = some v ∧ Rep K g F v d := by
  unfold atI at e ⊢
  rw [h.length]
  cases q : ixN ds.length i with
  | none => rw [q] at e; cases e
  | some j => rw [q] at e; exact h.get e
section
variable {X : Cx} {g : Glob} {W : WX}
theorem ix_dict (hu : X.A.units + 1 < cLine) : IxR X rIxDk := by
  intro value slice pins s σ H x y v u Q I rx ry h hs
  obtain ⟨a, w, rfl, gt, q⟩ := h
  cases rx
  exact tail_any (dict_typeIs I gt) PySem.F.slot_dict_getitem.lookup (d_getItem hu I gt ry fun w' s3 I3 rw' => ⟨w, H, I3, rw', q⟩) hs
def rIxA (K : PySem.W.Frag) : R2 := fun x y H Q => rIx K x y H Q ∨ rIxDk x y H Q
theorem ix_any (hu : X.A.units + 1 < cLine) : IxR X (rIxA X.K) := ix_seq.or (ix_dict hu)
theorem opd_ix : OpD X g W ixD (rIxA X.K) := by
  intro F H σ ρ x y a b Q s ra rb p
  cases ra with
  | lst ha rs =>
    rename_i aa xs ds
    cases rb with
    | int i =>
      cases e : atI ds i with
      | none => simp only [ixD, e] at p; exact p.elim
      | some d =>
        simp only [ixD, e] at p
        obtain ⟨v, h1, h2⟩ := reps_atI rs e
        exact .inl (.inl ⟨aa, xs, i, v, rfl, rfl, SqL.of (s.sub _ _ ha), h1, PostG.here s.sub p h2⟩)
    | _ => exact p.elim
  | rls ha rs =>
    rename_i aa xs ds
    cases rb with
    | int i =>
      cases e : atI ds i with
      | none => simp only [ixD, e] at p; exact p.elim
      | some d =>
        simp only [ixD, e] at p
        obtain ⟨v, h1, h2⟩ := reps_atI rs e
        exact .inl (.inl ⟨aa, xs, i, v, rfl, rfl, s.sub.seq ha, h1, PostG.here s.sub p h2⟩)
    | _ => exact p.elim
  | tup ha rs =>
    rename_i aa xs ds
    cases rb with
    | int i =>
      cases e : atI ds i with
      | none => simp only [ixD, e] at p; exact p.elim
      | some d =>
        simp only [ixD, e] at p
        obtain ⟨v, h1, h2⟩ := reps_atI rs e
        exact .inl (.inr (.inl ⟨aa, xs, i, v, rfl, rfl, sqT_mono s.sub ha, h1, PostG.here s.sub p h2⟩))
    | _ => exact p.elim
  | str z =>
    cases rb with
    | int i =>
      by_cases hz : z.length ≤ big
      · cases e : atI z.cps.toList i with
        | none => simp only [ixD, if_pos hz, e] at p; exact p.elim
        | some c =>
          simp only [ixD, if_pos hz, e] at p
          exact .inl (.inr (.inr ⟨z, i, c, rfl, rfl, Nat.le_trans hz big_le, e, PostG.here s.sub p (.str _)⟩))
      · simp only [ixD, if_neg hz] at p; exact p.elim
    | _ => exact p.elim
  | dct ha hk rs =>
    rename_i aa kvs ds
    cases e : keyOf b with
    | none => simp only [ixD, e] at p; exact p.elim
    | some k =>
      have hy := rep_key rb e
      subst hy
      rcases look_rep k hk rs with ⟨h1, h2⟩ | ⟨d, v, h1, h2, h3⟩
      · simp only [ixD, e, h1] at p; exact p.elim
      · simp only [ixD, e, h1] at p
        exact .inr ⟨aa, v, rfl, .inl ⟨kvs, k, rd_mono s.sub ha, rfl, h2.symm⟩, PostG.here s.sub p h3⟩
  | _ => exact p.elim
theorem ve_sub_ix {k : Nat} {a b : Expr} {pos : Pos} {f h : Env → Res Dat} (hr : Room k X.A) (ha : VE X g W a f) (hb : VE X g W b h) (hs : PlainIx b := by exact fun _ _ => rfl) : VE X g W (.Subscript a b pos) (eBin ixD f h) := ve_ix (ix_any (hu_of hr)) opd_ix ha hb hs
end

/-! ### x[lo:hi] -/
def cutD (xs : List Dat) (lo hi : Option Int) : List Dat := (xs.drop (HT.sIx xs.length 0 lo)).take (HT.sIx xs.length xs.length hi - HT.sIx xs.length 0 lo)
def slD : Dat → Option Int → Option Int → Res Dat
  | .lst xs, lo, hi => .ok (.lst (cutD xs lo hi))
  | .tup xs, lo, hi => .ok (.tup (cutD xs lo hi))
  | .str z, lo, hi => if z.length ≤ big then .ok (.str (cutS z lo hi)) else .stuck
  | _, _, _ => .stuck
def toI : Dat → Res (Option Int)
  | .int i => .ok (some i)
  | _ => .stuck
def oNone : Env → Res (Option Int) := fun _ => .ok none
def oSome (f : Env → Res Dat) : Env → Res (Option Int) := fun ρ => (f ρ).bind toI
def eSl (f : Env → Res Dat) (l u : Env → Res (Option Int)) : Env → Res Dat := fun ρ => (f ρ).bind fun a => (l ρ).bind fun lo => (u ρ).bind fun hi => slD a lo hi
theorem reps_cut {K : PySem.W.Frag} {g : Glob} {F : Hp} {vs : List V} {ds : List Dat} (h : Reps K g F vs ds) (lo hi : Option Int) : Reps K g F (cutV vs lo hi) (cutD ds lo hi) := by
  unfold cutV cutD
  rw [h.length]
  exact (h.drop _).take _
section
variable (X : Cx) (g : Glob) (W : WX)
def VO (e : Option Expr) (f : Env → Res (Option Int)) : Prop := PO X e (tG X.K g (fun _ (o : Option Int) a => o = a) W f)
end
theorem PO.imp {X : Cx} {e : Option Expr} {t t' : TO} (h : PO X e t) (i : ∀ σ H Q, t' σ H Q → t σ H Q) : PO X e t' := ⟨fun pins s σ H Q I q => h.run pins s σ H Q I (i σ H Q q)⟩
section
variable {X : Cx} {g : Glob} {W : WX}
theorem vo_none : VO X g W none oNone := PO.imp po_none fun σ H Q ⟨ρ, F, s, p⟩ => PostG.here s.sub p rfl
theorem vo_some {e : Expr} {f : Env → Res Dat} (h : VE X g W e f) : VO X g W (some e) (oSome f) := PO.imp (po_some h) fun σ H Q ⟨ρ, F, s, p⟩ => ⟨ρ, F, s, (PostG.bind s p).imp fun x H1 ⟨F1, a, s1, ra, x1, p1⟩ => by
  cases ra with
  | int i => exact ⟨i, rfl, PostG.here s1.sub p1 rfl⟩
  | _ => exact p1.elim⟩
def rSlAll (K : PySem.W.Frag) : V → Option Int → Option Int → Hp → VK → Prop := fun x lo hi H Q => rSlL K x lo hi H Q ∨ rSlA K x lo hi H Q ∨ rSlS x lo hi H Q
theorem sl_all : SlR X (rSlAll X.K) := sl_list.or (sl_tupA.or sl_str)
theorem whole_cut (ds : List Dat) (lo hi : Option Int) (h : HT.sIx ds.length 0 lo = 0 ∧ HT.sIx ds.length ds.length hi = ds.length) : cutD ds lo hi = ds := by
  unfold cutD; rw [h.1, h.2]; simp
theorem sld_ok {F H : Hp} {σ : St} {ρ : Env} {x : V} {a : Dat} {lo hi : Option Int} {Q : VK} (s : Stt X.K g F H σ ρ) (ra : Rep X.K g F x a) (p : PostG g (Rep X.K g) W σ F H (slD a lo hi) Q) : rSlAll X.K x lo hi H Q := by
  cases ra with
  | lst ha rs =>
    rename_i aa xs ds
    refine .inl ⟨aa, xs, rfl, SqL.of (s.sub _ _ ha), fun q hq => ?_⟩
    have x2 := Ext.new (g := g) (o := .lst (cutV xs lo hi)) s.sub hq
    exact PostG.ret x2 p (.lst upd_same ((reps_cut rs lo hi).mono (x2.le s.sub)))
  | tup ha rs =>
    rename_i aa xs ds
    refine .inr (.inl ⟨aa, xs, rfl, sqT_mono s.sub ha, fun hw => ?_, fun _ q hq => ?_⟩)
    · rw [rs.length] at hw
      refine PostG.here s.sub p (.tup ha ?_)
      rw [whole_cut ds lo hi hw]; exact rs
    · have x2 := Ext.new (g := g) (o := .tup (cutV xs lo hi)) s.sub hq
      exact PostG.ret x2 p (.tup (SqT.of upd_same) ((reps_cut rs lo hi).mono (x2.le s.sub)))
  | str z =>
    dsimp only [slD] at p
    by_cases hz : z.length ≤ big
    · rw [if_pos hz] at p
      exact .inr (.inr ⟨z, rfl, Nat.le_trans hz big_le, PostG.here s.sub p (.str _)⟩)
    · rw [if_neg hz] at p; exact p.elim
  | _ => exact p.elim
theorem ve_slice {e : Expr} {lo hi : Option Expr} {p2 pos : Pos} {f : Env → Res Dat} {l u : Env → Res (Option Int)} (he : VE X g W e f) (hl : VO X g W lo l) (hu : VO X g W hi u) : VE X g W (.Subscript e (.Slice lo hi none p2) pos) (eSl f l u) :=
  PE.imp (pe_slice sl_all he hl hu) fun σ H Q ⟨ρ, F, s, p⟩ => ⟨ρ, F, s, (PostG.bind s p).imp fun x H1 ⟨F1, a, s1, ra, x1, p1⟩ => ⟨ρ, F1, s1, (PostG.bind s1 p1).imp fun lo H2 ⟨F2, b, s2, rb, x2, p2⟩ => ⟨ρ, F2, s2, (PostG.bind s2 p2).imp fun hi H3 ⟨F3, c, s3, rc, x3, p3⟩ => by
    subst rb rc
    exact sld_ok s3 (ra.mono (Same.trans (x2.le s1.sub) (x3.le s2.sub))) p3⟩⟩⟩
end

/-! ### is None -/
def isND : Dat → Res Dat
  | .non => .ok (.bl true)
  | _ => .ok (.bl false)
def notND : Dat → Res Dat
  | .non => .ok (.bl false)
  | _ => .ok (.bl true)
section
variable {X : Cx} {g : Glob} {W : WX}
theorem ve_isN {a : Expr} {j} {pos pos' : Pos} {f : Env → Res Dat} (ha : VE X g W a f) : VE X g W (.Compare a [.Is] [.Constant .none j pos'] pos) (eUn isND f) :=
  PE.imp (pe_cmp (pc_isN ha)) fun σ H Q ⟨ρ, F, s, p⟩ => ⟨ρ, F, s, (PostG.bind s p).imp fun x H1 ⟨F1, a, s1, ra, x1, p1⟩ => by
    cases ra <;> exact PostG.here s1.sub p1 (.bl _)⟩
theorem ve_notN {a : Expr} {j} {pos pos' : Pos} {f : Env → Res Dat} (ha : VE X g W a f) : VE X g W (.Compare a [.IsNot] [.Constant .none j pos'] pos) (eUn notND f) :=
  PE.imp (pe_cmp (pc_notN ha)) fun σ H Q ⟨ρ, F, s, p⟩ => ⟨ρ, F, s, (PostG.bind s p).imp fun x H1 ⟨F1, a, s1, ra, x1, p1⟩ => by
    cases ra <;> exact PostG.here s1.sub p1 (.bl _)⟩
end

/-! ### in, not in -/
/-- x in the items ds, all plain data -/
def inL (d : Dat) (ds : List Dat) : Option Bool := match toPy d, toPys ds with
  | some x, some xs => if SeqAt.shaped x && SeqAt.shaped (.list xs) then some (xs.any fun z => PyData.eqv z x) else none
  | _, _ => none
def flatD : Dat → Bool
  | .non => true
  | .bl _ => true
  | .int _ => true
  | .str _ => true
  | _ => false
def vOf : Dat → V
  | .bl b => .bl b
  | .int i => .int i
  | .str x => .str x
  | _ => .non
def inB : Dat → Dat → Option Bool
  | d, .lst ds => inL d ds
  | d, .tup ds => if flatD d && ds.all flatD then some (inV (vOf d) (ds.map vOf)) else none
  | .str x, .str z => match x.cps.toList with
    | [c] => some (decide (c ∈ z.cps.toList))
    | _ => none
  | d, .dct kvs => match keyOf d with
    | some k => some (dLook kvs k).isSome
    | none => none
  | _, _ => none
def inD (a b : Dat) : Res Dat := match inB a b with
  | some c => .ok (.bl c)
  | none => .stuck
def notInD (a b : Dat) : Res Dat := match inB a b with
  | some c => .ok (.bl (!c))
  | none => .stuck
section
variable {K : PySem.W.Frag} {g : Glob} {F H : Hp}
theorem rep_flat {v : V} {d : Dat} (r : Rep K g F v d) (h : flatD d = true) : v = vOf d ∧ flatV v = true := by
  cases r with
  | non => exact ⟨rfl, rfl⟩
  | bl b => exact ⟨rfl, rfl⟩
  | int b => exact ⟨rfl, rfl⟩
  | str b => exact ⟨rfl, rfl⟩
  | _ => exact absurd h (by simp [flatD])
theorem reps_flat {vs : List V} {ds : List Dat} (r : Reps K g F vs ds) (h : ds.all flatD = true) : vs = ds.map vOf ∧ vs.all flatV = true := by
  induction vs generalizing ds with
  | nil => cases r; exact ⟨rfl, rfl⟩
  | cons v vs ih =>
    cases r with
    | cons a b =>
      rw [List.all_cons, Bool.and_eq_true] at h
      obtain ⟨e1, f1⟩ := rep_flat a h.1
      obtain ⟨e2, f2⟩ := ih b h.2
      refine ⟨by rw [List.map_cons, ← e1, ← e2], ?_⟩
      rw [List.all_cons, f1, f2]; rfl
end
section
variable {X : Cx} {g : Glob} {W : WX}
def rInA (K : PySem.W.Frag) : R2 := fun x y H Q => rInD K x y H Q ∨ rIn K false x y H Q ∨ (∃ (c : Nat) (z : Str), x = .str ⟨#[c]⟩ ∧ y = .str z ∧ Q (.bl (decide (c ∈ z.cps.toList))) H) ∨ (∃ a o, y = .ref a ∧ DGet H a x o ∧ Q (.bl o.isSome) H)
def rNotInA (K : PySem.W.Frag) : R2 := fun x y H Q => rNotInD K x y H Q ∨ rIn K true x y H Q ∨ (∃ (c : Nat) (z : Str), x = .str ⟨#[c]⟩ ∧ y = .str z ∧ Q (.bl (!decide (c ∈ z.cps.toList))) H) ∨ (∃ a o, y = .ref a ∧ DGet H a x o ∧ Q (.bl (!o.isSome)) H)
theorem op_inDk (hu : X.A.units + 1 < cLine) : OpR X (compareOp .In) (fun x y H Q => ∃ a o, y = .ref a ∧ DGet H a x o ∧ Q (.bl o.isSome) H) := by
  intro pins s σ H x y v u Q I rx ry h
  obtain ⟨a, o, rfl, gt, q⟩ := h
  cases ry
  exact d_in hu I gt rx fun s3 I3 => ⟨.bl o.isSome, H, I3, rfl, q⟩
theorem op_notInDk (hu : X.A.units + 1 < cLine) : OpR X (compareOp .NotIn) (fun x y H Q => ∃ a o, y = .ref a ∧ DGet H a x o ∧ Q (.bl (!o.isSome)) H) := by
  intro pins s σ H x y v u Q I rx ry h
  obtain ⟨a, o, rfl, gt, q⟩ := h
  cases ry
  exact d_notIn hu I gt rx fun s3 I3 => ⟨.bl (!o.isSome), H, I3, rfl, q⟩
theorem op_inA {k : Nat} (hr : Room k X.A) : OpR X (compareOp .In) (rInA X.K) := (op_inD (by have := hr.un; omega)).or (op_in_seq.or (op_in_sign.or (op_inDk (hu_of hr))))
theorem op_notInA {k : Nat} (hr : Room k X.A) : OpR X (compareOp .NotIn) (rNotInA X.K) := (op_notInD (by have := hr.un; omega)).or (op_notIn_seq.or (op_notIn_sign.or (op_notInDk (hu_of hr))))
theorem inL_of {d : Dat} {ds : List Dat} {c : Bool} (h : inL d ds = some c) : ∃ x xs, toPy d = some x ∧ toPys ds = some xs ∧ SeqAt.shaped x = true ∧ SeqAt.shaped (.list xs) = true ∧ c = xs.any fun z => PyData.eqv z x := by
  unfold inL at h
  cases h1 : toPy d with
  | none => rw [h1] at h; simp at h
  | some x =>
    cases h2 : toPys ds with
    | none => rw [h1, h2] at h; simp at h
    | some y =>
      rw [h1, h2] at h
      by_cases q : (SeqAt.shaped x && SeqAt.shaped (.list y)) = true
      · simp only [q, if_true] at h
        have q' := Bool.and_eq_true_iff.mp q
        exact ⟨x, y, rfl, rfl, q'.1, q'.2, (Option.some.inj h).symm⟩
      · simp [q] at h
theorem in_cases {F H : Hp} {σ : St} {ρ : Env} {x y : V} {a b : Dat} {c : Bool} (s : Stt X.K g F H σ ρ) (ra : Rep X.K g F x a) (rb : Rep X.K g F y b) (h : inB a b = some c) :
    (∃ d ds, Dp X.K H x d ∧ Dp X.K H y (.list ds) ∧ SeqAt.shaped d = true ∧ SeqAt.shaped (.list ds) = true ∧ c = ds.any fun z => PyData.eqv z d) ∨
    (∃ p xs, y = .ref p ∧ (SqL X.K H p xs ∨ SqT X.K H p xs) ∧ flatV x = true ∧ xs.all flatV = true ∧ c = inV x xs) ∨
    (∃ (k : Nat) (z : Str), x = .str ⟨#[k]⟩ ∧ y = .str z ∧ c = decide (k ∈ z.cps.toList)) ∨ (∃ p o, y = .ref p ∧ DGet H p x o ∧ c = o.isSome) := by
  cases rb with
  | lst hb rs =>
    rename_i bb ys es
    have h' : inL a es = some c := by cases a <;> exact h
    obtain ⟨u, us, h1, h2, h3, h4, h5⟩ := inL_of h'
    refine .inl ⟨u, us, rep_dp s.sub ra u h1, ?_, h3, h4, h5⟩
    refine rep_dp s.sub (.lst hb rs) _ ?_
    unfold toPy; rw [h2]; rfl
  | tup hb rs =>
    rename_i bb ys es
    have h' : (if (flatD a && es.all flatD) = true then some (inV (vOf a) (es.map vOf)) else none) = some c := by cases a <;> exact h
    by_cases q : (flatD a && es.all flatD) = true
    · rw [if_pos q] at h'
      have q' := Bool.and_eq_true_iff.mp q
      obtain ⟨e1, f1⟩ := rep_flat ra q'.1
      obtain ⟨e2, f2⟩ := reps_flat rs q'.2
      refine .inr (.inl ⟨bb, ys, rfl, .inr (sqT_mono s.sub hb), f1, f2, ?_⟩)
      rw [e1, e2]; exact (Option.some.inj h').symm
    · rw [if_neg q] at h'; cases h'
  | str z =>
    cases ra with
    | str w =>
      dsimp only [inB] at h
      cases e : w.cps.toList with
      | nil => rw [e] at h; cases h
      | cons k r =>
        cases r with
        | nil =>
          rw [e] at h
          have ew : w = ⟨#[k]⟩ := by
            cases w with
            | mk cps =>
              have e' : cps.toList = [k] := e
              congr 1
              apply Array.toList_inj.mp
              rw [e']
          subst ew
          exact .inr (.inr (.inl ⟨k, z, rfl, rfl, (Option.some.inj h).symm⟩))
        | cons _ _ => rw [e] at h; cases h
    | _ => cases h
  | dct hb hk rs =>
    rename_i bb kvs es
    have h' : (match keyOf a with | some k => some (dLook es k).isSome | none => none) = some c := by cases a <;> exact h
    cases e : keyOf a with
    | none => rw [e] at h'; cases h'
    | some k =>
      rw [e] at h'
      have hx := rep_key ra e
      subst hx
      refine .inr (.inr (.inr ⟨bb, valV kvs k, rfl, .inl ⟨kvs, k, rd_mono s.sub hb, rfl, rfl⟩, ?_⟩))
      have h'' := (Option.some.inj h').symm
      rcases look_rep k hk rs with ⟨h1, h2⟩ | ⟨d, v, h1, h2, h3⟩
      · rw [h1] at h''; rw [h2]; exact h''
      · rw [h1] at h''; rw [h2]; exact h''
  | _ => cases a <;> cases h
theorem opd_in : OpD X g W inD (rInA X.K) := by
  intro F H σ ρ x y a b Q s ra rb p
  unfold inD at p
  cases e : inB a b with
  | none => rw [e] at p; exact p.elim
  | some c =>
    rw [e] at p
    have q := PostG.here s.sub p (.bl c)
    rcases in_cases s ra rb e with ⟨d, ds, h1, h2, h3, h4, rfl⟩ | ⟨pp, xs, h1, h2, h3, h4, rfl⟩ | ⟨k, z, h1, h2, rfl⟩ | ⟨pp, o, h1, h2, rfl⟩
    · exact .inl ⟨d, ds, h1, h2, h3, h4, q⟩
    · exact .inr (.inl ⟨pp, xs, h1, h2, h3, h4, q⟩)
    · exact .inr (.inr (.inl ⟨k, z, h1, h2, q⟩))
    · exact .inr (.inr (.inr ⟨pp, o, h1, h2, q⟩))
theorem opd_notIn : OpD X g W notInD (rNotInA X.K) := by
  intro F H σ ρ x y a b Q s ra rb p
  unfold notInD at p
  cases e : inB a b with
  | none => rw [e] at p; exact p.elim
  | some c =>
    rw [e] at p
    have q := PostG.here s.sub p (.bl (!c))
    rcases in_cases s ra rb e with ⟨d, ds, h1, h2, h3, h4, rfl⟩ | ⟨pp, xs, h1, h2, h3, h4, rfl⟩ | ⟨k, z, h1, h2, rfl⟩ | ⟨pp, o, h1, h2, rfl⟩
    · exact .inl ⟨d, ds, h1, h2, h3, h4, q⟩
    · exact .inr (.inl ⟨pp, xs, h1, h2, h3, h4, q⟩)
    · exact .inr (.inr (.inl ⟨k, z, h1, h2, q⟩))
    · exact .inr (.inr (.inr ⟨pp, o, h1, h2, q⟩))
theorem ve_in {k : Nat} {a b : Expr} {pos : Pos} {f h : Env → Res Dat} (hr : Room k X.A) (ha : VE X g W a f) (hb : VE X g W b h) (hm : behindInMarks .In b = false := by rfl) : VE X g W (.Compare a [.In] [b] pos) (eBin inD f h) := ve_cmp (op_inA hr) opd_in ha hb hm
theorem ve_notIn {k : Nat} {a b : Expr} {pos : Pos} {f h : Env → Res Dat} (hr : Room k X.A) (ha : VE X g W a f) (hb : VE X g W b h) (hm : behindInMarks .NotIn b = false := by rfl) : VE X g W (.Compare a [.NotIn] [b] pos) (eBin notInD f h) := ve_cmp (op_notInA hr) opd_notIn ha hb hm
end
end VL

/-! VL4: builtins, calls of the program's own defs, what is walked, comprehensions. -/
namespace VL
open PySem PySem.Spec PyProof.Rows L2

def eCall (m : List Dat → Res Dat) (f : Env → Res (List Dat)) : Env → Res Dat := fun ρ => (f ρ).bind m
def CallD (X : Cx) (g : Glob) (W : WX) (m : List Dat → Res Dat) (r : List V → Hp → VK → Prop) : Prop := ∀ {F H : Hp} {σ : St} {ρ : Env} {xs : List V} {ds : List Dat} {Q : VK}, Stt X.K g F H σ ρ → Reps X.K g F xs ds → PostG g (Rep X.K g) W σ F H (m ds) Q → r xs H Q
section
variable {X : Cx} {g : Glob} {W : WX}
theorem ve_callB {id : String} {x : Str} {e : Expr} {es : List Expr} {p pos : Pos} {r : List V → Hp → VK → Prop} {m : List Dat → Res Dat} {f : Env → Res (List Dat)} (hc : CallR X (.builtin id) r) (hd : CallD X g W m r) (hm : X.mg x = none) (hv : bootBuiltins x = some (.builtin id)) (ha : VA X g W (e :: es) f)
    (hg : Gl X x := by rfl) (hn : x ≠ "__name__" := by decide) (hdb : (x == ("__debug__" : Str)) = false := by decide) (he : starEach (e :: es) X.env = (false, eval e X.env) :: starEach es X.env := by rfl) (hpl : (backTo pos (starEach es X.env)).any (·.1) = false := by rfl) : VE X g W (.Call (.Name x p) (e :: es) [] pos) (eCall m f) :=
  PE.imp (pe_callB hc hg hm hv ha hn hdb he hpl) fun σ H Q ⟨ρ, F, s, p⟩ => ⟨ρ, F, s, (PostG.bind s p).imp fun xs H1 ⟨F1, ds, s1, rs, x1, p1⟩ => hd s1 rs p1⟩
theorem ve_callTy {T : String} {x : Str} {e : Expr} {es : List Expr} {p pos : Pos} {r : List V → Hp → VK → Prop} {m : List Dat → Res Dat} {f : Env → Res (List Dat)} (hc : CallR X (.type T) r) (hd : CallD X g W m r) (hm : X.mg x = none) (hv : bootBuiltins x = some (.type T)) (ha : VA X g W (e :: es) f)
    (hg : Gl X x := by rfl) (hn : x ≠ "__name__" := by decide) (hdb : (x == ("__debug__" : Str)) = false := by decide) (he : starEach (e :: es) X.env = (false, eval e X.env) :: starEach es X.env := by rfl) (hpl : (backTo pos (starEach es X.env)).any (·.1) = false := by rfl) : VE X g W (.Call (.Name x p) (e :: es) [] pos) (eCall m f) :=
  PE.imp (pe_callTy hc hg hm hv ha hn hdb he hpl) fun σ H Q ⟨ρ, F, s, p⟩ => ⟨ρ, F, s, (PostG.bind s p).imp fun xs H1 ⟨F1, ds, s1, rs, x1, p1⟩ => hd s1 rs p1⟩
end

/-! ### isinstance, len -/
def tname : Dat → Option String
  | .non => some "NoneType"
  | .bl _ => some "bool"
  | .int _ => some "int"
  | .str _ => some "str"
  | .lst _ => some "list"
  | .tup _ => some "tuple"
  | .dct _ => some "dict"
  | _ => none
def kinds : List String := ["int", "bool", "str", "list", "tuple", "dict"]
def isK (t c : String) : Bool := decide (t = c) || (decide (t = "bool") && decide (c = "int"))
def isiD : List Dat → Res Dat
  | [d, .ty c] => match tname d with
    | some t => if c ∈ kinds then .ok (.bl (isK t c)) else .stuck
    | none => .stuck
  | _ => .stuck
theorem kit_kinds : ∀ c ∈ kinds, ∀ t ∈ ["NoneType", "bool", "int", "str", "list", "tuple", "dict"], kitB t c = some (isK t c) := by decide +kernel
theorem tname_mem {d : Dat} {t : String} (h : tname d = some t) : t ∈ ["NoneType", "bool", "int", "str", "list", "tuple", "dict"] := by
  cases d <;> simp [tname] at h <;> subst h <;> decide
theorem tyX_of {K : PySem.W.Frag} {g : Glob} {F H : Hp} {v : V} {d : Dat} {t : String} (s : Same F H) (r : Rep K g F v d) (h : tname d = some t) : TyX K H v (.type t) := by
  cases r with
  | non => cases h; exact .base .non
  | bl b => cases h; exact .base (.bl b)
  | int b => cases h; exact .base (.int b)
  | str b => cases h; exact .base (.str b)
  | lst ha _ => cases h; exact .base (.lst (s _ _ ha))
  | tup ha _ =>
    cases h
    rcases ha with (ha | ⟨o, ha⟩) | ⟨o, its, n, h1, h2, _⟩
    · exact .base (.tup (s _ _ ha))
    · exact .fTuple (s _ _ ha)
    · exact .kTuple h1 h2
  | dct ha _ _ =>
    cases h
    rcases ha with ha | ⟨o, ha⟩
    · exact .base (.dK (s _ _ ha))
    · exact .fDict (s _ _ ha)
  | _ => cases h
def lenD : List Dat → Res Dat
  | [.str z] => if z.length ≤ big then .ok (.int z.length) else .stuck
  | [.lst xs] => .ok (.int xs.length)
  | [.rls xs] => .ok (.int xs.length)
  | [.tup xs] => .ok (.int xs.length)
  | _ => .stuck
section
variable {X : Cx} {g : Glob} {W : WX}
theorem cd_isi : CallD X g W isiD (rIsi X.K) := by
  intro F H σ ρ xs ds Q s rs p
  unfold isiD at p
  split at p
  · rename_i d c
    cases rs with
    | cons ra rb =>
      cases rb with
      | cons rc rd =>
        cases rd
        cases rc
        cases e : tname d with
        | none => rw [e] at p; exact p.elim
        | some t =>
          rw [e] at p
          by_cases hc : c ∈ kinds
          · simp only [if_pos hc] at p
            exact ⟨_, .ty c, .type t, .type c, _, rfl, .ty c, tyX_of s.sub ra e, kit_ty (kit_kinds c hc t (tname_mem e)), PostG.here s.sub p (.bl _)⟩
          · simp only [if_neg hc] at p; exact p.elim
  · exact p.elim
theorem cd_len : CallD X g W lenD (fun xs H Q => ∃ x n, xs = [x] ∧ LenV X.K x H n ∧ Q (.int n) H) := by
  intro F H σ ρ xs ds Q s rs p
  cases rs with
  | nil => exact p.elim
  | cons ra rb =>
    cases rb with
    | cons _ _ =>
      cases ra <;> exact p.elim
    | nil =>
      cases ra with
      | str z =>
        dsimp only [lenD] at p
        by_cases hz : z.length ≤ big
        · rw [if_pos hz] at p
          exact ⟨_, z.length, rfl, ⟨Nat.le_trans hz big_le, rfl⟩, PostG.here s.sub p (.int _)⟩
        · rw [if_neg hz] at p; exact p.elim
      | lst ha r => exact ⟨_, _, rfl, .inl ⟨_, SqL.of (s.sub _ _ ha), rfl⟩, by rw [r.length]; exact PostG.here s.sub p (.int _)⟩
      | rls ha r => exact ⟨_, _, rfl, .inl ⟨_, s.sub.seq ha, rfl⟩, by rw [r.length]; exact PostG.here s.sub p (.int _)⟩
      | tup ha r => exact ⟨_, _, rfl, .inr ⟨_, sqT_mono s.sub ha, rfl⟩, by rw [r.length]; exact PostG.here s.sub p (.int _)⟩
      | _ => exact p.elim
end

/-! ### min, max, sum, all, any, int, str, tuple, list -/
def minD : List Dat → Res Dat
  | [.int i, .int j] => .ok (.int (if j < i then j else i))
  | _ => .stuck
def maxD : List Dat → Res Dat
  | [.int i, .int j] => .ok (.int (if j > i then j else i))
  | _ => .stuck
def intsD : List Dat → Option (List Int)
  | [] => some []
  | .int i :: r => (intsD r).map (i :: ·)
  | _ => none
def boolsD : List Dat → Option (List Bool)
  | [] => some []
  | .bl i :: r => (boolsD r).map (i :: ·)
  | _ => none
def strsD : List Dat → Option (List Str)
  | [] => some []
  | .str i :: r => (strsD r).map (i :: ·)
  | _ => none
section
variable {K : PySem.W.Frag} {g : Glob} {F : Hp}
theorem reps_ints : ∀ {vs : List V} {ds : List Dat} {ns : List Int}, Reps K g F vs ds → intsD ds = some ns → vs = ns.map V.int := by
  intro vs
  induction vs with
  | nil => intro ds ns r h; cases r; cases h; rfl
  | cons v vs ih =>
    intro ds ns r h
    cases r with
    | @cons _ _ d ds a b =>
      cases a with
      | int i =>
        simp only [intsD] at h
        cases e : intsD ds with
        | none => rw [e] at h; cases h
        | some ms => rw [e] at h; cases h; rw [List.map_cons, ← ih b e]
      | _ => cases h
theorem reps_bools : ∀ {vs : List V} {ds : List Dat} {ns : List Bool}, Reps K g F vs ds → boolsD ds = some ns → vs = ns.map V.bl := by
  intro vs
  induction vs with
  | nil => intro ds ns r h; cases r; cases h; rfl
  | cons v vs ih =>
    intro ds ns r h
    cases r with
    | @cons _ _ d ds a b =>
      cases a with
      | bl i =>
        simp only [boolsD] at h
        cases e : boolsD ds with
        | none => rw [e] at h; cases h
        | some ms => rw [e] at h; cases h; rw [List.map_cons, ← ih b e]
      | _ => cases h
theorem reps_strs : ∀ {vs : List V} {ds : List Dat} {ns : List Str}, Reps K g F vs ds → strsD ds = some ns → vs = ns.map V.str := by
  intro vs
  induction vs with
  | nil => intro ds ns r h; cases r; cases h; rfl
  | cons v vs ih =>
    intro ds ns r h
    cases r with
    | @cons _ _ d ds a b =>
      cases a with
      | str i =>
        simp only [strsD] at h
        cases e : strsD ds with
        | none => rw [e] at h; cases h
        | some ms => rw [e] at h; cases h; rw [List.map_cons, ← ih b e]
      | _ => cases h
end
def sumD : List Dat → Res Dat
  | [.lst xs] => match intsD xs with
    | some ns => .ok (.int ns.sum)
    | none => .stuck
  | _ => .stuck
def allD : List Dat → Res Dat
  | [.lst xs] => match boolsD xs with
    | some bs => .ok (.bl (bs.all id))
    | none => .stuck
  | _ => .stuck
def anyD : List Dat → Res Dat
  | [.lst xs] => match boolsD xs with
    | some bs => .ok (.bl (bs.any id))
    | none => .stuck
  | _ => .stuck
def intD : List Dat → Res Dat
  | [.int i] => .ok (.int i)
  | [.bl k] => .ok (.int (if k then 1 else 0))
  | _ => .stuck
def strD : List Dat → Res Dat
  | [.int i] => if i.natAbs < 2 ^ 64 then .ok (.str (toString i)) else .stuck
  | _ => .stuck
def tupleD : List Dat → Res Dat
  | [.lst xs] => .ok (.tup xs)
  | [.tup xs] => .ok (.tup xs)
  | _ => .stuck
def listD : List Dat → Res Dat
  | [.lst xs] => .ok (.lst xs)
  | [.tup xs] => .ok (.lst xs)
  | _ => .stuck
section
variable {X : Cx} {g : Glob} {W : WX}
theorem cd_min : CallD X g W minD (fun xs H Q => ∃ i j, xs = [.int i, .int j] ∧ Q (.int (if j < i then j else i)) H) := by
  intro F H σ ρ xs ds Q s rs p
  unfold minD at p
  split at p
  · cases rs with
    | cons ra rb =>
      cases rb with
      | cons rc rd =>
        cases rd
        cases rc
        cases ra
        exact ⟨_, _, rfl, PostG.here s.sub p (.int _)⟩
  · exact p.elim
theorem cd_max : CallD X g W maxD (fun xs H Q => ∃ i j, xs = [.int i, .int j] ∧ Q (.int (if j > i then j else i)) H) := by
  intro F H σ ρ xs ds Q s rs p
  unfold maxD at p
  split at p
  · cases rs with
    | cons ra rb =>
      cases rb with
      | cons rc rd =>
        cases rd
        cases rc
        cases ra
        exact ⟨_, _, rfl, PostG.here s.sub p (.int _)⟩
  · exact p.elim
theorem cd_sum : CallD X g W sumD (rSum X.K) := by
  intro F H σ ρ xs ds Q s rs p
  unfold sumD at p
  split at p
  · rename_i ys
    cases rs with
    | cons ra rb =>
      cases rb
      cases ra with
      | lst ha r =>
        cases e : intsD ys with
        | none => rw [e] at p; exact p.elim
        | some ns =>
          rw [e] at p
          have e2 := reps_ints r e
          subst e2
          exact ⟨_, ns, rfl, SqL.of (s.sub _ _ ha), PostG.here s.sub p (.int _)⟩
  · exact p.elim
theorem cd_all : CallD X g W allD (rAll X.K) := by
  intro F H σ ρ xs ds Q s rs p
  unfold allD at p
  split at p
  · rename_i ys
    cases rs with
    | cons ra rb =>
      cases rb
      cases ra with
      | lst ha r =>
        cases e : boolsD ys with
        | none => rw [e] at p; exact p.elim
        | some ns =>
          rw [e] at p
          have e2 := reps_bools r e
          subst e2
          exact ⟨_, ns, rfl, SqL.of (s.sub _ _ ha), PostG.here s.sub p (.bl _)⟩
  · exact p.elim
theorem cd_any : CallD X g W anyD (rAny X.K) := by
  intro F H σ ρ xs ds Q s rs p
  unfold anyD at p
  split at p
  · rename_i ys
    cases rs with
    | cons ra rb =>
      cases rb
      cases ra with
      | lst ha r =>
        cases e : boolsD ys with
        | none => rw [e] at p; exact p.elim
        | some ns =>
          rw [e] at p
          have e2 := reps_bools r e
          subst e2
          exact ⟨_, ns, rfl, SqL.of (s.sub _ _ ha), PostG.here s.sub p (.bl _)⟩
  · exact p.elim
theorem cd_int : CallD X g W intD (fun xs H Q => (∃ i, xs = [.int i] ∧ Q (.int i) H) ∨ ∃ k, xs = [.bl k] ∧ Q (.int (if k then 1 else 0)) H) := by
  intro F H σ ρ xs ds Q s rs p
  unfold intD at p
  split at p
  · cases rs with
    | cons ra rb => cases rb; cases ra; exact .inl ⟨_, rfl, PostG.here s.sub p (.int _)⟩
  · cases rs with
    | cons ra rb => cases rb; cases ra; exact .inr ⟨_, rfl, PostG.here s.sub p (.int _)⟩
  · exact p.elim
theorem cd_str : CallD X g W strD (fun xs H Q => ∃ i, xs = [.int i] ∧ i.natAbs.log2 < 1920 ∧ Q (.str (toString i)) H) := by
  intro F H σ ρ xs ds Q s rs p
  unfold strD at p
  split at p
  · rename_i i
    cases rs with
    | cons ra rb =>
      cases rb
      cases ra
      by_cases h : i.natAbs < 2 ^ 64
      · rw [if_pos h] at p
        exact ⟨i, rfl, Nat.lt_of_lt_of_le (PySem.Flt.log2_lt_of (by decide : 0 < 64) h) (by decide), PostG.here s.sub p (.str _)⟩
      · rw [if_neg h] at p; exact p.elim
  · exact p.elim
theorem cd_tuple : CallD X g W tupleD (fun xs H Q => ∃ p ys, xs = [.ref p] ∧ ((SqL X.K H p ys ∧ ∀ l, H l = none → Q (.ref l) (upd H l (.tup ys))) ∨ (SqT X.K H p ys ∧ Q (.ref p) H))) := by
  intro F H σ ρ xs ds Q s rs p
  unfold tupleD at p
  split at p
  · cases rs with
    | cons ra rb =>
      cases rb
      cases ra with
      | @lst a zs _ ha r =>
        refine ⟨_, zs, rfl, .inl ⟨SqL.of (s.sub _ _ ha), fun l hl => ?_⟩⟩
        have x2 := Ext.new (g := g) (o := .tup zs) s.sub hl
        exact PostG.ret x2 p (.tup (SqT.of upd_same) (r.mono (x2.le s.sub)))
  · cases rs with
    | cons ra rb =>
      cases rb
      cases ra with
      | @tup a zs _ ha r => exact ⟨_, zs, rfl, .inr ⟨sqT_mono s.sub ha, PostG.here s.sub p (.tup ha r)⟩⟩
  · exact p.elim
theorem cd_list : CallD X g W listD (fun xs H Q => ∃ p ys, xs = [.ref p] ∧ (SqL X.K H p ys ∨ SqT X.K H p ys) ∧ ∀ l, H l = none → Q (.ref l) (upd H l (.lst ys))) := by
  intro F H σ ρ xs ds Q s rs p
  unfold listD at p
  split at p
  · cases rs with
    | cons ra rb =>
      cases rb
      cases ra with
      | @lst a zs _ ha r =>
        refine ⟨_, zs, rfl, .inl (SqL.of (s.sub _ _ ha)), fun l hl => ?_⟩
        have x2 := Ext.new (g := g) (o := .lst zs) s.sub hl
        exact PostG.ret x2 p (.lst upd_same (r.mono (x2.le s.sub)))
  · cases rs with
    | cons ra rb =>
      cases rb
      cases ra with
      | @tup a zs _ ha r =>
        refine ⟨_, zs, rfl, .inr (sqT_mono s.sub ha), fun l hl => ?_⟩
        have x2 := Ext.new (g := g) (o := .lst zs) s.sub hl
        exact PostG.ret x2 p (.lst upd_same (r.mono (x2.le s.sub)))
  · exact p.elim
end

/-! ### calls of the program's own defs -/
/-- a def that computes m of its arguments -/
def spV (K : PySem.W.Frag) (g : Glob) (m : List Dat → Res Dat) : Sp := fun vs H Q E => ∃ F ds, Same F H ∧ LamX.Tabs g.tabs H ∧ (∀ a ps, F a ≠ some (.tbl ps)) ∧ Reps K g F vs ds ∧ PostG g (Rep K g) (fun cls d _ H' => E cls d H') [] F H (m ds) Q
structure VFn (P : Program) (w : World) (K : PySem.W.Frag) (mg : Str → Option Value) (base : Heap) (g : Glob) (k : Nat) (x : Str) (m : List Dat → Res Dat) : Prop where
  ex : ∃ f fd ps, mg x = some (.ref f) ∧ PySem.W.keepIn K (.ref f) = true ∧ Binds K fd ps [] ∧ FnOk P w K mg base (L2N.CX P w) k f fd ps (spV K g m)
section
variable {X : Cx} {g : Glob} {W : WX}
theorem ve_call {k j : Nat} {x : Str} {e : Expr} {es : List Expr} {p pos : Pos} {m : List Dat → Res Dat} {f : Env → Res (List Dat)} (F : VFn X.prog X.w X.K X.mg X.base g k x m) (hr : Room j X.A) (hk : k ≤ j) (tk : L2N.Takes X W) (ha : VA X g W (e :: es) f)
    (hg : Gl X x := by rfl) (hdb : (x == ("__debug__" : Str)) = false := by decide) (he : starEach (e :: es) X.env = (false, eval e X.env) :: starEach es X.env := by rfl) (hpl : (backTo pos (starEach es X.env)).any (·.1) = false := by rfl) : VE X g W (.Call (.Name x p) (e :: es) [] pos) (eCall m f) := by
  obtain ⟨fa, fd, ps, h1, h2, h3, h5⟩ := F.ex
  refine PE.imp (pe_callS h5 (hr.mono hk) hg h1 h2 h3 (fun σ => L2N.passAt tk σ) ha hdb he hpl) fun σ H Q ⟨ρ, F, s, p⟩ => ⟨ρ, F, s, (PostG.bind s p).imp ?_⟩
  rintro vs H1 ⟨F1, ds, s1, rs, x1, p1⟩
  refine ⟨F1, ds, s1.sub, s1.tabs, s1.nt, rs, ?_⟩
  cases e2 : m ds with
  | stuck => rw [e2] at p1; exact p1.elim
  | exc c => rw [e2] at p1; exact p1
  | ok d => rw [e2] at p1; exact p1
end
end VL

/-! VL5: targets, what is walked, comprehensions. -/
namespace VL
open PySem PySem.Spec PyProof.Rows L2

/-! ### targets -/
inductive Pat where
  | nm (i : Nat) | tp (ps : List Pat)
mutual
def bindU : Pat → Dat → Option (List (Nat × Dat))
  | .nm i, d => some [(i, d)]
  | .tp ps, .tup ds => bindUs ps ds
  | .tp _, _ => none
def bindUs : List Pat → List Dat → Option (List (Nat × Dat))
  | [], [] => some []
  | p :: ps, d :: ds => match bindU p d, bindUs ps ds with
    | some a, some b => some (a ++ b)
    | _, _ => none
  | _, _ => none
end
theorem bindUs_len : ∀ (ps : List Pat) (ds : List Dat) (us : List (Nat × Dat)), bindUs ps ds = some us → ds.length = ps.length
  | [], [], us, h => rfl
  | [], _ :: _, us, h => by unfold bindUs at h; cases h
  | _ :: _, [], us, h => by unfold bindUs at h; cases h
  | p :: ps, d :: ds, us, h => by
    unfold bindUs at h
    cases h1 : bindU p d with
    | none => rw [h1] at h; simp at h
    | some a =>
      cases h2 : bindUs ps ds with
      | none => rw [h1, h2] at h; simp at h
      | some b => simp [bindUs_len ps ds b h2]
mutual
def patIx : Pat → List Nat
  | .nm i => [i]
  | .tp ps => patIxs ps
def patIxs : List Pat → List Nat
  | [] => []
  | p :: ps => patIx p ++ patIxs ps
end
mutual
theorem bindU_ix : ∀ (p : Pat) (d : Dat) (us : List (Nat × Dat)), bindU p d = some us → us.map Prod.fst = patIx p
  | .nm i, d, us, h => by unfold bindU at h; cases h; rfl
  | .tp ps, .tup ds, us, h => by unfold bindU at h; unfold patIx; exact bindUs_ix ps ds us h
  | .tp ps, .non, us, h => by unfold bindU at h; cases h
  | .tp ps, .bl _, us, h => by unfold bindU at h; cases h
  | .tp ps, .int _, us, h => by unfold bindU at h; cases h
  | .tp ps, .str _, us, h => by unfold bindU at h; cases h
  | .tp ps, .lst _, us, h => by unfold bindU at h; cases h
  | .tp ps, .rls _, us, h => by unfold bindU at h; cases h
  | .tp ps, .dct _, us, h => by unfold bindU at h; cases h
  | .tp ps, .ins _ _, us, h => by unfold bindU at h; cases h
  | .tp ps, .ty _, us, h => by unfold bindU at h; cases h
  | .tp ps, .opq _, us, h => by unfold bindU at h; cases h
theorem bindUs_ix : ∀ (ps : List Pat) (ds : List Dat) (us : List (Nat × Dat)), bindUs ps ds = some us → us.map Prod.fst = patIxs ps
  | [], [], us, h => by unfold bindUs at h; cases h; rfl
  | [], _ :: _, us, h => by unfold bindUs at h; cases h
  | _ :: _, [], us, h => by unfold bindUs at h; cases h
  | p :: ps, d :: ds, us, h => by
    unfold bindUs at h
    cases h1 : bindU p d with
    | none => rw [h1] at h; simp at h
    | some a =>
      cases h2 : bindUs ps ds with
      | none => rw [h1, h2] at h; simp at h
      | some b =>
        rw [h1, h2] at h
        cases h
        unfold patIxs
        rw [List.map_append, bindU_ix p d a h1, bindUs_ix ps ds b h2]
end
def setV (σ : St) : List (Nat × V) → St
  | [] => σ
  | (i, v) :: r => setV (σ.set i (some v)) r
def setE (ρ : Env) : List (Nat × Dat) → Env
  | [] => ρ
  | (i, d) :: r => setE (ρ.set i (some d)) r
theorem setV_append (σ : St) (a b : List (Nat × V)) : setV σ (a ++ b) = setV (setV σ a) b := by
  induction a generalizing σ with
  | nil => rfl
  | cons p a ih => exact ih _
theorem setV_length (σ : St) (a : List (Nat × V)) : (setV σ a).length = σ.length := by
  induction a generalizing σ with
  | nil => rfl
  | cons p a ih => show (setV (σ.set p.1 (some p.2)) a).length = _; rw [ih]; simp
theorem setE_length (ρ : Env) (a : List (Nat × Dat)) : (setE ρ a).length = ρ.length := by
  induction a generalizing ρ with
  | nil => rfl
  | cons p a ih => show (setE (ρ.set p.1 (some p.2)) a).length = _; rw [ih]; simp
section
variable {K : PySem.W.Frag} {g : Glob} {F H : Hp}
theorem renv_set {σ : St} {ρ : Env} {i : Nat} {v : V} {d : Dat} (h : REnv K g F σ ρ) (hl : ρ.length = σ.length) (r : Rep K g F v d) : REnv K g F (σ.set i (some v)) (ρ.set i (some d)) := by
  intro j e hj
  by_cases q : i = j
  · subst q
    by_cases hi : i < ρ.length
    · rw [List.getElem?_set_self hi] at hj
      cases hj
      exact ⟨v, by rw [List.getElem?_set_self (hl ▸ hi)], r⟩
    · rw [List.getElem?_eq_none (by simpa using hi)] at hj; cases hj
  · rw [List.getElem?_set_ne q] at hj ⊢
    exact h j e hj
theorem renv_sets {ws : List (Nat × V)} : ∀ {us : List (Nat × Dat)} {σ : St} {ρ : Env}, REnv K g F σ ρ → ρ.length = σ.length → ws.map Prod.fst = us.map Prod.fst → Reps K g F (ws.map Prod.snd) (us.map Prod.snd) → REnv K g F (setV σ ws) (setE ρ us) := by
  induction ws with
  | nil =>
    intro us σ ρ h hl e r
    cases us with
    | nil => exact h
    | cons _ _ => simp at e
  | cons w ws ih =>
    intro us σ ρ h hl e r
    cases us with
    | nil => simp at e
    | cons u us =>
      simp only [List.map_cons, List.cons.injEq] at e
      simp only [List.map_cons] at r
      cases r with
      | cons a b =>
        show REnv K g F (setV (σ.set w.1 (some w.2)) ws) (setE (ρ.set u.1 (some u.2)) us)
        rw [e.1]
        exact ih (renv_set h hl a) (by simp [hl]) e.2 b
end
section
variable (K : PySem.W.Frag) (g : Glob)
def gP (p : Pat) : TG := fun v σ H Q => ∃ F d us, Same F H ∧ Rep K g F v d ∧ bindU p d = some us ∧ ∀ ws : List (Nat × V), ws.map Prod.fst = us.map Prod.fst → Reps K g F (ws.map Prod.snd) (us.map Prod.snd) → Q (setV σ ws) H
def gPs (ps : List Pat) : TGs := fun vs σ H Q => ∃ F ds us, Same F H ∧ Reps K g F vs ds ∧ bindUs ps ds = some us ∧ ∀ ws : List (Nat × V), ws.map Prod.fst = us.map Prod.fst → Reps K g F (ws.map Prod.snd) (us.map Prod.snd) → Q (setV σ ws) H
end
def VG (X : Cx) (g : Glob) (tg : Expr) (p : Pat) : Prop := PG X tg (gP X.K g p)
def VGs (X : Cx) (g : Glob) (es : List Expr) (p : List Pat) : Prop := PGs X es (gPs X.K g p)
theorem PG.imp {X : Cx} {e : Expr} {t t' : TG} (h : PG X e t) (i : ∀ v σ H Q, t' v σ H Q → t v σ H Q) : PG X e t' := ⟨fun pins s σ H v u Q I r q => h.run pins s σ H v u Q I r (i v σ H Q q)⟩
theorem PGs.imp {X : Cx} {e : List Expr} {t t' : TGs} (h : PGs X e t) (i : ∀ v σ H Q, t' v σ H Q → t v σ H Q) : PGs X e t' := ⟨fun pins s σ H v u Q I r q => h.run pins s σ H v u Q I r (i v σ H Q q)⟩
section
variable {X : Cx} {g : Glob}
theorem vg_name (i : Nat) {x : Str} {pos : Pos} (hN : X.N.Nodup) (hi : X.N[i]? = some x := by rfl) (hx : Loc X.env.scope x := by first | exact Or.inl rfl | exact Or.inr rfl) (hf : X.fn x = true ∨ X.env.scope.names.lookup x = some .local := by first | exact .inl rfl | exact .inr rfl | assumption) : VG X g (.Name x pos) (.nm i) :=
  PG.imp (pg_name hN hi hx hf) fun v σ H Q ⟨F, d, us, s, r, e, q⟩ => by
    unfold bindU at e
    cases e
    exact q [(i, v)] rfl (.cons r .nil)
theorem vgs_nil : VGs X g [] [] := PGs.imp pgs_nil fun v σ H Q ⟨F, ds, us, s, r, e, q⟩ => by
  cases ds with
  | nil => cases r; unfold bindUs at e; cases e; exact ⟨rfl, q [] rfl .nil⟩
  | cons _ _ => unfold bindUs at e; cases e
theorem split_ws : ∀ {a b : List (Nat × Dat)} {wa wb : List (Nat × V)} {K : PySem.W.Frag} {F : Hp}, wa.map Prod.fst = a.map Prod.fst → wb.map Prod.fst = b.map Prod.fst → Reps K g F (wa.map Prod.snd) (a.map Prod.snd) → Reps K g F (wb.map Prod.snd) (b.map Prod.snd) →
    (wa ++ wb).map Prod.fst = (a ++ b).map Prod.fst ∧ Reps K g F ((wa ++ wb).map Prod.snd) ((a ++ b).map Prod.snd) := by
  intro a b wa wb K F h1 h2 h3 h4
  rw [List.map_append, List.map_append, List.map_append, List.map_append]
  exact ⟨by rw [h1, h2], h3.append h4⟩
theorem vgs_cons {e : Expr} {es : List Expr} {p : Pat} {ps : List Pat} (h1 : VG X g e p) (h2 : VGs X g es ps) (hs : (assignEach (e :: es) X.env).map (·.2) = assign e X.env :: (assignEach es X.env).map (·.2) := by rfl) : VGs X g (e :: es) (p :: ps) :=
  PGs.imp (pgs_cons h1 h2 hs) fun vs σ H Q ⟨F, ds, us, s, r, e, q⟩ => by
    cases ds with
    | nil => unfold bindUs at e; cases e
    | cons d ds =>
      cases r with
      | cons ra rb =>
        unfold bindUs at e
        cases e1 : bindU p d with
        | none => rw [e1] at e; simp at e
        | some a =>
          cases e2 : bindUs ps ds with
          | none => rw [e1, e2] at e; simp at e
          | some b =>
            rw [e1, e2] at e
            cases e
            refine ⟨_, _, rfl, F, d, a, s, ra, e1, fun wa k1 k2 => ⟨F, ds, b, s, rb, e2, fun wb k3 k4 => ?_⟩⟩
            obtain ⟨z1, z2⟩ := split_ws k1 k3 k2 k4
            have := q (wa ++ wb) z1 z2
            rw [setV_append] at this
            exact this
theorem vg_tup {es : List Expr} {k : Nat} {pos : Pos} {ps : List Pat} (hc : X.calm = true) (h : VGs X g es ps) (hn : (assignEach es X.env).length = ps.length := by rfl) (hst : (assignEach es X.env).findIdx? (·.1) = none := by rfl) : VG X g (.Tuple es k pos) (.tp ps) :=
  PG.imp (pg_tup hc h hn hst) fun v σ H Q ⟨F, d, us, s, r, e, q⟩ => by
    cases r with
    | @tup aa xs ds ha rs =>
      unfold bindU at e
      refine ⟨aa, xs, rfl, sqT_mono s ha, ?_, F, ds, us, s, rs, e, q⟩
      rw [rs.length]
      exact bindUs_len ps ds us e
    | _ => unfold bindU at e; cases e
end

/-! ### what is walked -/
def Iters (K : PySem.W.Frag) (g : Glob) (F1 : Hp) (J : It) (ds : List Dat) : Prop := ∀ (i : Nat) (F H : Hp), Same F1 F → Same F H →
  (∀ d, ds[i]? = some d → J.go i H ∧ ∀ x H', J.yld i H x H' → ∃ F', Ext g F H F' H' ∧ Rep K g F' x d) ∧ (ds.length ≤ i → J.stop i H)
def VI (X : Cx) (g : Glob) (W : WX) (tg iter : Expr) (f : Env → Res (List Dat)) : Prop := PI X tg iter (tG X.K g (Iters X.K g) W f)
def rangeL (a b : Int) : List Dat := (List.range (b - a).toNat).map fun i => Dat.int (a + (i : Nat))
def seqD : Dat → Res (List Dat)
  | .lst xs => .ok xs
  | .rls xs => .ok xs
  | .tup xs => .ok xs
  | .str z => .ok (z.cps.toList.map fun c => Dat.str ⟨#[c]⟩)
  | _ => .stuck
def iSeq (f : Env → Res Dat) : Env → Res (List Dat) := fun ρ => (f ρ).bind seqD
def rng1D : List Dat → Res (List Dat)
  | [.int j] => if -(2 ^ 62) ≤ j ∧ j < 2 ^ 62 then .ok (rangeL 0 j) else .stuck
  | _ => .stuck
def rng2D : List Dat → Res (List Dat)
  | [.int i, .int j] => if -(2 ^ 62) ≤ i ∧ i < 2 ^ 62 ∧ -(2 ^ 62) ≤ j ∧ j < 2 ^ 62 then .ok (rangeL i j) else .stuck
  | _ => .stuck
def iArg (k : List Dat → Res (List Dat)) (f : Env → Res (List Dat)) : Env → Res (List Dat) := fun ρ => (f ρ).bind k
def enumL : Nat → List Dat → List Dat
  | _, [] => []
  | n, d :: r => .tup [.int (n : Nat), d] :: enumL (n + 1) r
def enumD : List Dat → Res (List Dat)
  | [.lst xs] => .ok (enumL 0 xs)
  | _ => .stuck
theorem enumL_get : ∀ (xs : List Dat) (n i : Nat), (enumL n xs)[i]? = (xs[i]?).map fun d => Dat.tup [.int ((n + i : Nat) : Int), d]
  | [], n, i => by simp [enumL]
  | x :: xs, n, 0 => by simp [enumL]
  | x :: xs, n, i + 1 => by
    show (enumL (n + 1) xs)[i]? = _
    rw [enumL_get xs (n + 1) i]
    have e : n + 1 + i = n + (i + 1) := by omega
    rw [e]; rfl
theorem enumL_length : ∀ (xs : List Dat) (n : Nat), (enumL n xs).length = xs.length
  | [], _ => rfl
  | _ :: xs, n => by simp [enumL, enumL_length xs]
theorem rangeL_get (a b : Int) (i : Nat) : (rangeL a b)[i]? = if i < (b - a).toNat then some (.int (a + (i : Nat))) else none := by
  unfold rangeL
  rw [List.getElem?_map]
  by_cases h : i < (b - a).toNat
  · rw [List.getElem?_range h, if_pos h]; rfl
  · rw [List.getElem?_eq_none (by simpa using h), if_neg h]; rfl
theorem rangeL_length (a b : Int) : (rangeL a b).length = (b - a).toNat := by unfold rangeL; simp
section
variable {K : PySem.W.Frag} {g : Glob} {F : Hp}
theorem iters_list' {a : Addr} {xs : List V} {ds : List Dat} (ha : SqL K F a xs) (r : Reps K g F xs ds) : Iters K g F (Itl K a) ds := by
  intro i F' H s1 s2
  refine ⟨fun d e => ?_, fun h => ⟨xs, (s1.trans s2).seq ha, by rw [r.length]; exact h⟩⟩
  obtain ⟨v, h1, h2⟩ := r.get e
  refine ⟨⟨xs, v, (s1.trans s2).seq ha, h1⟩, fun x H' ⟨e1, e2⟩ => ?_⟩
  subst e1
  have := e2 xs ((s1.trans s2).seq ha)
  rw [h1] at this
  cases this
  exact ⟨F', Ext.refl s2, h2.mono s1⟩
theorem iters_tup {a : Addr} {xs : List V} {ds : List Dat} (ha : SqT K F a xs) (r : Reps K g F xs ds) : Iters K g F (Itt K a) ds := by
  intro i F' H s1 s2
  refine ⟨fun d e => ?_, fun h => ⟨xs, sqT_mono (s1.trans s2) ha, by rw [r.length]; exact h⟩⟩
  obtain ⟨v, h1, h2⟩ := r.get e
  refine ⟨⟨xs, v, sqT_mono (s1.trans s2) ha, h1⟩, fun x H' ⟨e1, e2⟩ => ?_⟩
  subst e1
  have := e2 xs (sqT_mono (s1.trans s2) ha)
  rw [h1] at this
  cases this
  exact ⟨F', Ext.refl s2, h2.mono s1⟩
theorem iters_str (z : Str) : Iters K g F (Its z) (z.cps.toList.map fun c => Dat.str ⟨#[c]⟩) := by
  intro i F' H s1 s2
  refine ⟨fun d e => ?_, fun h => ?_⟩
  · rw [List.getElem?_map] at e
    cases q : z.cps.toList[i]? with
    | none => rw [q] at e; cases e
    | some c =>
      rw [q] at e
      cases e
      have hi : i < z.cps.size := by
        have := (List.getElem?_eq_some_iff.mp q).1
        simpa using this
      refine ⟨hi, fun x H' ⟨e1, c', e2, e3⟩ => ?_⟩
      subst e1 e3
      have e4 : z.cps.toList[i]? = z.cps[i]? := by simp
      rw [← e4, q] at e2
      cases e2
      exact ⟨F', Ext.refl s2, .str _⟩
  · show z.cps.size ≤ i
    simpa using h
theorem iters_range (a b : Int) : Iters K g F (Itr a (b - a).toNat) (rangeL a b) := by
  intro i F' H s1 s2
  refine ⟨fun d e => ?_, fun h => ?_⟩
  · rw [rangeL_get] at e
    by_cases h : i < (b - a).toNat
    · rw [if_pos h] at e
      cases e
      refine ⟨h, fun x H' ⟨e1, e2⟩ => ?_⟩
      subst e1 e2
      exact ⟨F', Ext.refl s2, .int _⟩
    · rw [if_neg h] at e; cases e
  · rw [rangeL_length] at h; exact h
theorem iters_enum {a : Addr} {xs : List V} {ds : List Dat} (ha : SqL K F a xs) (r : Reps K g F xs ds) : Iters K g F (Ite K a) (enumL 0 ds) := by
  intro i F' H s1 s2
  refine ⟨fun d e => ?_, fun h => ⟨xs, (s1.trans s2).seq ha, by rw [r.length]; rw [enumL_length] at h; exact h⟩⟩
  rw [enumL_get] at e
  cases q : ds[i]? with
  | none => rw [q] at e; cases e
  | some d' =>
    rw [q] at e
    cases e
    obtain ⟨v, h1, h2⟩ := r.get q
    refine ⟨⟨xs, v, (s1.trans s2).seq ha, h1⟩, fun x H' ⟨T, y, e1, e2, e3, e4⟩ => ?_⟩
    subst e1 e3
    have := e4 xs ((s1.trans s2).seq ha)
    rw [h1] at this
    cases this
    have x1 := Ext.new (g := g) (o := .tup [.int (i : Nat), v]) s2 e2
    refine ⟨_, x1, .tup (SqT.of upd_same) (.cons ?_ (.cons ((h2.mono s1).mono (x1.le s2)) .nil))⟩
    rw [Nat.zero_add]
    exact .int _
end
section
variable {X : Cx} {g : Glob} {W : WX} {tg : Expr}
/-- a list, a tuple, a text, by what the value is -/
def iAny (K : PySem.W.Frag) (te : TE) : TI := fun σ H R => te σ H fun x H1 => (∃ a, x = .ref a ∧ (∃ xs, SqL K H1 a xs) ∧ R (Itl K a) H1) ∨ (∃ a, x = .ref a ∧ (∃ xs, SqT K H1 a xs) ∧ R (Itt K a) H1) ∨ (∃ z, x = .str z ∧ R (Its z) H1)
theorem pi_any {e : Expr} {te : TE} (he : PE X e te) : PI X tg e (iAny X.K te) := by
  refine ⟨fun pins s σ H R I h => ?_⟩
  refine thn (he.run pins s σ H _ I h) fun v s1 ⟨x, H1, I1, r1, q1⟩ => ?_
  rcases q1 with ⟨a, e, ⟨xs, hq⟩, q⟩ | ⟨a, e, ⟨xs, hq⟩, q⟩ | ⟨z, e, q⟩
  · subst e
    cases r1
    obtain ⟨its, rv, p, hz⟩ := I1.list hq
    refine wpAny_pyIter_list p.isList ?_
    refine ⟨s1.heap.objs.size, [s1.heap.objs.size], _, _, H1, rfl, I1.kept (t' := s1.toks) fun b o e => Heap.get?_push_of_some _ e, turn_list a _, ⟨_, Heap.get?_push_size _ rfl, rfl, rfl⟩, fun b hb => ?_, q⟩
    have e : b = s1.heap.objs.size := by simpa using hb
    subst e
    exact I1.fpOk (Nat.le_refl _) (I1.hok.fresh (Nat.le_refl _))
  · subst e
    cases r1
    obtain ⟨its, rv, p, hz⟩ := I1.tuple hq
    refine wpAny_pyIter_tuple (show s1.heap.IsTuple a its.toArray from p) ?_
    refine ⟨s1.heap.objs.size, [s1.heap.objs.size], _, _, H1, rfl, I1.kept (t' := s1.toks) fun b o e => Heap.get?_push_of_some _ e, turn_tuple a _, ⟨_, Heap.get?_push_size _ rfl, rfl, rfl⟩, fun b hb => ?_, q⟩
    have e : b = s1.heap.objs.size := by simpa using hb
    subst e
    exact I1.fpOk (Nat.le_refl _) (I1.hok.fresh (Nat.le_refl _))
  · subst e
    obtain ⟨t, rfl⟩ := r1
    cases ha : z.cps.all (· < 128)
    · exact wpAny_pyIter_wide ha (pi_one (tk := s1.toks) I1 _ (turn_str _ z t "str_iterator" (.inr rfl)) ⟨_, Heap.get?_push_size _ rfl, rfl, rfl⟩ q)
    · exact wpAny_pyIter_ascii ha (pi_one (tk := s1.toks) I1 _ (turn_str _ z t "str_ascii_iterator" (.inl rfl)) ⟨_, Heap.get?_push_size _ rfl, rfl, rfl⟩ q)
theorem vi_seq {e : Expr} {f : Env → Res Dat} (h : VE X g W e f) : VI X g W tg e (iSeq f) :=
  PI.imp (pi_any h) fun σ H R ⟨ρ, F, s, p⟩ => ⟨ρ, F, s, (PostG.bind s p).imp fun x H1 ⟨F1, a, s1, ra, x1, p1⟩ => by
    cases ra with
    | lst ha rs => exact .inl ⟨_, rfl, ⟨_, SqL.of (s1.sub _ _ ha)⟩, PostG.here s1.sub p1 (iters_list' (SqL.of ha) rs)⟩
    | rls ha rs => exact .inl ⟨_, rfl, ⟨_, s1.sub.seq ha⟩, PostG.here s1.sub p1 (iters_list' ha rs)⟩
    | tup ha rs => exact .inr (.inl ⟨_, rfl, ⟨_, sqT_mono s1.sub ha⟩, PostG.here s1.sub p1 (iters_tup ha rs)⟩)
    | str z => exact .inr (.inr ⟨z, rfl, PostG.here s1.sub p1 (iters_str z)⟩)
    | _ => exact p1.elim⟩
theorem vi_range1 {a : Expr} {p pos : Pos} {f : Env → Res (List Dat)} (hm : X.mg "range" = none) (ha : VA X g W [a] f) (hg : Gl X "range" := by rfl) (hs : starEach [a] X.env = [(false, eval a X.env)] := by rfl) : VI X g W tg (.Call (.Name "range" p) [a] [] pos) (iArg rng1D f) :=
  PI.imp (pi_range1 hg hm ha hs) fun σ H R ⟨ρ, F, s, p⟩ => ⟨ρ, F, s, (PostG.bind s p).imp fun xs H1 ⟨F1, ds, s1, rs, x1, p1⟩ => by
    unfold rng1D at p1
    split at p1
    · rename_i j
      cases rs with
      | cons ra rb =>
        cases rb
        cases ra
        by_cases h : -(2 ^ 62) ≤ j ∧ j < 2 ^ 62
        · rw [if_pos h] at p1
          refine ⟨j, rfl, h.1, h.2, PostG.here s1.sub p1 ?_⟩
          have := iters_range (K := X.K) (g := g) (F := F1) 0 j
          rw [Int.sub_zero] at this
          exact this
        · rw [if_neg h] at p1; exact p1.elim
    · exact p1.elim⟩
theorem vi_range2 {a b : Expr} {p pos : Pos} {f : Env → Res (List Dat)} (hm : X.mg "range" = none) (ha : VA X g W [a, b] f) (hg : Gl X "range" := by rfl) (hs : starEach [a, b] X.env = [(false, eval a X.env), (false, eval b X.env)] := by rfl) (hs2 : starEach [b] X.env = [(false, eval b X.env)] := by rfl) : VI X g W tg (.Call (.Name "range" p) [a, b] [] pos) (iArg rng2D f) :=
  PI.imp (pi_range2 hg hm ha hs hs2) fun σ H R ⟨ρ, F, s, p⟩ => ⟨ρ, F, s, (PostG.bind s p).imp fun xs H1 ⟨F1, ds, s1, rs, x1, p1⟩ => by
    unfold rng2D at p1
    split at p1
    · rename_i i j
      cases rs with
      | cons ra rb =>
        cases rb with
        | cons rc rd =>
          cases rd
          cases rc
          cases ra
          by_cases h : -(2 ^ 62) ≤ i ∧ i < 2 ^ 62 ∧ -(2 ^ 62) ≤ j ∧ j < 2 ^ 62
          · rw [if_pos h] at p1
            exact ⟨i, j, rfl, h, PostG.here s1.sub p1 (iters_range i j)⟩
          · rw [if_neg h] at p1; exact p1.elim
    · exact p1.elim⟩
theorem vi_enum {e : Expr} {p pos tpos : Pos} {elts : List Expr} {kk : Nat} {f : Env → Res (List Dat)} (hm : X.mg "enumerate" = none) (ha : VA X g W [e] f) (hg : Gl X "enumerate" := by rfl) (hs : starEach [e] X.env = [(false, eval e X.env)] := by rfl) : VI X g W (.Tuple elts kk tpos) (.Call (.Name "enumerate" p) [e] [] pos) (iArg enumD f) :=
  PI.imp (pi_enum hg hm ha hs) fun σ H R ⟨ρ, F, s, p⟩ => ⟨ρ, F, s, (PostG.bind s p).imp fun xs H1 ⟨F1, ds, s1, rs, x1, p1⟩ => by
    unfold enumD at p1
    split at p1
    · cases rs with
      | cons ra rb =>
        cases rb
        cases ra with
        | @lst a zs _ hz r => exact ⟨a, zs, rfl, SqL.of (s1.sub _ _ hz), PostG.here s1.sub p1 (iters_enum (SqL.of hz) r)⟩
    · exact p1.elim⟩
end

/-! ### list comprehensions -/
def wipeE (ρ : Env) : List Nat → Env
  | [] => ρ
  | v :: vs => (wipeE ρ vs).set v none
/-- nothing raised -/
def nx {α : Type} : Res α → Res α
  | .exc _ => .stuck
  | r => r
def lcD (p : Pat) (t : Env → Res Bool) (f : Env → Res Dat) (ρ : Env) : List Dat → Res (List Dat)
  | [] => .ok []
  | d :: r => match bindU p d with
    | none => .stuck
    | some us => (nx (t (setE ρ us))).bind fun b => if b = true then (nx (f (setE ρ us))).bind fun y => (lcD p t f ρ r).bind fun ys => .ok (y :: ys) else lcD p t f ρ r
def eLc (fi : Env → Res (List Dat)) (p : Pat) (t : Env → Res Bool) (f : Env → Res Dat) (vs : List Nat) : Env → Res Dat := fun ρ => (fi ρ).bind fun ds => if ds.length ≤ big then (lcD p t f (wipeE ρ vs) ds).bind fun ys => .ok (.lst ys) else .stuck
def bYes : Env → Res Bool := fun _ => .ok true
def VTs (X : Cx) (g : Glob) (W : WX) (ifs : List Expr) (f : Env → Res Bool) : Prop := PTs X ifs (tVT X.K g W f)
theorem wipe_get (σ : St) : ∀ (vs : List Nat) (j : Nat), (wipe σ vs)[j]? = if j ∈ vs ∧ j < σ.length then some none else σ[j]?
  | [], j => by simp [wipe]
  | v :: vs, j => by
    unfold wipe
    by_cases e : v = j
    · subst e
      by_cases h : v < σ.length
      · rw [List.getElem?_set_self (by rw [wipe_length]; exact h), if_pos ⟨by simp, h⟩]
      · rw [List.getElem?_eq_none (by rw [List.length_set, wipe_length]; omega), if_neg (fun q => h q.2), List.getElem?_eq_none (by omega)]
    · rw [List.getElem?_set_ne e, wipe_get σ vs j]
      by_cases h : j ∈ vs ∧ j < σ.length
      · rw [if_pos h, if_pos ⟨List.mem_cons_of_mem _ h.1, h.2⟩]
      · rw [if_neg h, if_neg]
        rintro ⟨h1, h2⟩
        rcases List.mem_cons.mp h1 with q | q
        · exact e q.symm
        · exact h ⟨q, h2⟩
theorem wipeE_length (ρ : Env) : ∀ vs : List Nat, (wipeE ρ vs).length = ρ.length
  | [] => rfl
  | v :: vs => by unfold wipeE; rw [List.length_set, wipeE_length ρ vs]
theorem wipeE_some {ρ : Env} {j : Nat} {d : Dat} : ∀ {vs : List Nat}, (wipeE ρ vs)[j]? = some (some d) → ρ[j]? = some (some d) ∧ j ∉ vs
  | [], h => ⟨h, by simp⟩
  | v :: vs, h => by
    unfold wipeE at h
    by_cases hi : v = j
    · subst hi
      by_cases hv : v < (wipeE ρ vs).length
      · rw [List.getElem?_set_self hv] at h; cases h
      · rw [List.getElem?_eq_none (by simpa using hv)] at h; cases h
    · rw [List.getElem?_set_ne hi] at h
      obtain ⟨h1, h2⟩ := wipeE_some h
      exact ⟨h1, by simp only [List.mem_cons, not_or]; exact ⟨fun e => hi e.symm, h2⟩⟩
theorem wipe_wipe (σ : St) (vs : List Nat) : wipe (wipe σ vs) vs = wipe σ vs := by
  apply List.ext_getElem?
  intro j
  rw [wipe_get, wipe_length, wipe_get]
  by_cases h : j ∈ vs ∧ j < σ.length
  · rw [if_pos h, if_pos h]
  · rw [if_neg h]
theorem wipe_set (σ : St) (vs : List Nat) (i : Nat) (x : Option V) (h : i ∈ vs) : wipe (σ.set i x) vs = wipe σ vs := by
  apply List.ext_getElem?
  intro j
  rw [wipe_get, wipe_get, List.length_set]
  by_cases q : j ∈ vs ∧ j < σ.length
  · rw [if_pos q, if_pos q]
  · rw [if_neg q, if_neg q]
    by_cases e : i = j
    · subst e
      have : ¬ i < σ.length := fun z => q ⟨h, z⟩
      rw [List.getElem?_eq_none (by rw [List.length_set]; omega), List.getElem?_eq_none (by omega)]
    · rw [List.getElem?_set_ne e]
theorem wipe_sets (vs : List Nat) : ∀ (ws : List (Nat × V)) (σ : St), (∀ i ∈ ws.map Prod.fst, i ∈ vs) → wipe (setV σ ws) vs = wipe σ vs
  | [], _, _ => rfl
  | w :: ws, σ, h => by
    show wipe (setV (σ.set w.1 (some w.2)) ws) vs = _
    rw [wipe_sets vs ws _ (fun i hi => h i (List.mem_cons_of_mem _ hi)), wipe_set _ _ _ _ (h w.1 (by simp))]
theorem renv_wipe {K : PySem.W.Frag} {g : Glob} {F : Hp} {σ : St} {ρ : Env} (vs : List Nat) (h : REnv K g F σ ρ) : REnv K g F (wipe σ vs) (wipeE ρ vs) := by
  intro j d e
  obtain ⟨h1, h2⟩ := wipeE_some e
  obtain ⟨v, h3, h4⟩ := h j d h1
  exact ⟨v, by rw [wipe_get, if_neg (fun q => h2 q.1)]; exact h3, h4⟩
theorem tabs_upd {T : List (Addr × Str)} {H : Hp} {p : Addr} {xs ys : List V} (t : LamX.Tabs T H) (h : H p = some (.lst xs)) : LamX.Tabs T (upd H p (.lst ys)) := by
  intro q hq
  obtain ⟨ps, h1, h2, h3⟩ := t q hq
  refine ⟨ps, ?_, h2, fun pos cv hc => ?_⟩
  · rw [upd_ne (ne_of h1 h (by intro z; cases z))]; exact h1
  · obtain ⟨c, e1, e2⟩ := h3 pos cv hc
    refine ⟨c, e1, ?_⟩
    rw [upd_ne (ne_of e2 h (by intro z; unfold LamX.CodeO at z; cases z))]; exact e2
/-- a list that is not frozen, new since (F, H), is changed -/
theorem Ext.put {g : Glob} {F H F' H' : Hp} {p : Addr} {xs ys : List V} (x : Ext g F H F' H') (h0 : H p = none) (hF : F' p = none) (h : H' p = some (.lst xs)) : Ext g F H F' (upd H' p (.lst ys)) where
  keep := fun a o e n => by rw [upd_ne (ne_of_none e h0)]; exact x.keep a o e n
  dom := fun a e => by
    by_cases q : a = p
    · subst q; rw [upd_same]; simp
    · rw [upd_ne q]; exact x.dom a e
  tabs := fun t => tabs_upd (x.tabs t) h
  sub := fun a o e => by
    by_cases q : a = p
    · subst q; rw [hF] at e; cases e
    · rw [upd_ne q]; exact x.sub a o e
  old := x.old
  nt := x.nt
def W0 : WX := fun _ _ _ _ => False
section
variable {X : Cx} {g : Glob} {W : WX}
theorem vts_nil {X' : Cx} : VTs X' g W [] bYes := by
  refine ⟨fun pins s σ H Q I h => ?_⟩
  obtain ⟨ρ, F, s', p⟩ := h
  exact (pts_nil (X := X')).run pins s σ H Q I (PostG.here s'.sub p rfl)
theorem vts_one {X' : Cx} {c : Expr} {f : Env → Res Bool} (h : VT X' g W c f) : VTs X' g W [c] f := pts_one h
theorem nx_post {α β : Type} {R : Hp → β → α → Prop} {σ : St} {F H : Hp} {r : Res α} {Q : β → Hp → Prop} {W' : WX} (h : PostG g R W' σ F H (nx r) Q) : PostG g R W0 σ F H r Q := by
  cases r with
  | ok a => exact h
  | exc c => exact h.elim
  | stuck => exact h
theorem lc_main {fi : Env → Res (List Dat)} {p : Pat} {t : Env → Res Bool} {f : Env → Res Dat} {vs : List Nat} {K : PySem.W.Frag} {σ : St} {H : Hp} {Q : VK} (hp : ∀ i ∈ patIx p, i ∈ vs) (h : tV K g W (eLc fi p t f vs) σ H Q) :
    tLc (tG K g (Iters K g) W fi) (gP K g p) (tVT K g W0 t) (tV K g W0 f) vs σ H Q := by
  obtain ⟨ρ, F, s, q⟩ := h
  refine ⟨ρ, F, s, (PostG.bind s q).imp ?_⟩
  rintro J H1 ⟨F1, ds, s1, it, x1, p1⟩ D hD
  by_cases hlen : ds.length ≤ big
  case neg => rw [if_neg hlen] at p1; exact p1.elim
  rw [if_pos hlen] at p1
  cases hout : lcD p t f (wipeE ρ vs) ds with
  | exc c =>
    -- no exception comes out of lcD
    exfalso
    have : ∀ l c, lcD p t f (wipeE ρ vs) l ≠ .exc c := by
      intro l
      induction l with
      | nil => intro c e; cases e
      | cons d r ih =>
        intro c e
        unfold lcD at e
        cases e1 : bindU p d with
        | none => rw [e1] at e; cases e
        | some us =>
          rw [e1] at e
          dsimp only at e
          cases e2 : t (setE (wipeE ρ vs) us) with
          | stuck => rw [e2] at e; cases e
          | exc c' => rw [e2] at e; cases e
          | ok b =>
            rw [e2] at e
            cases b with
            | false => exact ih c e
            | true =>
              cases e3 : f (setE (wipeE ρ vs) us) with
              | stuck => rw [e3] at e; cases e
              | exc c' => rw [e3] at e; cases e
              | ok y =>
                rw [e3] at e
                cases e4 : lcD p t f (wipeE ρ vs) r with
                | stuck => simp [nx, e4] at e
                | exc c' => exact ih c' e4
                | ok ys => simp [nx, e4] at e
    exact this ds c hout
  | stuck => rw [hout] at p1; exact p1.elim
  | ok out =>
    rw [hout] at p1
    refine ⟨fun i m H => m = ds.length - i ∧ i ≤ ds.length ∧ ∃ F acc ads rest, Ext g F1 H1 F H ∧ H D = some (.lst acc) ∧ F D = none ∧ Reps K g F acc ads ∧ acc.length ≤ i ∧ lcD p t f (wipeE ρ vs) (ds.drop i) = .ok rest ∧ out = ads ++ rest, ⟨ds.length, by simp, Nat.zero_le _, F1, [], [], out, Ext.newO s1.sub hD, upd_same, sub_none s1.sub hD, .nil, Nat.zero_le _, hout, rfl⟩, ?_⟩
    rintro i m H ⟨rfl, hi, F2, acc, ads, rest, x2, hH, hFD, ra, hal, hrest, ho⟩
    obtain ⟨go, stop⟩ := it i F2 H (x2.le s1.sub) x2.sub
    by_cases hlt : i < ds.length
    · right
      obtain ⟨d, hd⟩ : ∃ d, ds[i]? = some d := ⟨ds[i], by simp [hlt]⟩
      obtain ⟨g1, g2⟩ := go d hd
      have hdrop : ds.drop i = d :: ds.drop (i + 1) := by
        rw [List.drop_eq_getElem_cons hlt]
        congr 1
        have := List.getElem?_eq_getElem hlt
        rw [this] at hd
        exact Option.some.inj hd
      rw [hdrop] at hrest
      unfold lcD at hrest
      cases eb : bindU p d with
      | none => rw [eb] at hrest; cases hrest
      | some us =>
        rw [eb] at hrest
        dsimp only at hrest
        refine ⟨g1, fun H' => i + 1 ≤ ds.length ∧ ∃ F acc ads rest, Ext g F1 H1 F H' ∧ H' D = some (.lst acc) ∧ F D = none ∧ Reps K g F acc ads ∧ acc.length ≤ i + 1 ∧ lcD p t f (wipeE ρ vs) (ds.drop (i + 1)) = .ok rest ∧ out = ads ++ rest, fun H' hn => ⟨ds.length - (i + 1), by omega, rfl, hn.1, hn.2⟩, fun x H' y => ?_⟩
        obtain ⟨F3, x3, rx⟩ := g2 x H' y
        have hD3 : H' D = some (.lst acc) := x3.keep D _ hH (by intro ps z; cases z)
        have hF3 : F3 D = none := by rw [x3.old D (by rw [hH]; simp)]; exact hFD
        refine ⟨F3, d, us, x3.sub, rx, eb, fun ws k1 k2 => ?_⟩
        have hix : ∀ i ∈ ws.map Prod.fst, i ∈ vs := fun i hi => hp i (by rw [k1, bindU_ix p d us eb] at hi; exact hi)
        refine ⟨by rw [wipe_sets vs ws _ hix, wipe_wipe], ?_⟩
        have s3 : Stt K g F3 H' (setV (wipe σ vs) ws) (setE (wipeE ρ vs) us) := by
          have env0 : REnv K g F3 σ ρ := fun j e h => by
            obtain ⟨v, h1, h2⟩ := s1.env j e h
            exact ⟨v, h1, h2.mono ((x2.le s1.sub).trans (x3.le x2.sub))⟩
          exact ⟨x3.sub, x3.tabs (x2.tabs s1.tabs), renv_sets (renv_wipe vs env0) (by rw [wipeE_length, wipe_length]; exact s.len) k1 k2, by rw [setE_length, setV_length, wipeE_length, wipe_length]; exact s.len, fun a ps e => s1.nt a ps (x2.nt a ps (x3.nt a ps e))⟩
        refine ⟨_, F3, s3, ?_⟩
        cases et : t (setE (wipeE ρ vs) us) with
        | stuck => rw [et] at hrest; cases hrest
        | exc c => rw [et] at hrest; cases hrest
        | ok b =>
          rw [et] at hrest
          intro b' H4 F4 x4 eb'
          subst eb'
          have hD4 : H4 D = some (.lst acc) := x4.keep D _ hD3 (by intro ps z; cases z)
          have hF4 : F4 D = none := by rw [x4.old D (by rw [hD3]; simp)]; exact hF3
          have x14 : Ext g F1 H1 F4 H4 := (x2.trans x3).trans x4
          cases b' with
          | false =>
            rw [if_neg (by decide)]
            exact ⟨hlt, F4, acc, ads, rest, x14, hD4, hF4, ra.mono ((x3.le x2.sub).trans (x4.le x3.sub)), by omega, hrest, ho⟩
          | true =>
            rw [if_pos rfl]
            refine ⟨_, F4, s3.ext x4, ?_⟩
            cases ef : f (setE (wipeE ρ vs) us) with
            | stuck => simp [nx, ef] at hrest
            | exc c => simp [nx, ef] at hrest
            | ok a =>
              intro y H5 F5 x5 ry
              have hD5 : H5 D = some (.lst acc) := x5.keep D _ hD4 (by intro ps z; cases z)
              have hF5 : F5 D = none := by rw [x5.old D (by rw [hD4]; simp)]; exact hF4
              have hacc : acc.length < sizeLine := Nat.lt_of_le_of_lt hal (Nat.lt_of_lt_of_le hlt (Nat.le_trans hlen big_le))
              refine ⟨acc, hD5, hacc, hlt, F5, acc ++ [y], ads ++ [a], ?_⟩
              cases er : lcD p t f (wipeE ρ vs) (ds.drop (i + 1)) with
              | stuck => simp [nx, ef, er] at hrest
              | exc c => simp [nx, ef, er] at hrest
              | ok ys =>
                simp [nx, ef, er] at hrest
                subst hrest
                exact ⟨ys, (x14.trans x5).put hD hF5 hD5, upd_same, hF5, (ra.mono (((x3.le x2.sub).trans (x4.le x3.sub)).trans (x5.le x4.sub))).snoc ry, by simp; omega, rfl, by rw [ho]; simp⟩
    · left
      have e : i = ds.length := by omega
      refine ⟨stop (by omega), ?_⟩
      rw [e, List.drop_length] at hrest
      cases hrest
      rw [List.append_nil] at ho
      subst ho
      -- the list is frozen now
      have xf : Ext g F1 H1 (upd F2 D (.lst acc)) H := by
        refine ⟨x2.keep, x2.dom, x2.tabs, fun a o e => ?_, fun a e => ?_, fun a ps e => ?_⟩
        · by_cases q : a = D
          · subst q; rw [upd_same] at e; cases e; exact hH
          · rw [upd_ne q] at e; exact x2.sub a o e
        · rw [upd_ne (fun q => by subst q; exact e hD)]; exact x2.old a e
        · by_cases q : a = D
          · subst q; rw [upd_same] at e; cases e
          · rw [upd_ne q] at e; exact x2.nt a ps e
      have sF : Same F2 (upd F2 D (.lst acc)) := same_upd hFD
      exact PostG.ret xf p1 (.lst upd_same (ra.mono sF))
theorem ve_lc {elt tg iter : Expr} {ifs : List Expr} {scope : Scope} {pos : Pos} {fi : Env → Res (List Dat)} {p : Pat} {t : Env → Res Bool} {f : Env → Res Dat} (own : List (Str × Nat)) (hc : X.calm = true) (hN : X.N.Nodup) (hi : VI X g W tg iter fi) (ok : BlkOk X.N X.env.scope scope own)
    (hg : ∀ (s : Shared) (H : Hp) (C : Addr) (cl : List (Str × Addr)) (fp : List Addr), VG (X.blk s H scope (compEnvC scope cl C X.env) fp) g tg p)
    (ht : ∀ (s : Shared) (H : Hp) (C : Addr) (cl : List (Str × Addr)) (fp : List Addr), VTs (X.blk s H scope (compEnvC scope cl C X.env) fp) g W0 ifs t)
    (he : ∀ (s : Shared) (H : Hp) (C : Addr) (cl : List (Str × Addr)) (fp : List Addr), VE (X.blk s H scope (compEnvC scope cl C X.env) fp) g W0 elt f)
    (hp : ∀ i ∈ patIx p, i ∈ own.map (·.2) := by decide) (hs : ∀ x, foldedSetIterable iter X.env x = pure x := by intro _; rfl) : VE X g W (.ListComp elt [⟨tg, iter, ifs, 0⟩] scope pos) (eLc fi p t f (own.map (·.2))) :=
  PE.imp (pe_lc (g := gP X.K g p) (tt := tVT X.K g W0 t) (te := tV X.K g W0 f) hc hN hi ok hg ht he hs) fun σ H Q h => lc_main hp h
end
end VL

/-! VL6: statements. A slot holds frozen data, or a list of its own that only it reaches. -/
namespace VL
open PySem PySem.Spec PyProof.Rows L2

inductive Slot where
  | frz (d : Dat) | own (ds : List Dat)
abbrev SEnv := List (Option Slot)
inductive SRes where
  | next (ρ : SEnv) | ret (d : Dat) | brk (ρ : SEnv) | cont (ρ : SEnv) | exc (c : Str) | stuck
def viewAt (js : List Nat) (i : Nat) : Option Slot → Option Dat
  | some (.frz d) => some d
  | some (.own ds) => if i ∈ js then some (.lst ds) else none
  | none => none
def viewF (js : List Nat) : Nat → SEnv → Env
  | _, [] => []
  | n, s :: r => viewAt js n s :: viewF js (n + 1) r
def view (js : List Nat) (ρ : SEnv) : Env := viewF js 0 ρ
def frzAt (js : List Nat) (i : Nat) : Option Slot → Option Slot
  | some (.own ds) => if i ∈ js then some (.frz (.lst ds)) else some (.own ds)
  | s => s
def frzF (js : List Nat) : Nat → SEnv → SEnv
  | _, [] => []
  | n, s :: r => frzAt js n s :: frzF js (n + 1) r
def freeze (js : List Nat) (ρ : SEnv) : SEnv := frzF js 0 ρ
theorem viewF_get (js : List Nat) : ∀ (ρ : SEnv) (n i : Nat), (viewF js n ρ)[i]? = (ρ[i]?).map (viewAt js (n + i))
  | [], n, i => by simp [viewF]
  | s :: r, n, 0 => by simp [viewF]
  | s :: r, n, i + 1 => by
    show (viewF js (n + 1) r)[i]? = _
    rw [viewF_get js r (n + 1) i, show n + 1 + i = n + (i + 1) by omega]; rfl
theorem view_get (js : List Nat) (ρ : SEnv) (i : Nat) : (view js ρ)[i]? = (ρ[i]?).map (viewAt js i) := by
  unfold view; rw [viewF_get, Nat.zero_add]
theorem frzF_get (js : List Nat) : ∀ (ρ : SEnv) (n i : Nat), (frzF js n ρ)[i]? = (ρ[i]?).map (frzAt js (n + i))
  | [], n, i => by simp [frzF]
  | s :: r, n, 0 => by simp [frzF]
  | s :: r, n, i + 1 => by
    show (frzF js (n + 1) r)[i]? = _
    rw [frzF_get js r (n + 1) i, show n + 1 + i = n + (i + 1) by omega]; rfl
theorem freeze_get (js : List Nat) (ρ : SEnv) (i : Nat) : (freeze js ρ)[i]? = (ρ[i]?).map (frzAt js i) := by
  unfold freeze; rw [frzF_get, Nat.zero_add]
theorem viewF_length (js : List Nat) : ∀ (ρ : SEnv) (n : Nat), (viewF js n ρ).length = ρ.length
  | [], _ => rfl
  | _ :: r, n => by simp [viewF, viewF_length js r]
theorem frzF_length (js : List Nat) : ∀ (ρ : SEnv) (n : Nat), (frzF js n ρ).length = ρ.length
  | [], _ => rfl
  | _ :: r, n => by simp [frzF, frzF_length js r]
mutual
/-- no list within -/
def noL : Dat → Bool
  | .tup ds => noLs ds
  | .lst _ => false
  | .rls _ => false
  | .dct _ => false
  | .ins _ _ => false
  | .opq _ => true
  | _ => true
def noLs : List Dat → Bool
  | [] => true
  | d :: ds => noL d && noLs ds
end
def after (js : List Nat) (ρ : SEnv) (d : Dat) : SEnv := if noL d = true then ρ else freeze js ρ
def afterL (js : List Nat) (ρ : SEnv) (ds : List Dat) : SEnv := if noLs ds = true then ρ else freeze js ρ

section
variable (K : PySem.W.Frag) (g : Glob)
structure SRel (F0 H0 F H : Hp) (σ : St) (ρ : SEnv) : Prop where
  tabs : LamX.Tabs g.tabs H
  nt : ∀ a ps, F a ≠ some (.tbl ps)
  ext : Ext g F0 H0 F H
  len : ρ.length = σ.length
  frz : ∀ (i : Nat) (d : Dat), ρ[i]? = some (some (.frz d)) → ∃ v, σ[i]? = some (some v) ∧ Rep K g F v d
  own : ∀ (i : Nat) (ds : List Dat), ρ[i]? = some (some (.own ds)) → ∃ (p : Addr) (vs : List V), σ[i]? = some (some (.ref p)) ∧ H p = some (.lst vs) ∧ F p = none ∧ H0 p = none ∧ Reps K g F vs ds
  sep : ∀ (i j : Nat) (ds es : List Dat) (p : Addr), ρ[i]? = some (some (.own ds)) → ρ[j]? = some (some (.own es)) → σ[i]? = some (some (.ref p)) → σ[j]? = some (some (.ref p)) → i = j
def SPost (W : WX) (D : Ends) (F0 H0 F : Hp) : SRes → Prop
  | .next ρ' => ∀ σ' H' F', SRel K g F0 H0 F' H' σ' ρ' → Same F F' → D.nx σ' H'
  | .brk ρ' => ∀ σ' H' F', SRel K g F0 H0 F' H' σ' ρ' → Same F F' → D.bk σ' H'
  | .cont ρ' => ∀ σ' H' F', SRel K g F0 H0 F' H' σ' ρ' → Same F F' → D.ct σ' H'
  | .ret d => ∀ v H' F', Ext g F0 H0 F' H' → Rep K g F' v d → D.rt v H'
  | .exc c => ∀ σ' H' F', Ext g F0 H0 F' H' → W (.ref (g.cls c)) none σ' H'
  | .stuck => False
def tVS (W : WX) (F0 H0 : Hp) (s : SEnv → SRes) : TS := fun D σ H => ∃ ρ F, SRel K g F0 H0 F H σ ρ ∧ SPost K g W D F0 H0 F (s ρ)
end
def VS (X : Cx) (g : Glob) (W : WX) (F0 H0 : Hp) (st : Stmt) (s : SEnv → SRes) : Prop := PS X st (tVS X.K g W F0 H0 s)
def VSs (X : Cx) (g : Glob) (W : WX) (F0 H0 : Hp) (st : List Stmt) (s : SEnv → SRes) : Prop := PSs X st (tVS X.K g W F0 H0 s)

/-! ### what is borrowed for an expression -/
def isOwn (js : List Nat) (σ : St) (ρ : SEnv) (a : Addr) : Prop := ∃ j ∈ js, ∃ ds, ρ[j]? = some (some (.own ds)) ∧ σ[j]? = some (some (.ref a))
open Classical in
noncomputable def bor (js : List Nat) (σ : St) (ρ : SEnv) (F H : Hp) : Hp := fun a => if isOwn js σ ρ a then H a else F a
open Classical in
noncomputable def unb (js : List Nat) (σ : St) (ρ : SEnv) (F : Hp) : Hp := fun a => if isOwn js σ ρ a then none else F a
section
variable {K : PySem.W.Frag} {g : Glob} {F0 H0 F H F1 H1 : Hp} {σ : St} {ρ : SEnv} {js : List Nat}
theorem bor_own {a : Addr} (h : isOwn js σ ρ a) : bor js σ ρ F H a = H a := by unfold bor; rw [if_pos h]
theorem bor_not {a : Addr} (h : ¬ isOwn js σ ρ a) : bor js σ ρ F H a = F a := by unfold bor; rw [if_neg h]
theorem unb_own {a : Addr} (h : isOwn js σ ρ a) : unb js σ ρ F a = none := by unfold unb; rw [if_pos h]
theorem unb_not {a : Addr} (h : ¬ isOwn js σ ρ a) : unb js σ ρ F a = F a := by unfold unb; rw [if_neg h]
theorem SRel.isOwn (r : SRel K g F0 H0 F H σ ρ) {a : Addr} (h : isOwn js σ ρ a) : (∃ vs, H a = some (.lst vs)) ∧ F a = none ∧ H0 a = none := by
  obtain ⟨j, _, ds, h1, h2⟩ := h
  obtain ⟨p, vs, e1, e2, e3, e4, _⟩ := r.own j ds h1
  rw [h2] at e1
  cases e1
  exact ⟨⟨vs, e2⟩, e3, e4⟩
theorem SRel.sub (r : SRel K g F0 H0 F H σ ρ) : Same F H := r.ext.sub
theorem le_bor (r : SRel K g F0 H0 F H σ ρ) : Same F (bor js σ ρ F H) := fun a o e => by
  by_cases h : VL.isOwn js σ ρ a
  · rw [(r.isOwn h).2.1] at e; cases e
  · rw [bor_not h]; exact e
theorem bor_nt (r : SRel K g F0 H0 F H σ ρ) : ∀ a ps, bor js σ ρ F H a ≠ some (.tbl ps) := fun a ps e => by
  by_cases h : VL.isOwn js σ ρ a
  · obtain ⟨⟨vs, z⟩, _, _⟩ := r.isOwn h
    rw [bor_own h, z] at e; cases e
  · rw [bor_not h] at e; exact r.nt a ps e
theorem bor_stt (r : SRel K g F0 H0 F H σ ρ) : Stt K g (bor js σ ρ F H) H σ (view js ρ) := by
  refine ⟨fun a o e => ?_, r.tabs, fun i d e => ?_, by unfold view; rw [viewF_length]; exact r.len, bor_nt r⟩
  · by_cases h : VL.isOwn js σ ρ a
    · rw [bor_own h] at e; exact e
    · rw [bor_not h] at e; exact r.sub a o e
  · rw [view_get] at e
    cases q : ρ[i]? with
    | none => rw [q] at e; cases e
    | some s =>
      rw [q] at e
      cases s with
      | none => cases e
      | some s =>
        cases s with
        | frz d' =>
          cases e
          obtain ⟨v, h1, h2⟩ := r.frz i d q
          exact ⟨v, h1, h2.mono (le_bor r)⟩
        | own ds =>
          have e' : (if i ∈ js then some (Dat.lst ds) else none) = some d := Option.some.inj e
          by_cases hi : i ∈ js
          · rw [if_pos hi] at e'
            cases e'
            obtain ⟨p, vs, h1, h2, h3, h4, h5⟩ := r.own i ds q
            refine ⟨.ref p, h1, .lst ?_ (h5.mono (le_bor r))⟩
            rw [bor_own ⟨i, hi, ds, q, h1⟩]; exact h2
          · rw [if_neg hi] at e'; cases e'
theorem bor_ext (r : SRel K g F0 H0 F H σ ρ) (x : Ext g (bor js σ ρ F H) H F1 H1) : Ext g F0 H0 F1 H1 := by
  refine ⟨fun a o e n => x.keep a o (r.ext.keep a o e n) n, fun a e => x.dom a (r.ext.dom a e), fun _ => x.tabs r.tabs, x.sub, fun a e => ?_, fun a ps e => absurd (x.nt a ps e) (bor_nt r a ps)⟩
  rw [x.old a (r.ext.dom a e), bor_not (fun h => e (r.isOwn h).2.2)]
  exact r.ext.old a e
theorem bor_le (r : SRel K g F0 H0 F H σ ρ) (x : Ext g (bor js σ ρ F H) H F1 H1) : Same F F1 := (le_bor r).trans (x.le (bor_stt r).sub)
theorem bor_freeze (r : SRel K g F0 H0 F H σ ρ) (x : Ext g (bor js σ ρ F H) H F1 H1) : SRel K g F0 H0 F1 H1 σ (freeze js ρ) := by
  have le := bor_le r x
  refine ⟨x.tabs r.tabs, fun a ps e => bor_nt r a ps (x.nt a ps e), bor_ext r x, by unfold freeze; rw [frzF_length]; exact r.len, fun i d e => ?_, fun i ds e => ?_, fun i j ds es p h1 h2 h3 h4 => ?_⟩
  · rw [freeze_get] at e
    cases q : ρ[i]? with
    | none => rw [q] at e; cases e
    | some s =>
      rw [q] at e
      cases s with
      | none => cases e
      | some s =>
        cases s with
        | frz d' =>
          cases e
          obtain ⟨v, h1, h2⟩ := r.frz i d q
          exact ⟨v, h1, h2.mono le⟩
        | own ds =>
          have e' : (if i ∈ js then some (Slot.frz (.lst ds)) else some (.own ds)) = some (.frz d) := Option.some.inj e
          by_cases hi : i ∈ js
          · rw [if_pos hi] at e'
            cases e'
            obtain ⟨p, vs, h1, h2, h3, h4, h5⟩ := r.own i ds q
            refine ⟨.ref p, h1, .lst ?_ (h5.mono le)⟩
            rw [x.old p (by rw [h2]; simp), bor_own ⟨i, hi, ds, q, h1⟩]; exact h2
          · rw [if_neg hi] at e'; cases e'
  · rw [freeze_get] at e
    cases q : ρ[i]? with
    | none => rw [q] at e; cases e
    | some s =>
      rw [q] at e
      cases s with
      | none => cases e
      | some s =>
        cases s with
        | frz d' => cases e
        | own ds' =>
          have e' : (if i ∈ js then some (Slot.frz (.lst ds')) else some (.own ds')) = some (.own ds) := Option.some.inj e
          by_cases hi : i ∈ js
          · rw [if_pos hi] at e'; cases e'
          · rw [if_neg hi] at e'
            cases e'
            obtain ⟨p, vs, h1, h2, h3, h4, h5⟩ := r.own i ds q
            refine ⟨p, vs, h1, x.keep p _ h2 (by intro ps z; cases z), ?_, h4, h5.mono le⟩
            rw [x.old p (by rw [h2]; simp), bor_not]
            · exact h3
            · rintro ⟨j, hj, es, k1, k2⟩
              have := r.sep i j ds es p q k1 h1 k2
              subst this
              exact hi hj
  · have own : ∀ {i : Nat} {ds : List Dat}, (freeze js ρ)[i]? = some (some (.own ds)) → ρ[i]? = some (some (.own ds)) := fun {i ds} e => by
      rw [freeze_get] at e
      cases q : ρ[i]? with
      | none => rw [q] at e; cases e
      | some s =>
        rw [q] at e
        cases s with
        | none => cases e
        | some s =>
          cases s with
          | frz d' => cases e
          | own ds' =>
            have e' : (if i ∈ js then some (Slot.frz (.lst ds')) else some (.own ds')) = some (.own ds) := Option.some.inj e
            by_cases hi : i ∈ js
            · rw [if_pos hi] at e'; cases e'
            · rw [if_neg hi] at e'; cases e'; rfl
    exact r.sep i j ds es p (own h1) (own h2) h3 h4
theorem unb_le (r : SRel K g F0 H0 F H σ ρ) (x : Ext g (bor js σ ρ F H) H F1 H1) : Same F (unb js σ ρ F1) := fun a o e => by
  rw [unb_not (fun h => by rw [(r.isOwn h).2.1] at e; cases e)]
  exact bor_le r x a o e
theorem bor_unb (r : SRel K g F0 H0 F H σ ρ) (x : Ext g (bor js σ ρ F H) H F1 H1) : SRel K g F0 H0 (unb js σ ρ F1) H1 σ ρ := by
  have le := unb_le r x
  have ntu : ∀ a ps, unb js σ ρ F1 a ≠ some (.tbl ps) := fun a ps e => by
    by_cases h : VL.isOwn js σ ρ a
    · rw [unb_own h] at e; cases e
    · rw [unb_not h] at e; exact bor_nt r a ps (x.nt a ps e)
  refine ⟨x.tabs r.tabs, ntu, ⟨fun a o e n => x.keep a o (r.ext.keep a o e n) n, fun a e => x.dom a (r.ext.dom a e), fun _ => x.tabs r.tabs, fun a o e => ?_, fun a e => ?_, fun a ps e => absurd e (ntu a ps)⟩, r.len, fun i d e => ?_, fun i ds e => ?_, r.sep⟩
  · by_cases h : VL.isOwn js σ ρ a
    · rw [unb_own h] at e; cases e
    · rw [unb_not h] at e; exact x.sub a o e
  · rw [unb_not (fun h => e (r.isOwn h).2.2)]; exact (bor_ext r x).old a e
  · obtain ⟨v, h1, h2⟩ := r.frz i d e
    exact ⟨v, h1, h2.mono le⟩
  · obtain ⟨p, vs, h1, h2, h3, h4, h5⟩ := r.own i ds e
    refine ⟨p, vs, h1, x.keep p _ h2 (by intro ps z; cases z), ?_, h4, h5.mono le⟩
    by_cases h : VL.isOwn js σ ρ p
    · exact unb_own h
    · rw [unb_not h, x.old p (by rw [h2]; simp), bor_not h]; exact h3
theorem noLs_cons {d : Dat} {ds : List Dat} (h : noLs (d :: ds) = true) : noL d = true ∧ noLs ds = true := by
  unfold noLs at h; exact Bool.and_eq_true_iff.mp h
/-- what has no list within stands without the lists of one's own -/
theorem unb_rep (r : SRel K g F0 H0 F H σ ρ) (x : Ext g (bor js σ ρ F H) H F1 H1) {v : V} {d : Dat} (h : Rep K g F1 v d) : noL d = true → Rep K g (unb js σ ρ F1) v d :=
  Rep.rec (motive_1 := fun v d _ => noL d = true → Rep K g (unb js σ ρ F1) v d) (motive_2 := fun vs ds _ => noLs ds = true → Reps K g (unb js σ ρ F1) vs ds)
    (fun _ => .non) (fun b _ => .bl b) (fun b _ => .int b) (fun b _ => .str b) (fun b _ => .ty b) (fun b _ => .opq b)
    (fun _ _ _ n => by unfold noL at n; cases n) (fun _ _ _ n => by unfold noL at n; cases n)
    (fun {a xs ds} h _ ih n => by
      unfold noL at n
      refine .tup ?_ (ih n)
      have ne : ∀ o, F1 a = some o → (∀ ys, o ≠ .lst ys) → unb js σ ρ F1 a = some o := fun o e q => by
        rw [unb_not]
        · exact e
        · intro k
          obtain ⟨⟨vs, z⟩, _, _⟩ := r.isOwn k
          have := x.keep a _ z (by intro ps q; cases q)
          rw [x.sub a o e] at this
          cases this
          exact q vs rfl
      rcases h with (h | ⟨o, h⟩) | h
      · exact .inl (.inl (ne _ h (by intro ys z; cases z)))
      · exact .inl (.inr ⟨o, ne _ h (by intro ys z; cases z)⟩)
      · exact .inr h)
    (fun _ _ _ _ n => by unfold noL at n; cases n) (fun _ _ _ _ n => by unfold noL at n; cases n)
    (fun _ => .nil) (fun _ _ a b n => .cons (a (noLs_cons n).1) (b (noLs_cons n).2)) h
theorem unb_reps (r : SRel K g F0 H0 F H σ ρ) (x : Ext g (bor js σ ρ F H) H F1 H1) {vs : List V} {ds : List Dat} (h : Reps K g F1 vs ds) : noLs ds = true → Reps K g (unb js σ ρ F1) vs ds := by
  induction vs generalizing ds with
  | nil => cases h; intro _; exact .nil
  | cons v vs ih => cases h with | cons a b => exact fun n => .cons (unb_rep r x a (noLs_cons n).1) (ih b (noLs_cons n).2)
theorem bor_after (r : SRel K g F0 H0 F H σ ρ) (x : Ext g (bor js σ ρ F H) H F1 H1) {v : V} {d : Dat} (h : Rep K g F1 v d) : ∃ F2, SRel K g F0 H0 F2 H1 σ (after js ρ d) ∧ Same F F2 ∧ Rep K g F2 v d := by
  unfold after
  by_cases n : noL d = true
  · rw [if_pos n]; exact ⟨_, bor_unb r x, unb_le r x, unb_rep r x h n⟩
  · rw [if_neg n]; exact ⟨_, bor_freeze r x, bor_le r x, h⟩
theorem bor_afterL (r : SRel K g F0 H0 F H σ ρ) (x : Ext g (bor js σ ρ F H) H F1 H1) {v : List V} {d : List Dat} (h : Reps K g F1 v d) : ∃ F2, SRel K g F0 H0 F2 H1 σ (afterL js ρ d) ∧ Same F F2 ∧ Reps K g F2 v d := by
  unfold afterL
  by_cases n : noLs d = true
  · rw [if_pos n]; exact ⟨_, bor_unb r x, unb_le r x, unb_reps r x h n⟩
  · rw [if_neg n]; exact ⟨_, bor_freeze r x, bor_le r x, h⟩
theorem SRel.setF (r : SRel K g F0 H0 F H σ ρ) {i : Nat} {v : V} {d : Dat} (h : Rep K g F v d) : SRel K g F0 H0 F H (σ.set i (some v)) (ρ.set i (some (.frz d))) := by
  refine ⟨r.tabs, r.nt, r.ext, by simp [r.len], fun j e q => ?_, fun j ds q => ?_, fun a b ds es p h1 h2 h3 h4 => ?_⟩
  · by_cases z : i = j
    · subst z
      by_cases hi : i < ρ.length
      · rw [List.getElem?_set_self hi] at q
        cases q
        exact ⟨v, by rw [List.getElem?_set_self (r.len ▸ hi)], h⟩
      · rw [List.getElem?_eq_none (by simpa using hi)] at q; cases q
    · rw [List.getElem?_set_ne z] at q ⊢
      exact r.frz j e q
  · by_cases z : i = j
    · subst z
      by_cases hi : i < ρ.length
      · rw [List.getElem?_set_self hi] at q; cases q
      · rw [List.getElem?_eq_none (by simpa using hi)] at q; cases q
    · rw [List.getElem?_set_ne z] at q ⊢
      exact r.own j ds q
  · have ne : ∀ {j : Nat} {ds : List Dat}, (ρ.set i (some (.frz d)))[j]? = some (some (.own ds)) → i ≠ j := fun {j ds} q z => by
      subst z
      by_cases hi : i < ρ.length
      · rw [List.getElem?_set_self hi] at q; cases q
      · rw [List.getElem?_eq_none (by simpa using hi)] at q; cases q
    have n1 := ne h1
    have n2 := ne h2
    rw [List.getElem?_set_ne n1] at h1 h3
    rw [List.getElem?_set_ne n2] at h2 h4
    exact r.sep a b ds es p h1 h2 h3 h4
/-- a list of one's own, new or changed -/
theorem SRel.setO (r : SRel K g F0 H0 F H σ ρ) {i : Nat} {p : Addr} {vs : List V} {ds : List Dat} (hp : H p = some (.lst vs)) (hF : F p = none) (h0 : H0 p = none) (h : Reps K g F vs ds) (hs : ∀ (j : Nat) (es : List Dat), j ≠ i → ρ[j]? = some (some (.own es)) → σ[j]? ≠ some (some (.ref p))) :
    SRel K g F0 H0 F H (σ.set i (some (.ref p))) (ρ.set i (some (.own ds))) := by
  refine ⟨r.tabs, r.nt, r.ext, by simp [r.len], fun j e q => ?_, fun j es q => ?_, fun a b es es' q h1 h2 h3 h4 => ?_⟩
  · by_cases z : i = j
    · subst z
      by_cases hi : i < ρ.length
      · rw [List.getElem?_set_self hi] at q; cases q
      · rw [List.getElem?_eq_none (by simpa using hi)] at q; cases q
    · rw [List.getElem?_set_ne z] at q ⊢
      exact r.frz j e q
  · by_cases z : i = j
    · subst z
      by_cases hi : i < ρ.length
      · rw [List.getElem?_set_self hi] at q
        cases q
        exact ⟨p, vs, by rw [List.getElem?_set_self (r.len ▸ hi)], hp, hF, h0, h⟩
      · rw [List.getElem?_eq_none (by simpa using hi)] at q; cases q
    · rw [List.getElem?_set_ne z] at q ⊢
      exact r.own j es q
  · have at_i : ∀ {j : Nat} {es : List Dat}, i = j → (ρ.set i (some (.own ds)))[j]? = some (some (.own es)) → (σ.set i (some (.ref p)))[j]? = some (some (.ref p)) := fun {j es} z q => by
      subst z
      by_cases hi : i < ρ.length
      · rw [List.getElem?_set_self (r.len ▸ hi)]
      · rw [List.getElem?_eq_none (by simpa using hi)] at q; cases q
    by_cases z1 : i = a
    · by_cases z2 : i = b
      · rw [← z1, ← z2]
      · have e := at_i z1 h1
        rw [e] at h3
        cases h3
        rw [List.getElem?_set_ne z2] at h2 h4
        exact absurd h4 (hs b es' (Ne.symm z2) h2)
    · by_cases z2 : i = b
      · have e := at_i z2 h2
        rw [e] at h4
        cases h4
        rw [List.getElem?_set_ne z1] at h1 h3
        exact absurd h3 (hs a es (Ne.symm z1) h1)
      · rw [List.getElem?_set_ne z1] at h1 h3
        rw [List.getElem?_set_ne z2] at h2 h4
        exact r.sep a b es es' q h1 h2 h3 h4
end

/-! ### statements upon plain data -/
def sSeq (a b : SEnv → SRes) : SEnv → SRes := fun ρ => match a ρ with
  | .next ρ' => b ρ'
  | r => r
def sNext : SEnv → SRes := fun ρ => .next ρ
def Res.toS {α : Type} (r : Res α) (k : α → SRes) : SRes := match r with
  | .ok a => k a
  | .exc c => .exc c
  | .stuck => .stuck
@[simp] theorem Res.toS_ok {α : Type} (a : α) (k : α → SRes) : Res.toS (.ok a) k = k a := Eq.trans rfl rfl
@[simp] theorem Res.toS_exc {α : Type} (c : Str) (k : α → SRes) : Res.toS (.exc c) k = .exc c := Eq.trans rfl rfl
@[simp] theorem Res.toS_stuck {α : Type} (k : α → SRes) : Res.toS .stuck k = .stuck := Eq.trans rfl rfl
def sIf (js : List Nat) (c : Env → Res Bool) (a b : SEnv → SRes) : SEnv → SRes := fun ρ => (c (view js ρ)).toS fun k => if k = true then a ρ else b ρ
def sSet (i : Nat) (js : List Nat) (f : Env → Res Dat) : SEnv → SRes := fun ρ => (f (view js ρ)).toS fun d => .next ((after js ρ d).set i (some (.frz d)))
def sOwn (i : Nat) (js : List Nat) (f : Env → Res (List Dat)) : SEnv → SRes := fun ρ => (f (view js ρ)).toS fun ds => if ds.length ≤ big then .next ((afterL js ρ ds).set i (some (.own ds))) else .stuck
def appS (i : Nat) (d : Dat) (ρ : SEnv) : SRes := match ρ[i]? with
  | some (some (.own ds)) => if ds.length < big then .next (ρ.set i (some (.own (ds ++ [d])))) else .stuck
  | _ => .stuck
def sApp (i : Nat) (js : List Nat) (f : Env → Res Dat) : SEnv → SRes := fun ρ => match ρ[i]? with
  | some (some (.own _)) => (f (view js ρ)).toS fun d => appS i d (after js ρ d)
  | _ => .stuck
def sRet (js : List Nat) (f : Env → Res Dat) : SEnv → SRes := fun ρ => (f (view js ρ)).toS fun d => .ret d
def sRetN : SEnv → SRes := fun _ => .ret .non
def sExpr (js : List Nat) (f : Env → Res Dat) : SEnv → SRes := fun ρ => (f (view js ρ)).toS fun d => .next (after js ρ d)
def setS (ρ : SEnv) : List (Nat × Dat) → SEnv
  | [] => ρ
  | (i, d) :: r => setS (ρ.set i (some (.frz d))) r
def bindS (p : Pat) (d : Dat) (ρ : SEnv) : SRes := match bindU p d with
  | some us => .next (setS ρ us)
  | none => .stuck
def sBind (p : Pat) (js : List Nat) (f : Env → Res Dat) : SEnv → SRes := fun ρ => (f (view js ρ)).toS fun d => bindS p d (after js ρ d)
def parS (i j : Nat) (js : List Nat) (ρ : SEnv) : List Dat → SRes
  | [a, b] => .next (((afterL js ρ [a, b]).set i (some (.frz a))).set j (some (.frz b)))
  | _ => .stuck
def sPar (i j : Nat) (js : List Nat) (f : Env → Res (List Dat)) : SEnv → SRes := fun ρ => (f (view js ρ)).toS (parS i j js ρ)
def sRaise (c : Str) : SEnv → SRes := fun _ => .exc c
/-- behind a loop's turn -/
def SRes.turn (r : SRes) (k : SEnv → SRes) : SRes := match r with
  | .next ρ' => k ρ'
  | .cont ρ' => k ρ'
  | .brk ρ' => .next ρ'
  | x => x
def forD (p : Pat) (b : SEnv → SRes) : List Dat → SEnv → SRes
  | [], ρ => .next ρ
  | d :: r, ρ => match bindU p d with
    | none => .stuck
    | some us => (b (setS ρ us)).turn (forD p b r)
def sFor (js : List Nat) (f : Env → Res (List Dat)) (p : Pat) (b : SEnv → SRes) : SEnv → SRes := fun ρ => (f (view js ρ)).toS fun ds => forD p b ds (freeze js ρ)
def whileD (js : List Nat) (c : Env → Res Bool) (b : SEnv → SRes) : Nat → SEnv → SRes
  | 0, _ => .stuck
  | n + 1, ρ => (c (view js ρ)).toS fun k => if k = true then (b ρ).turn (whileD js c b n) else .next ρ
def sWhile (n : Nat) (js : List Nat) (c : Env → Res Bool) (b : SEnv → SRes) : SEnv → SRes := whileD js c b n

section
variable {X : Cx} {g : Glob} {W : WX} {F0 H0 : Hp}
theorem vss_nil : VSs X g W F0 H0 [] sNext := PSs.imp pss_nil fun D σ H ⟨ρ, F, r, p⟩ => p σ H F r (Same.refl F)
theorem SPost.mono {K : PySem.W.Frag} {D : Ends} {F F' : Hp} {s : SRes} (le : Same F F') (h : SPost K g W D F0 H0 F s) : SPost K g W D F0 H0 F' s := by
  cases s with
  | next ρ => exact fun σ H F1 r q => h σ H F1 r (le.trans q)
  | brk ρ => exact fun σ H F1 r q => h σ H F1 r (le.trans q)
  | cont ρ => exact fun σ H F1 r q => h σ H F1 r (le.trans q)
  | ret d => exact h
  | exc c => exact h
  | stuck => exact h
theorem vss_cons {st : Stmt} {rest : List Stmt} {a b : SEnv → SRes} (h1 : VS X g W F0 H0 st a) (h2 : VSs X g W F0 H0 rest b) : VSs X g W F0 H0 (st :: rest) (sSeq a b) :=
  PSs.imp (pss_cons h1 h2) fun D σ H ⟨ρ, F, r, p⟩ => by
    refine ⟨ρ, F, r, ?_⟩
    unfold sSeq at p
    cases e : a ρ with
    | next ρ' => rw [e] at p; exact fun σ' H' F' r' le => ⟨ρ', F', r', SPost.mono le p⟩
    | brk ρ' => rw [e] at p; exact p
    | cont ρ' => rw [e] at p; exact p
    | ret d => rw [e] at p; exact p
    | exc c => rw [e] at p; exact p
    | stuck => rw [e] at p; exact p
theorem vss_one {st : Stmt} {a : SEnv → SRes} (h1 : VS X g W F0 H0 st a) : VSs X g W F0 H0 [st] a := pss_one h1
theorem vs_pass {pos : Pos} : VS X g W F0 H0 (.Pass pos) sNext := PS.imp ps_pass fun D σ H ⟨ρ, F, r, p⟩ => p σ H F r (Same.refl F)
/-- an expression in a statement -/
theorem s_use {K : PySem.W.Frag} {α β : Type} {R : Hp → β → α → Prop} {js : List Nat} {f : Env → Res α} {k : α → SRes} {F H : Hp} {σ : St} {ρ : SEnv} {D : Ends} (r : SRel K g F0 H0 F H σ ρ)
    (p : SPost K g W D F0 H0 F ((f (view js ρ)).toS k)) :
    tG K g R W f σ H (fun v H1 => ∃ F1 a, Ext g (bor js σ ρ F H) H F1 H1 ∧ R F1 v a ∧ SPost K g W D F0 H0 F (k a)) := by
  refine ⟨view js ρ, bor js σ ρ F H, bor_stt r, ?_⟩
  cases e : f (view js ρ) with
  | ok a => rw [e] at p; exact fun v H1 F1 x q => ⟨F1, a, x, q, p⟩
  | exc c => rw [e] at p; exact fun H1 F1 x => p σ H1 F1 (bor_ext r x)
  | stuck => rw [e] at p; exact p
theorem tG_imp {K : PySem.W.Frag} {α β : Type} {R : Hp → β → α → Prop} {f : Env → Res α} {σ : St} {H : Hp} {Q Q' : β → Hp → Prop} (h : tG K g R W f σ H Q) (i : ∀ v H', Q v H' → Q' v H') : tG K g R W f σ H Q' := by
  obtain ⟨ρ, F, s, p⟩ := h
  exact ⟨ρ, F, s, p.imp i⟩
theorem vs_if {c : Expr} {a b : List Stmt} {pos : Pos} {t : Env → Res Bool} {sa sb : SEnv → SRes} (js : List Nat) (hc : VT X g W c t) (ha : VSs X g W F0 H0 a sa) (hb : VSs X g W F0 H0 b sb) : VS X g W F0 H0 (.If c a b pos) (sIf js t sa sb) :=
  PS.imp (ps_if hc ha hb) fun D σ H ⟨ρ, F, r, p⟩ => by
    refine tG_imp (s_use (js := js) (k := fun k => if k = true then sa ρ else sb ρ) (D := D) r p) ?_
    rintro k H1 ⟨F1, k', x, e, q⟩
    subst e
    have r1 := bor_unb r x
    cases k with
    | true => rw [if_pos rfl] at q ⊢; exact ⟨ρ, _, r1, SPost.mono (unb_le r x) q⟩
    | false => rw [if_neg (by decide)] at q ⊢; exact ⟨ρ, _, r1, SPost.mono (unb_le r x) q⟩
theorem set_ok {K : PySem.W.Frag} {js : List Nat} {i : Nat} {f : Env → Res Dat} {D : Ends} {σ : St} {H : Hp} (h : tVS K g W F0 H0 (sSet i js f) D σ H) : tAsg (tV K g W f) (gName i) D σ H := by
  obtain ⟨ρ, F, r, p⟩ := h
  refine tG_imp (s_use (js := js) (k := fun d => .next ((after js ρ d).set i (some (.frz d)))) r p) ?_
  rintro v H1 ⟨F1, d, x, rv, q⟩
  obtain ⟨F2, r2, le, rv2⟩ := bor_after r x rv
  exact q _ _ F2 (r2.setF rv2) le
theorem vs_set (i : Nat) {x : Str} {e : Expr} {pos pos' : Pos} {f : Env → Res Dat} (js : List Nat) (hN : X.N.Nodup) (he : VE X g W e f) (hi : X.N[i]? = some x := by rfl) (hx : Loc X.env.scope x := by first | exact Or.inl rfl | exact Or.inr rfl) (hs : swapsWith e (some (.Name x pos')) pos.line X.env = pure false := by rfl) (hf : X.fn x = true ∨ X.env.scope.names.lookup x = some .local := by first | exact .inl rfl | exact .inr rfl | assumption) : VS X g W F0 H0 (.Assign [.Name x pos'] e pos) (sSet i js f) :=
  PS.imp (ps_set hN hi hx he hs hf) fun D σ H h => set_ok h
theorem own_ok {K : PySem.W.Frag} {js : List Nat} {i : Nat} {f : Env → Res (List Dat)} {D : Ends} {σ : St} {H : Hp} (h : tVS K g W F0 H0 (sOwn i js f) D σ H) : tAsg (tLst (tVA K g W f)) (gName i) D σ H := by
  obtain ⟨ρ, F, r, p⟩ := h
  refine tG_imp (s_use (js := js) (k := fun ds => if ds.length ≤ big then .next ((afterL js ρ ds).set i (some (.own ds))) else .stuck) r p) ?_
  rintro vs H1 ⟨F1, ds, x, rv, q⟩
  by_cases hl : ds.length ≤ big
  case neg => rw [if_neg hl] at q; exact q.elim
  rw [if_pos hl] at q
  refine ⟨by rw [rv.length]; exact Nat.le_trans hl big_le, fun a ha => ?_⟩
  obtain ⟨F2, r2, le, rv2⟩ := bor_afterL r x rv
  have x3 : Ext g F0 H0 F2 (upd H1 a (.lst vs)) := r2.ext.trans (Ext.newO r2.sub ha)
  have s1 : Same H1 (upd H1 a (.lst vs)) := same_upd ha
  have r3 : SRel K g F0 H0 F2 (upd H1 a (.lst vs)) σ (afterL js ρ ds) := ⟨r2.tabs.ext s1, r2.nt, x3, r2.len, r2.frz, fun j es e => let ⟨p, ws, h1, h2, h3⟩ := r2.own j es e; ⟨p, ws, h1, s1 _ _ h2, h3⟩, r2.sep⟩
  refine q _ _ F2 (r3.setO upd_same (sub_none r2.sub ha) (r2.ext.free ha) rv2 fun j es _ e z => ?_) le
  obtain ⟨p, ws, h1, h2, _⟩ := r2.own j es e
  rw [h1] at z
  cases z
  rw [h2] at ha
  cases ha
theorem vs_own (i : Nat) {x : Str} {es : List Expr} {pos pos' p2 : Pos} {f : Env → Res (List Dat)} (js : List Nat) (hN : X.N.Nodup) (he : VA X g W es f) (hi : X.N[i]? = some x := by rfl) (hx : Loc X.env.scope x := by first | exact Or.inl rfl | exact Or.inr rfl) (hs : swapsWith (.List es p2) (some (.Name x pos')) pos.line X.env = pure false := by rfl) (hf : X.fn x = true ∨ X.env.scope.names.lookup x = some .local := by first | exact .inl rfl | exact .inr rfl | assumption) : VS X g W F0 H0 (.Assign [.Name x pos'] (.List es p2) pos) (sOwn i js f) :=
  PS.imp (ps_set hN hi hx (pe_lst he) hs hf) fun D σ H h => own_ok h
/-- name = [.. for ..] on one line, the name a local -/
theorem vs_setLc (i : Nat) {y : Str} {py : Pos} {elt tg iter : Expr} {ifs : List Expr} {scope : Scope} {pos spos : Pos} {fi : Env → Res (List Dat)} {p : Pat} {t : Env → Res Bool} {f : Env → Res Dat} (js : List Nat) (own : List (Str × Nat)) (hc : X.calm = true) (hN : X.N.Nodup) (hi : VI X g W tg iter fi) (ok : BlkOk X.N X.env.scope scope own)
    (hg : ∀ (s : Shared) (H : Hp) (C : Addr) (cl : List (Str × Addr)) (fp : List Addr), VG (X.blk s H scope (compEnvC scope cl C X.env) fp) g tg p)
    (ht : ∀ (s : Shared) (H : Hp) (C : Addr) (cl : List (Str × Addr)) (fp : List Addr), VTs (X.blk s H scope (compEnvC scope cl C X.env) fp) g W0 ifs t)
    (he : ∀ (s : Shared) (H : Hp) (C : Addr) (cl : List (Str × Addr)) (fp : List Addr), VE (X.blk s H scope (compEnvC scope cl C X.env) fp) g W0 elt f)
    (hsw : swapsWith (.ListComp elt [⟨tg, iter, ifs, 0⟩] scope pos) (some (.Name y py)) spos.line X.env = pure true) (hy : X.N[i]? = some y := by rfl) (hyl : X.env.scope.names.lookup y = some .local := by rfl) (hp : ∀ i ∈ patIx p, i ∈ own.map (·.2) := by decide) (hs : ∀ x, foldedSetIterable iter X.env x = pure x := by intro _; rfl) :
    VS X g W F0 H0 (.Assign [.Name y py] (.ListComp elt [⟨tg, iter, ifs, 0⟩] scope pos) spos) (sSet i js (eLc fi p t f (own.map (·.2)))) :=
  PS.imp (ps_setLc (g := gP X.K g p) (tt := tVT X.K g W0 t) (te := tV X.K g W0 f) hc hN hy hyl hsw hi ok hg ht he hs) fun D σ H h => by
    obtain ⟨ρ, F, r, q⟩ := h
    have h1 := set_ok (K := X.K) (js := js) (i := i) ⟨ρ, F, r, q⟩
    exact lc_main hp h1
theorem vs_ret {e : Expr} {pos : Pos} {f : Env → Res Dat} (js : List Nat) (he : VE X g W e f) : VS X g W F0 H0 (.Return (some e) pos) (sRet js f) :=
  PS.imp (ps_ret he) fun D σ H ⟨ρ, F, r, p⟩ => tG_imp (s_use (js := js) (k := fun d => .ret d) (D := D) r p) fun v H1 ⟨F1, d, x, rv, q⟩ => q v H1 F1 (bor_ext r x) rv
theorem vs_retN {pos : Pos} : VS X g W F0 H0 (.Return none pos) sRetN := PS.imp ps_retN fun D σ H ⟨ρ, F, r, p⟩ => p .non H F r.ext .non
theorem vs_expr {e : Expr} {pos : Pos} {f : Env → Res Dat} (js : List Nat) (he : VE X g W e f) (hs : swapsWith e none pos.line X.env = pure false := by rfl) : VS X g W F0 H0 (.Expr e pos) (sExpr js f) :=
  PS.imp (ps_expr he hs) fun D σ H ⟨ρ, F, r, p⟩ => tG_imp (s_use (js := js) (k := fun d => .next (after js ρ d)) (D := D) r p) fun v H1 ⟨F1, d, x, rv, q⟩ => by
    obtain ⟨F2, r2, le, _⟩ := bor_after r x rv
    exact q _ _ F2 r2 le
theorem srel_sets {K : PySem.W.Frag} {F H : Hp} {ws : List (Nat × V)} : ∀ {us : List (Nat × Dat)} {σ : St} {ρ : SEnv}, SRel K g F0 H0 F H σ ρ → ws.map Prod.fst = us.map Prod.fst → Reps K g F (ws.map Prod.snd) (us.map Prod.snd) → SRel K g F0 H0 F H (setV σ ws) (setS ρ us) := by
  induction ws with
  | nil =>
    intro us σ ρ h e r
    cases us with
    | nil => exact h
    | cons _ _ => simp at e
  | cons w ws ih =>
    intro us σ ρ h e r
    cases us with
    | nil => simp at e
    | cons u us =>
      simp only [List.map_cons, List.cons.injEq] at e
      simp only [List.map_cons] at r
      cases r with
      | cons a b =>
        show SRel K g F0 H0 F H (setV (σ.set w.1 (some w.2)) ws) (setS (ρ.set u.1 (some (.frz u.2))) us)
        rw [e.1]
        exact ih (h.setF a) e.2 b
theorem vs_bind {tg e : Expr} {pos : Pos} {p : Pat} {f : Env → Res Dat} (js : List Nat) (he : VE X g W e f) (hg : VG X g tg p) (hs : swapsWithSole [tg] e pos.line X.env = pure false := by rfl) (hw : swappedStores [tg] e X.env = pure none := by rfl)
    (hmore : ∀ (he' : PE X e (tV X.K g W f)) (hg' : PG X tg (gP X.K g p)), PS X (.Assign [tg] e pos) (tAsg (tV X.K g W f) (gP X.K g p)) := by exact fun h1 h2 => ps_asg h1 h2) : VS X g W F0 H0 (.Assign [tg] e pos) (sBind p js f) :=
  PS.imp (hmore he hg) fun D σ H ⟨ρ, F, r, q⟩ => tG_imp (s_use (js := js) (k := fun d => bindS p d (after js ρ d)) (D := D) r q) fun v H1 ⟨F1, d, x, rv, q1⟩ => by
    obtain ⟨F2, r2, le, rv2⟩ := bor_after r x rv
    unfold bindS at q1
    cases e : bindU p d with
    | none => rw [e] at q1; exact q1.elim
    | some us =>
      rw [e] at q1
      exact ⟨F2, d, us, r2.sub, rv2, e, fun ws k1 k2 => q1 _ _ F2 (srel_sets r2 k1 k2) le⟩
theorem vs_par (i j : Nat) {x y : Str} {a b : Expr} {px py pt pos : Pos} {kt k2 pt2} {f : Env → Res (List Dat)} (js : List Nat) (he : VA X g W [a, b] f) (hps : PS X (.Assign [.Tuple [.Name x px, .Name y py] kt pt] (.Tuple [a, b] k2 pt2) pos) (tPar i j (tVA X.K g W f))) : VS X g W F0 H0 (.Assign [.Tuple [.Name x px, .Name y py] kt pt] (.Tuple [a, b] k2 pt2) pos) (sPar i j js f) :=
  PS.imp hps fun D σ H ⟨ρ, F, r, q⟩ => by
    refine tG_imp (s_use (js := js) (k := parS i j js ρ) (D := D) r q) ?_
    rintro vs H1 ⟨F1, ds, x, rv, q1⟩
    obtain ⟨F2, r2, le, rv2⟩ := bor_afterL r x rv
    unfold parS at q1
    split at q1
    · cases rv2 with
      | cons ra rt =>
        cases rt with
        | cons rb rn =>
          cases rn
          exact ⟨_, _, rfl, q1 _ _ F2 ((r2.setF ra).setF rb) le⟩
    · exact q1.elim
theorem vs_for {tg iter : Expr} {body : List Stmt} {pos : Pos} {fi : Env → Res (List Dat)} {p : Pat} {b : SEnv → SRes} (js : List Nat) (hp : PassesOwn (model X.prog X.w) X.A X.env X.xe) (hc : X.calm = true) (hi : VI X g W tg iter fi) (hg : VG X g tg p) (hb : VSs X g W F0 H0 body b) (hs : ∀ x, foldedSetIterable iter X.env x = pure x := by intro _; rfl) :
    VS X g W F0 H0 (.For tg iter body [] pos) (sFor js fi p b) :=
  PS.imp (ps_for (g := gP X.K g p) hp hc hi hg hb hs) fun D σ H ⟨ρ, F, r, q⟩ => by
    refine tG_imp (s_use (js := js) (k := fun ds => forD p b ds (freeze js ρ)) r q) ?_
    rintro J H1 ⟨F1, ds, x, it, q1⟩
    have r1 := bor_freeze r x
    refine ⟨fun i m σ H => m = ds.length - i ∧ i ≤ ds.length ∧ ∃ ρ F, Same F1 F ∧ SRel X.K g F0 H0 F H σ ρ ∧ SPost X.K g W D F0 H0 F (forD p b (ds.drop i) ρ), ⟨ds.length, by simp, Nat.zero_le _, freeze js ρ, F1, Same.refl _, r1, SPost.mono (bor_le r x) q1⟩, ?_⟩
    rintro i m σ2 H2 ⟨rfl, hi, ρ2, F2, le2, r2, p2⟩
    obtain ⟨go, stop⟩ := it i F2 H2 le2 r2.sub
    by_cases hlt : i < ds.length
    · right
      obtain ⟨d, hd⟩ : ∃ d, ds[i]? = some d := ⟨ds[i], by simp [hlt]⟩
      obtain ⟨g1, g2⟩ := go d hd
      have hdrop : ds.drop i = d :: ds.drop (i + 1) := by
        rw [List.drop_eq_getElem_cons hlt]
        congr 1
        have := List.getElem?_eq_getElem hlt
        rw [this] at hd
        exact Option.some.inj hd
      rw [hdrop] at p2
      unfold forD at p2
      refine ⟨g1, fun σ' H' => i + 1 ≤ ds.length ∧ ∃ ρ F, Same F1 F ∧ SRel X.K g F0 H0 F H' σ' ρ ∧ SPost X.K g W D F0 H0 F (forD p b (ds.drop (i + 1)) ρ), fun σ' H' hn => ⟨ds.length - (i + 1), by omega, rfl, hn.1, hn.2⟩, fun x3 H3 y => ?_⟩
      obtain ⟨F3, x4, rx⟩ := g2 x3 H3 y
      cases eb : bindU p d with
      | none => rw [eb] at p2; exact p2.elim
      | some us =>
        rw [eb] at p2
        dsimp only at p2
        have r3 : SRel X.K g F0 H0 F3 H3 σ2 ρ2 := by
          have le : Same F2 F3 := x4.le r2.sub
          refine ⟨x4.tabs r2.tabs, fun a ps e => r2.nt a ps (x4.nt a ps e), r2.ext.trans x4, r2.len, fun j e h => let ⟨v, h1, h2⟩ := r2.frz j e h; ⟨v, h1, h2.mono le⟩, fun j es h => ?_, r2.sep⟩
          obtain ⟨a, vs, h1, h2, h3, h4, h5⟩ := r2.own j es h
          exact ⟨a, vs, h1, x4.keep a _ h2 (by intro ps z; cases z), by rw [x4.old a (by rw [h2]; simp)]; exact h3, h4, h5.mono le⟩
        refine ⟨F3, d, us, r3.sub, rx, eb, fun ws k1 k2 => ⟨_, F3, srel_sets r3 k1 k2, ?_⟩⟩
        have le3 : Same F1 F3 := le2.trans (x4.le r2.sub)
        cases ebd : b (setS ρ2 us) with
        | next ρ' => rw [ebd] at p2; exact fun σ' H' F' r' le' => ⟨hlt, ρ', F', le3.trans le', r', SPost.mono ((x4.le r2.sub).trans le') p2⟩
        | cont ρ' => rw [ebd] at p2; exact fun σ' H' F' r' le' => ⟨hlt, ρ', F', le3.trans le', r', SPost.mono ((x4.le r2.sub).trans le') p2⟩
        | brk ρ' => rw [ebd] at p2; exact fun σ' H' F' r' le' => p2 σ' H' F' r' ((x4.le r2.sub).trans le')
        | ret d => rw [ebd] at p2; exact p2
        | exc c => rw [ebd] at p2; exact p2
        | stuck => rw [ebd] at p2; exact p2
    · left
      have e : i = ds.length := by omega
      refine ⟨stop (by omega), ?_⟩
      rw [e, List.drop_length] at p2
      exact p2 σ2 H2 F2 r2 (Same.refl _)
theorem vs_while (n : Nat) {c : Expr} {body : List Stmt} {pos : Pos} {t : Env → Res Bool} {b : SEnv → SRes} (js : List Nat) (hp : PassesOwn (model X.prog X.w) X.A X.env X.xe) (hc : VT X g W c t) (hb : VSs X g W F0 H0 body b) : VS X g W F0 H0 (.While c body [] pos) (sWhile n js t b) :=
  PS.imp (ps_while hp hc hb) fun D σ H ⟨ρ, F, r, q⟩ => by
    refine ⟨fun m σ H => ∃ ρ F, SRel X.K g F0 H0 F H σ ρ ∧ SPost X.K g W D F0 H0 F (whileD js t b m ρ), ⟨n, ρ, F, r, q⟩, ?_⟩
    rintro m σ2 H2 ⟨ρ2, F2, r2, p2⟩
    cases m with
    | zero => exact p2.elim
    | succ m =>
      unfold whileD at p2
      refine tG_imp (s_use (js := js) (k := fun k => if k = true then (b ρ2).turn (whileD js t b m) else .next ρ2) (D := D) r2 p2) ?_
      rintro k H3 ⟨F3, k', x, e, p3⟩
      subst e
      have r3 := bor_unb r2 x
      have le := unb_le r2 x
      cases k with
      | false => rw [if_neg (by decide)] at p3 ⊢; exact p3 _ _ _ r3 le
      | true =>
        rw [if_pos rfl] at p3 ⊢
        refine ⟨fun σ' H' => ∃ ρ F, SRel X.K g F0 H0 F H' σ' ρ ∧ SPost X.K g W D F0 H0 F (whileD js t b m ρ), fun σ' H' h => ⟨m, Nat.lt_succ_self _, h⟩, ρ2, _, r3, ?_⟩
        cases ebd : b ρ2 with
        | next ρ' => rw [ebd] at p3; exact fun σ' H' F' r' le' => ⟨ρ', F', r', SPost.mono (le.trans le') p3⟩
        | cont ρ' => rw [ebd] at p3; exact fun σ' H' F' r' le' => ⟨ρ', F', r', SPost.mono (le.trans le') p3⟩
        | brk ρ' => rw [ebd] at p3; exact fun σ' H' F' r' le' => p3 σ' H' F' r' (le.trans le')
        | ret d => rw [ebd] at p3; exact p3
        | exc c => rw [ebd] at p3; exact p3
        | stuck => rw [ebd] at p3; exact p3
theorem SRel.put {K : PySem.W.Frag} {F H : Hp} {σ : St} {ρ : SEnv} {i : Nat} {a : Addr} {vs ws : List V} {ds es : List Dat} (r : SRel K g F0 H0 F H σ ρ) (ho : ρ[i]? = some (some (.own ds))) (hs : σ[i]? = some (some (.ref a))) (ha : H a = some (.lst vs)) (hF : F a = none) (h0 : H0 a = none) (rw' : Reps K g F ws es) : SRel K g F0 H0 F (upd H a (.lst ws)) σ (ρ.set i (some (.own es))) := by
  have x3 := r.ext.put (ys := ws) h0 hF ha
  refine ⟨tabs_upd r.tabs ha, r.nt, x3, by simp [r.len], fun j e h => ?_, fun j fs h => ?_, fun j k fs hs' p h1 h2 h3 h4 => ?_⟩
  · by_cases z : i = j
    · subst z
      rw [List.getElem?_set_self (List.getElem?_eq_some_iff.mp ho).1] at h; cases h
    · rw [List.getElem?_set_ne z] at h
      exact r.frz j e h
  · by_cases z : i = j
    · subst z
      rw [List.getElem?_set_self (List.getElem?_eq_some_iff.mp ho).1] at h
      cases h
      exact ⟨a, ws, hs, upd_same, hF, h0, rw'⟩
    · rw [List.getElem?_set_ne z] at h
      obtain ⟨b, us, k1, k2, k3, k4, k5⟩ := r.own j fs h
      have ne : b ≠ a := fun q => z (r.sep i j ds fs a ho h hs (by rw [← q]; exact k1))
      exact ⟨b, us, k1, by rw [upd_ne ne]; exact k2, k3, k4, k5⟩
  · have back : ∀ {j : Nat} {fs : List Dat}, (ρ.set i (some (.own es)))[j]? = some (some (.own fs)) → ∃ fs', ρ[j]? = some (some (.own fs')) := fun {j fs} h => by
      by_cases z : i = j
      · subst z; exact ⟨ds, ho⟩
      · rw [List.getElem?_set_ne z] at h; exact ⟨fs, h⟩
    obtain ⟨_, b1⟩ := back h1
    obtain ⟨_, b2⟩ := back h2
    exact r.sep j k _ _ p b1 b2 h3 h4
theorem after_own {js : List Nat} {ρ : SEnv} {d : Dat} {i : Nat} {ds : List Dat} (h : (after js ρ d)[i]? = some (some (.own ds))) : ρ[i]? = some (some (.own ds)) := by
  unfold after at h
  by_cases n : noL d = true
  · rw [if_pos n] at h; exact h
  · rw [if_neg n, freeze_get] at h
    cases q : ρ[i]? with
    | none => rw [q] at h; cases h
    | some s =>
      rw [q] at h
      cases s with
      | none => cases h
      | some s =>
        cases s with
        | frz d' => cases h
        | own ds' =>
          have e' : (if i ∈ js then some (Slot.frz (.lst ds')) else some (.own ds')) = some (.own ds) := Option.some.inj h
          by_cases hi : i ∈ js
          · rw [if_pos hi] at e'; cases e'
          · rw [if_neg hi] at e'; cases e'; rfl
theorem vs_app (i : Nat) {x : Str} {e : Expr} {p0 apos cpos pos : Pos} {f : Env → Res Dat} (js : List Nat) (he : VE X g W e f) (hps : PS X (.Expr (.Call (.Attribute (.Name x p0) "append" apos) [e] [] cpos) pos) (tDrop (tBM X.K "list" rAppend (tVar i) (tCons (tV X.K g W f) tNil)))) :
    VS X g W F0 H0 (.Expr (.Call (.Attribute (.Name x p0) "append" apos) [e] [] cpos) pos) (sApp i js f) :=
  PS.imp hps fun D σ H ⟨ρ, F, r, q⟩ => by
    unfold sApp at q
    cases e0 : ρ[i]? with
    | none => rw [e0] at q; exact q.elim
    | some s0 =>
      cases s0 with
      | none => rw [e0] at q; exact q.elim
      | some s0 =>
        cases s0 with
        | frz _ => rw [e0] at q; exact q.elim
        | own ds0 =>
          rw [e0] at q
          dsimp only at q
          obtain ⟨a, vs0, h1, h2, h3, h4, h5⟩ := r.own i ds0 e0
          refine ⟨.ref a, h1, .inl ⟨rfl, _, SqL.of h2⟩, ?_⟩
          refine tG_imp (s_use (js := js) (k := fun d => appS i d (after js ρ d)) r q) ?_
          rintro v H1 ⟨F1, d, x1, rv, q1⟩
          obtain ⟨F2, r2, le, rv2⟩ := bor_after r x1 rv
          unfold appS at q1
          cases e2 : (after js ρ d)[i]? with
          | none => rw [e2] at q1; exact q1.elim
          | some s =>
            cases s with
            | none => rw [e2] at q1; exact q1.elim
            | some s =>
              cases s with
              | frz _ => rw [e2] at q1; exact q1.elim
              | own ds =>
                rw [e2] at q1
                dsimp only at q1
                by_cases hl : ds.length < big
                case neg => rw [if_neg hl] at q1; exact q1.elim
                rw [if_pos hl] at q1
                obtain ⟨a', vs, k1, k2, k3, k4, k5⟩ := r2.own i ds e2
                rw [h1] at k1
                cases k1
                refine ⟨a, vs, v, rfl, rfl, k2, by rw [k5.length]; exact Nat.lt_of_lt_of_le hl big_le, ?_⟩
                exact q1 _ _ F2 (r2.put e2 h1 k2 k3 k4 (k5.snoc rv2)) le
end
end VL

/-! VL7: a def by its body; raise. -/
namespace VL
open PySem PySem.Spec PyProof.Rows L2

def retOf : SRes → Res Dat
  | .next _ => .ok .non
  | .ret d => .ok d
  | .exc c => .exc c
  | _ => .stuck
def startS (n : Nat) (ds : List Dat) : SEnv := ds.map (fun d => some (Slot.frz d)) ++ List.replicate (n - ds.length) none
def defD (n l : Nat) (b : SEnv → SRes) : List Dat → Res Dat := fun ds => if ds.length = n then retOf (b (startS l ds)) else .stuck
section
variable {P : Program} {w : World} {K : PySem.W.Frag} {mg : Str → Option Value} {base : Heap} {g : Glob}
theorem start_rel {F H : Hp} {vs : List V} {ds : List Dat} {N : List Str} (s : Same F H) (t : LamX.Tabs g.tabs H) (n : ∀ a ps, F a ≠ some (.tbl ps)) (r : Reps K g F vs ds) : SRel K g F H F H (start N vs) (startS N.length ds) := by
  have hl := r.length
  refine ⟨t, n, Ext.refl s, by unfold L2.start startS; simp [hl], fun i d e => ?_, fun i es e => ?_, fun i j es es' p h1 => ?_⟩
  · unfold startS at e
    by_cases h : i < ds.length
    · rw [List.getElem?_append_left (by simpa using h), List.getElem?_map] at e
      cases q : ds[i]? with
      | none => rw [q] at e; cases e
      | some d' =>
        rw [q] at e
        cases e
        obtain ⟨v, h1, h2⟩ := r.get q
        refine ⟨v, ?_, h2⟩
        unfold L2.start
        rw [List.getElem?_append_left (by simpa [hl] using h), List.getElem?_map, h1]; rfl
    · rw [List.getElem?_append_right (by simpa using h), List.getElem?_replicate] at e
      split at e <;> cases e
  · unfold startS at e
    by_cases h : i < ds.length
    · rw [List.getElem?_append_left (by simpa using h), List.getElem?_map] at e
      cases q : ds[i]? with
      | none => rw [q] at e; cases e
      | some d' => rw [q] at e; cases e
    · rw [List.getElem?_append_right (by simpa using h), List.getElem?_replicate] at e
      split at e <;> cases e
  · unfold startS at h1
    by_cases h : i < ds.length
    · rw [List.getElem?_append_left (by simpa using h), List.getElem?_map] at h1
      cases q : ds[i]? with
      | none => rw [q] at h1; cases h1
      | some d' => rw [q] at h1; cases h1
    · rw [List.getElem?_append_right (by simpa using h), List.getElem?_replicate] at h1
      split at h1 <;> cases h1
theorem fn_ok {x qual : Str} {st : Stmt} {f : Addr} {fd : FuncData} {N ps : List Str} {k : Nat} {b : SEnv → SRes} (F : Fun K x qual st f fd) (S : FnScope N ps (defScope st))
    (hb : ∀ (cdv : Value) (A : Around) (outer : List PySem.Env) (s : Shared) (H : Hp) (E : XK) (F0 : Hp), fd.code = cdv → Room k (A.deeper (envOfC qual (defScope st) s.heap.objs.size f cdv)) →
      VSs (cxOf (L2N.CX P w) P w K mg base N qual (defScope st) f cdv A outer s H E) g (fun cls d _ H' => E cls d H') F0 H (defBody st) b) : FnOk P w K mg base (L2N.CX P w) (k + 1) f fd ps (spV K g (defD ps.length N.length b)) := by
  obtain ⟨oc, od, kV, doc, pm, an, cdv, ct, osl, rfl, lk, hcd⟩ := F.ex
  have key : ∀ vs H Q E, spV K g (defD ps.length N.length b) vs H Q E → ∃ F ds, Same F H ∧ LamX.Tabs g.tabs H ∧ (∀ a ps, F a ≠ some (.tbl ps)) ∧ Reps K g F vs ds ∧ ds.length = ps.length ∧ PostG g (Rep K g) (fun cls d _ H' => E cls d H') [] F H (retOf (b (startS N.length ds))) Q := by
    rintro vs H Q E ⟨F, ds, h1, h2, hn, h3, h4⟩
    unfold defD at h4
    by_cases e : ds.length = ps.length
    · rw [if_pos e] at h4; exact ⟨F, ds, h1, h2, hn, h3, e, h4⟩
    · rw [if_neg e] at h4; exact h4.elim
  refine fn_of lk hcd S (fun vs H Q E h => ?_) fun A outer s H vs Q E hr hsp => ?_
  · obtain ⟨F, ds, _, _, _, h3, h4, _⟩ := key vs H Q E h
    rw [h3.length]; exact h4
  · obtain ⟨F0, ds, h1, h2, hn, h3, h4, h5⟩ := key vs H Q E hsp
    refine ⟨_, hb cdv A outer s H E F0 rfl hr, startS N.length ds, F0, start_rel h1 h2 hn h3, ?_⟩
    cases e : b (startS N.length ds) with
    | next ρ' => rw [e] at h5; exact fun σ' H' F' r' _ => h5 .non H' F' r'.ext .non
    | ret d => rw [e] at h5; exact h5
    | exc c => rw [e] at h5; exact fun σ' H' F' x => h5 H' F' x
    | brk ρ' => rw [e] at h5; exact h5.elim
    | cont ρ' => rw [e] at h5; exact h5.elim
    | stuck => rw [e] at h5; exact h5.elim
end

/-! ### raise X('..') -/
/-- what the written part says of a class of errors -/
structure ExcT (K : PySem.W.Frag) (mg : Str → Option Value) (g : Glob) (bm : List Value) (x : Str) : Prop where
  gC : mg x = some (.ref (g.cls x))
  xC : PySem.W.excIn K (g.cls x) bm "ValueError.__new__" = true
  kC : PySem.W.keepIn K (.ref (g.cls x)) = true
  bC : PySem.W.subIn K (.ref (g.cls x)) (.type "BaseException") = some true
  tC : PySem.W.typeIn K (.ref (g.cls x)) = some (.type "type")
section
variable {X : Cx} {g : Glob} {W : WX} {F0 H0 : Hp}
theorem vs_raise {x m : Str} {j : Nat} {p p2 pos pos2 : Pos} (T : ExcT X.K X.mg g [.type "ValueError", .type "Exception", .type "BaseException", .type "object"] x) (hc : X.calm = true) (tk : L2N.Takes X W) (hg : Gl X x := by rfl) (hdb : (x == ("__debug__" : Str)) = false := by decide) :
    VS X g W F0 H0 (.Raise (some (.Call (.Name x p) [.Constant (.str m) j p2] [] pos)) none pos2) (sRaise x) :=
  PS.imp (L2N.ps_raise hc tk (L2N.pmk_own PySem.F.excBase_ValueError T.xC T.gC T.kC (raises_own T.bC T.tC) hg hdb)) fun D σ H ⟨ρ, F, r, p⟩ => p σ H F r.ext
end

/-! ### short words for the printed terms -/
section
variable {X : Cx} {g : Glob} {W : WX} {F0 H0 : Hp}
theorem tk0 : L2N.Takes X W0 := fun _ _ x => by
  obtain ⟨_, _, _, _, _, _, _, _, _, _, _, _, _, _, _, _, z⟩ := x
  exact z.elim
theorem vs_app2 (i : Nat) {x : Str} {e : Expr} {p0 apos cpos pos : Pos} {f : Env → Res Dat} (js : List Nat) (he : VE X g W e f) (hN : X.N[i]? = some x := by rfl) (hv : Vis X.env.scope x := by first | exact Or.inl rfl | exact Or.inr (Or.inl rfl) | exact Or.inr (Or.inr rfl)) (hd : (x == ("__debug__" : Str)) = false := by decide) (hcd : (x == ("__classdict__" : Str)) = false := by decide)
    (hfew : ((backTo cpos (starEach [e] X.env)).all (fun x => !x.1) && (backToKw cpos (keywordEach [] X.env)).all (fun x => x.1.isSome) && decide (([e]).length + ([] : List Keyword).length + (if ([] : List Keyword).isEmpty then 0 else 1) < 30)) = true := by rfl)
    (hline : (apos.endLine == cpos.line) = true := by rfl) (hs1 : starEach [e] X.env = (false, eval e X.env) :: starEach [] X.env := by rfl) (hs : swapsWith (.Call (.Attribute (.Name x p0) "append" apos) [e] [] cpos) none pos.line X.env = pure false := by rfl) :
    VS X g W F0 H0 (.Expr (.Call (.Attribute (.Name x p0) "append" apos) [e] [] cpos) pos) (sApp i js f) :=
  vs_app i js he (ps_expr (pe_bm PySem.F.plainAttrs_list PySem.F.slot_list_append PySem.F.type_list_append mt_append (pe_var hN hv hd hcd) (pa_cons he pa_nil hs1) rfl hfew hline hs1 rfl) hs)
theorem vs_par2 (i j : Nat) {x y : Str} {a b : Expr} {px py pt pos : Pos} {kt k2 pt2} {f : Env → Res (List Dat)} (js : List Nat) (hc : X.calm = true) (hN : X.N.Nodup) (ha : VA X g W [a, b] f) (hi : X.N[i]? = some x := by rfl) (hj : X.N[j]? = some y := by rfl) (hij : i ≠ j := by decide)
    (hx : X.env.scope.names.lookup x = some .local := by rfl) (hy : X.env.scope.names.lookup y = some .local := by rfl) (hw : swappedStores [.Tuple [.Name x px, .Name y py] kt pt] (.Tuple [a, b] k2 pt2) X.env = pure (some [x, y]) := by rfl)
    (hs : swapsWithSole [.Tuple [.Name x px, .Name y py] kt pt] (.Tuple [a, b] k2 pt2) pos.line X.env = pure false := by rfl) : VS X g W F0 H0 (.Assign [.Tuple [.Name x px, .Name y py] kt pt] (.Tuple [a, b] k2 pt2) pos) (sPar i j js f) :=
  vs_par i j js ha (ps_par hc hN hi hj hij hx hy ha hw hs)
theorem vs_bind2 {tg e : Expr} {pos : Pos} {p : Pat} {f : Env → Res Dat} (js : List Nat) (he : VE X g W e f) (hg : VG X g tg p) (hs : swapsWithSole [tg] e pos.line X.env = pure false := by rfl) (hw : swappedStores [tg] e X.env = pure none := by rfl) (hps : ∀ (h1 : PE X e (tV X.K g W f)) (h2 : PG X tg (gP X.K g p)), PS X (.Assign [tg] e pos) (tAsg (tV X.K g W f) (gP X.K g p)) := by exact fun h1 h2 => ps_asg h1 h2) :
    VS X g W F0 H0 (.Assign [tg] e pos) (sBind p js f) := vs_bind js he hg hs hw hps
theorem test_of {f : Env → Res Dat} {t : TE} {K : PySem.W.Frag} {σ : St} {H : Hp} {Q : Bool → Hp → Prop} (i : ∀ Q', tV K g W f σ H Q' → t σ H Q') (h : tVT K g W (eTest f) σ H Q) : tTest t σ H Q := by
  refine i _ ?_
  obtain ⟨ρ, F, s, p⟩ := h
  refine ⟨ρ, F, s, (PostG.bind s p).imp fun x H1 ⟨F1, a, s1, ra, x1, p1⟩ => ?_⟩
  obtain ⟨c, e1, _, p2⟩ := rep_bool' ra p1
  exact ⟨c, e1, PostG.here s1.sub p2 rfl⟩
theorem vt_cmp {a b : Expr} {op : CmpOp} {pos : Pos} {opd : Dat → Dat → Res Dat} {r : R2} {f h : Env → Res Dat} (ho : OpR X (compareOp op) r) (hd : OpD X g W opd r) (ha : VE X g W a f) (hb : VE X g W b h) (hm : behindInMarks op b = false) : VT X g W (.Compare a [op] [b] pos) (eTest (eBin opd f h)) :=
  PT.imp (pt_cmpR ho ha hb hm) fun σ H Q h => test_of (fun _ q => tOp_of hd q) h
theorem vt_lt {a b : Expr} {pos : Pos} {f h : Env → Res Dat} (ha : VE X g W a f) (hb : VE X g W b h) : VT X g W (.Compare a [.Lt] [b] pos) (eTest (eBin ltD f h)) := vt_cmp op_ltA opd_lt ha hb (nomark _)
theorem vt_le {a b : Expr} {pos : Pos} {f h : Env → Res Dat} (ha : VE X g W a f) (hb : VE X g W b h) : VT X g W (.Compare a [.LtE] [b] pos) (eTest (eBin leD f h)) := vt_cmp op_leA opd_le ha hb (nomark _)
theorem vt_gt {a b : Expr} {pos : Pos} {f h : Env → Res Dat} (ha : VE X g W a f) (hb : VE X g W b h) : VT X g W (.Compare a [.Gt] [b] pos) (eTest (eBin gtD f h)) := vt_cmp op_gt opd_gt ha hb (nomark _)
theorem vt_ge {a b : Expr} {pos : Pos} {f h : Env → Res Dat} (ha : VE X g W a f) (hb : VE X g W b h) : VT X g W (.Compare a [.GtE] [b] pos) (eTest (eBin geD f h)) := vt_cmp op_ge opd_ge ha hb (nomark _)
theorem vt_eq {k : Nat} {a b : Expr} {pos : Pos} {f h : Env → Res Dat} (hr : Room k X.A) (ha : VE X g W a f) (hb : VE X g W b h) : VT X g W (.Compare a [.Eq] [b] pos) (eTest (eBin eqD f h)) := vt_cmp (op_eqD hr.units) opd_eq ha hb (nomark _)
theorem vt_ne {k : Nat} {a b : Expr} {pos : Pos} {f h : Env → Res Dat} (hr : Room k X.A) (ha : VE X g W a f) (hb : VE X g W b h) : VT X g W (.Compare a [.NotEq] [b] pos) (eTest (eBin neD f h)) := vt_cmp (op_neD hr.units) opd_ne ha hb (nomark _)
theorem vt_in {k : Nat} {a b : Expr} {pos : Pos} {f h : Env → Res Dat} (hr : Room k X.A) (ha : VE X g W a f) (hb : VE X g W b h) (hm : behindInMarks .In b = false := by rfl) : VT X g W (.Compare a [.In] [b] pos) (eTest (eBin inD f h)) := vt_cmp (op_inA hr) opd_in ha hb hm
theorem vt_notIn {k : Nat} {a b : Expr} {pos : Pos} {f h : Env → Res Dat} (hr : Room k X.A) (ha : VE X g W a f) (hb : VE X g W b h) (hm : behindInMarks .NotIn b = false := by rfl) : VT X g W (.Compare a [.NotIn] [b] pos) (eTest (eBin notInD f h)) := vt_cmp (op_notInA hr) opd_notIn ha hb hm
theorem vt_isN {a : Expr} {j} {pos pos' : Pos} {f : Env → Res Dat} (ha : VE X g W a f) : VT X g W (.Compare a [.Is] [.Constant .none j pos'] pos) (eTest (eUn isND f)) :=
  PT.imp (pt_cmp (pc_isN ha)) fun σ H Q ⟨ρ, F, s, p⟩ => ⟨ρ, F, s, by
    have p' : PostG g (fun _ b a => b = a) W σ F H ((f ρ).bind fun a => (isND a).bind toB) Q := by rw [← Res.bind_assoc]; exact p
    exact (PostG.bind s p').imp fun x H1 ⟨F1, a, s1, ra, x1, p1⟩ => ⟨_, rfl, by cases ra <;> exact PostG.here s1.sub p1 rfl⟩⟩
theorem vt_notN {a : Expr} {j} {pos pos' : Pos} {f : Env → Res Dat} (ha : VE X g W a f) : VT X g W (.Compare a [.IsNot] [.Constant .none j pos'] pos) (eTest (eUn notND f)) :=
  PT.imp (pt_cmp (pc_notN ha)) fun σ H Q ⟨ρ, F, s, p⟩ => ⟨ρ, F, s, by
    have p' : PostG g (fun _ b a => b = a) W σ F H ((f ρ).bind fun a => (notND a).bind toB) Q := by rw [← Res.bind_assoc]; exact p
    exact (PostG.bind s p').imp fun x H1 ⟨F1, a, s1, ra, x1, p1⟩ => ⟨_, rfl, by cases ra <;> exact PostG.here s1.sub p1 rfl⟩⟩
/-- a chain as a test -/
theorem vt_chain {a b c : Expr} {op op' : CmpOp} {pos : Pos} {o1 o2 : Dat → Dat → Res Dat} {r r' : R2} {f h l : Env → Res Dat} (ho : OpR X (compareOp op) r) (ho' : OpR X (compareOp op') r') (h1 : OpD X g W o1 r) (h2 : OpD X g W o2 r') (ha : VE X g W a f) (hb : VE X g W b h) (hc : VE X g W c l) (hm : lastMarks [op, op'] [b, c] = false) : VT X g W (.Compare a [op, op'] [b, c] pos) (eTest (eChain o1 o2 f h l)) :=
  PT.imp (pt_chain ho ho' ha hb hc hm) fun σ H Q ⟨ρ, F, s, p⟩ => tChain_of h1 h2 ⟨ρ, F, s, (PostG.bind s p).imp fun x H1 ⟨F1, a, s1, ra, x1, p1⟩ => by
    obtain ⟨c, e1, _, p2⟩ := rep_bool' ra p1
    exact ⟨c, e1, PostG.here s1.sub p2 rfl⟩⟩
theorem vt_lele {a b c : Expr} {pos : Pos} {f h l : Env → Res Dat} (ha : VE X g W a f) (hb : VE X g W b h) (hc : VE X g W c l) (hm : lastMarks [.LtE, .LtE] [b, c] = false := by with_unfolding_all rfl) : VT X g W (.Compare a [.LtE, .LtE] [b, c] pos) (eTest (eChain leD leD f h l)) := vt_chain op_leA op_leA opd_le opd_le ha hb hc hm
theorem vt_ltle {a b c : Expr} {pos : Pos} {f h l : Env → Res Dat} (ha : VE X g W a f) (hb : VE X g W b h) (hc : VE X g W c l) (hm : lastMarks [.Lt, .LtE] [b, c] = false := by with_unfolding_all rfl) : VT X g W (.Compare a [.Lt, .LtE] [b, c] pos) (eTest (eChain ltD leD f h l)) := vt_chain op_ltA op_leA opd_lt opd_le ha hb hc hm
theorem vt_ltlt {a b c : Expr} {pos : Pos} {f h l : Env → Res Dat} (ha : VE X g W a f) (hb : VE X g W b h) (hc : VE X g W c l) (hm : lastMarks [.Lt, .Lt] [b, c] = false := by with_unfolding_all rfl) : VT X g W (.Compare a [.Lt, .Lt] [b, c] pos) (eTest (eChain ltD ltD f h l)) := vt_chain op_ltA op_ltA opd_lt opd_lt ha hb hc hm
theorem ve_ltle {a b c : Expr} {pos : Pos} {f h l : Env → Res Dat} (ha : VE X g W a f) (hb : VE X g W b h) (hc : VE X g W c l) (hm : lastMarks [.Lt, .LtE] [b, c] = false := by with_unfolding_all rfl) : VE X g W (.Compare a [.Lt, .LtE] [b, c] pos) (eChain ltD leD f h l) :=
  PE.imp (pe_chain op_ltA op_leA ha hb hc hm) fun _ _ _ q => tChain_of opd_lt opd_le q
theorem ve_ltlt {a b c : Expr} {pos : Pos} {f h l : Env → Res Dat} (ha : VE X g W a f) (hb : VE X g W b h) (hc : VE X g W c l) (hm : lastMarks [.Lt, .Lt] [b, c] = false := by with_unfolding_all rfl) : VE X g W (.Compare a [.Lt, .Lt] [b, c] pos) (eChain ltD ltD f h l) :=
  PE.imp (pe_chain op_ltA op_ltA ha hb hc hm) fun _ _ _ q => tChain_of opd_lt opd_lt q
end
/-! ### texts joined; sets of ints counted -/
def isStrD : Dat → Bool
  | .str _ => true
  | _ => false
def eMth (c : Dat → Bool) (op : Dat → Dat → Res Dat) (f h : Env → Res Dat) : Env → Res Dat := fun ρ => (f ρ).bind fun a => if c a = true then (h ρ).bind fun b => op a b else .stuck
def joinD : Dat → Dat → Res Dat
  | .str a, .lst ds => match strsD ds with
    | some ys => if (ys.map (·.length)).sum + ys.length * a.length ≤ big then .ok (.str (Txt.join a ys)) else .stuck
    | none => .stuck
  | _, _ => .stuck
def lenSetD : Dat → Res Dat
  | .lst ds => match intsD ds with
    | some ns => if ns.Nodup ∧ ns.length ≤ 4000 then .ok (.int (ns.length : Nat)) else .stuck
    | none => .stuck
  | _ => .stuck
section
variable {X : Cx} {g : Glob} {W : WX}
theorem ve_join {o e : Expr} {apos pos : Pos} {f h : Env → Res Dat} (ho : VE X g W o f) (he : VE X g W e h) (hs : starEach [e] X.env = [(false, eval e X.env)] := by rfl) (hbase : attributeBase o "join" X.env (eval o X.env) = eval o X.env := by rfl) (hline : (apos.endLine == pos.line) = true := by rfl) : VE X g W (.Call (.Attribute o "join" apos) [e] [] pos) (eMth isStrD joinD f h) :=
  PE.imp (pe_join ho he hs hbase hline) fun σ H Q ⟨ρ, F, s, p⟩ => ⟨ρ, F, s, (PostG.bind s p).imp fun x H1 ⟨F1, a, s1, ra, x1, p1⟩ => by
    cases ra with
    | str z =>
      rw [if_pos (by rfl)] at p1
      refine ⟨⟨z, rfl⟩, ρ, F1, s1, (PostG.bind s1 p1).imp fun y H2 ⟨F2, b, s2, rb, x2, p2⟩ => ?_⟩
      cases rb with
      | @lst aa xs ds hl rs =>
        dsimp only [joinD] at p2
        cases e : strsD ds with
        | none => rw [e] at p2; exact p2.elim
        | some ys =>
          rw [e] at p2
          have e2 := reps_strs rs e
          subst e2
          by_cases hb : (ys.map (·.length)).sum + ys.length * z.length ≤ big
          · simp only [if_pos hb] at p2
            exact ⟨z, aa, ys, rfl, rfl, .inl (SqL.of (s2.sub _ _ hl)), Nat.le_trans hb (by decide), PostG.here s2.sub p2 (.str _)⟩
          · simp only [if_neg hb] at p2; exact p2.elim
      | _ => exact p2.elim
    | _ => exact p1.elim⟩
theorem ve_lenSet {a : Expr} {p p2 q pos : Pos} {f : Env → Res Dat} (hm : X.mg "len" = none) (hm2 : X.mg "set" = none) (ha : VE X g W a f) (hc : X.calm = true := by rfl) (hg : Gl X "len" := by rfl) (hg2 : Gl X "set" := by rfl) (na : starEach [a] X.env = (false, eval a X.env) :: starEach [] X.env := by rfl) : VE X g W (.Call (.Name "len" p) [.Call (.Name "set" p2) [a] [] q] [] pos) (eUn lenSetD f) :=
  PE.imp (RZ.pe_lenSetI hg hm hg2 hm2 ha hc na) fun σ H Q ⟨ρ, F, s, p⟩ => ⟨ρ, F, s, (PostG.bind s p).imp fun x H1 ⟨F1, a, s1, ra, x1, p1⟩ => by
    cases ra with
    | @lst aa xs ds ha rs =>
      dsimp only [lenSetD] at p1
      cases e : intsD ds with
      | none => rw [e] at p1; exact p1.elim
      | some ns =>
        rw [e] at p1
        have e2 := reps_ints rs e
        subst e2
        by_cases h : ns.Nodup ∧ ns.length ≤ 4000
        · simp only [if_pos h] at p1
          exact ⟨aa, ns, rfl, SqL.of (s1.sub _ _ ha), h.1, h.2, PostG.here s1.sub p1 (.int _)⟩
        · simp only [if_neg h] at p1; exact p1.elim
    | _ => exact p1.elim⟩
end
end VL

/-! VL8: while an error is handled: a list walked to its end, sums, comprehensions. -/
namespace VL
open PySem PySem.Spec PyProof.Rows L2 L2H HotX

section
variable {prog : Program} {w : World} {A : Around} {E : Value → Shared → Prop} {s : Shared}
/-- the end of a list's walk, an error at x1 being handled -/
theorem next_end_hot {it l x1 : Addr} {i : Nat} {items : Array Value} {Q : Option Value → Shared → Prop} (hot : HotAt A x1 s.heap) (hne : x1 ≠ it) (hit : s.heap.IsListIter it l i) (hl : s.heap.IsList l items) (hx : items[i]? = none)
    (hQ : ∀ h', Heap.ExtBut it s.heap h' → Q none { s with heap := h' }) : wpAny (model prog w) A (pyNext (.ref it)) Q E s := by
  obtain ⟨o, ho, hc, hd⟩ := id hit
  obtain ⟨ol, hol, _, nl, hdl⟩ := hl
  obtain ⟨hh, oh, vh, g1, g2, g3⟩ := hot
  unfold pyNext
  refine wpAny_bind (wpAny_attempt (wpAny_callSpecial?_slot (name := Str.ofString "__next__") hit.typeIs slot_listiter_next (wpAny_call_entry slot_listiter_next hit.typeIs entry_listiter_next ?_ (args_listiter_next _))))
  show wpAny _ _ (field (.ref it) 0 >>= _) _ _ s
  refine wpAny_bind (wpAny_field ho hd (x := .ref l) rfl ?_)
  show wpAny _ _ (if (Value.ref l == Value.none) = true then _ else _) _ _ s
  rw [if_neg (show ¬ ((Value.ref l == Value.none) = true) from Bool.false_ne_true)]
  show wpAny _ _ (field (.ref it) 1 >>= _) _ _ s
  refine wpAny_bind (wpAny_field ho hd (x := .int i 0) rfl ?_)
  show wpAny _ _ (seqItems? (.ref l) >>= _) _ _ s
  refine wpAny_bind (wpAny_seqItems hol hdl ?_)
  simp only [Int.toNat_natCast, hx]
  refine wpAny_bind (wpAny_rule (wpAny_bind (wpAny_setField ho hd (by simp) ?_)))
  show wpAny _ _ (newExc (.type "StopIteration") [] >>= _) _ _ _
  refine wpAny_bind ?_
  simp only [newExc, newTuple]
  refine wpAny_bind (wpAny_newObj_type ?_ (by size_fits))
  refine wpAny_bind (m := firstArgMember _ _) (wpAny_of_eq (a := Value.none) (by first | rfl | (simp only [firstArgMember]; rfl)) ?_)
  refine wpAny_newObj_type ?_ (by size_fits)
  have kept : ∀ (f : Obj → Obj) (n : Obj) b u, b ≠ it → s.heap.get? b = some u → ((s.heap.update it f).push n).get? b = some u := fun f n b u hb e => Heap.get?_push_of_some _ ((Heap.SameBut.update ..).extBut b u hb e)
  refine raiseNew_hot ⟨hh, oh, vh, Heap.get?_push_of_some _ (kept _ _ x1 oh hne g1), g2, g3⟩ (Nat.ne_of_lt (Heap.lt_size (kept _ _ x1 oh hne g1))) (Heap.get?_push_size _ rfl) rfl (by first | (simp; done) | (simp; omega) | (simp only [Array.size_append]; simp; omega)) ?_
  refine wpAny_bind (wpAny_isInstance (T := "StopIteration") (b := true) ⟨_, Heap.get?_update_self _ (Heap.get?_push_size _ rfl) rfl, rfl⟩ isSubtype_stop ?_)
  refine wpAny_pure (hQ _ fun b u hb e => ?_)
  rw [Heap.get?_update_other _ _ (Nat.ne_of_gt (Heap.lt_size (kept _ _ b u hb e)))]
  exact Heap.get?_push_of_some _ (kept _ _ b u hb e)
theorem hot_to {A A' : Around} {x : Addr} {h h' : Heap} (k : HotAt A x h) (e : A'.handled = A.handled) (q : ∀ o, h.get? x = some o → h'.get? x = some o) : HotAt A' x h' := by
  obtain ⟨h1, o, vs, h2, h3, h4⟩ := k
  exact ⟨e.trans h1, o, vs, q o h2, h3, h4⟩
theorem walk_hot {I ax x1 : Addr} (hne : ax ≠ I) (hx : x1 ≠ I) (items : Array Value) :
    Walks prog w A I [I, ax, x1] [I] items.size (fun i v => items[i]? = some v) (fun i h => h.IsListIter I ax i ∧ h.IsList ax items ∧ HotAt A x1 h) where
  sub := fun b hb => by simp at hb; simp [hb]
  frame := fun _ _ _ st hk => ⟨st.1.at fun o e => hk I (by simp) o e, st.2.1.at fun o e => hk ax (by simp) o e, hot_to st.2.2 rfl fun o e => hk x1 (by simp) o e⟩
  item := fun i s Q E hi st hQ => by
    refine wpAny_pyNext_list_item st.1 st.2.1 (x := items[i]) (by simp [hi]) fun h' a b => ?_
    exact hQ _ h' s.toks (by simp [hi]) ⟨a, st.2.1.extBut b.extBut hne, hot_to st.2.2 rfl fun o e => b.extBut x1 o hx e⟩ fun c o hb e => b.extBut c o (fun h => hb (by simp [h])) e
  done := fun s Q E st hQ => next_end_hot st.2.2 hx st.1 st.2.1 (by simp) fun h' a => hQ h' s.toks fun b o hb e => a b o (fun h => hb (by simp [h])) e
  self := fun _ _ _ _ st hQ => wpAny_pyIter_listiter st.1 hQ
/-- sum(xs), an error being handled -/
theorem sum_hot {l x1 : Addr} {its : List Value} {ns : List Int} {Q : Value → Shared → Prop} (hot : HotAt A x1 s.heap) (hl : s.heap.IsList l its.toArray) (hi : IntsAre its ns)
    (h : ∀ h' tk t', (∀ b o, s.heap.get? b = some o → h'.get? b = some o) → Q (.int ns.sum t') { s with heap := h', toks := tk }) : wpAny (model prog w) A (call (.builtin "sum") [.ref l]) Q E s := by
  obtain ⟨xs, e⟩ := hi.allInts.items
  have hn : numsOf (intItems xs).toList = ns := by rw [← e]; exact hi.numsOf
  rw [nums_intItems] at hn
  rw [e] at hl
  refine call_sum_walkG (iter_intList hl fun s₂ e2 st hfp hlI => ?_)
  subst e2
  have hx1 : x1 < s.heap.objs.size := by obtain ⟨_, o, _, g1, _⟩ := hot; exact Heap.lt_size g1
  have hot2 : HotAt A.in1 x1 (s.heap.push { cls := .type "list_iterator", data := .fields #[.ref l, .int 0 0] }) := hot_to hot rfl fun o e => Heap.get?_push_of_some _ e
  refine ⟨_, _, _, _, _, _, numAt xs, rfl, walk_hot (A := A.in1) (ax := l) (x1 := x1) hlI (Nat.ne_of_lt hx1) (intItems xs), ⟨st.1, st.2, hot2⟩, fun b hb => ?_, (fun _ _ => intItems_at), fun h' tk t' hk => ?_⟩
  · simp only [List.mem_cons, List.not_mem_nil, or_false] at hb
    rcases hb with z | z | z
    · exact hfp b (by simp [z])
    · exact hfp b (by simp [z])
    · rw [z]
      show x1 < (s.heap.push _).objs.size
      rw [Heap.size_push]
      exact Nat.lt_succ_of_lt hx1
  · have q := h h' tk t' (old_kept hk)
    have e3 : preSum (numAt xs) (intItems xs).size = ns.sum := by
      have : (intItems xs).size = xs.size := by simp [intItems]
      rw [this, preSum_eq, List.take_of_length_le (by simp), hn]
    rw [e3]
    exact q
end

section
variable {X : Cx}
/-- [elt for x in a list], an error being handled: the reading is the plain one's -/
theorem pe_lcH {elt tg iter : Expr} {ifs : List Expr} {scope : Scope} {own : List (Str × Nat)} {pos : Pos} {tl : TE} {g : TG} {tt : TT} {te : TE} (hc : HotC X) (hN : X.N.Nodup) (hl : PE X iter tl) (ok : BlkOk X.N X.env.scope scope own)
    (hg : ∀ (s : Shared) (H : Hp) (C : Addr) (cl : List (Str × Addr)) (fp : List Addr), PG (X.blk s H scope (compEnvC scope cl C X.env) fp) tg g)
    (ht : ∀ (s : Shared) (H : Hp) (C : Addr) (cl : List (Str × Addr)) (fp : List Addr), PTs (X.blk s H scope (compEnvC scope cl C X.env) fp) ifs tt)
    (he : ∀ (s : Shared) (H : Hp) (C : Addr) (cl : List (Str × Addr)) (fp : List Addr), PE (X.blk s H scope (compEnvC scope cl C X.env) fp) elt te) (hs : ∀ x, foldedSetIterable iter X.env x = pure x := by intro _; rfl) :
    PE X (.ListComp elt [⟨tg, iter, ifs, 0⟩] scope pos) (tLc (iList X.K tl) g tt te (own.map (·.2))) := by
  refine ⟨fun pins s σ H Q I h => ?_⟩
  rw [eval_ListComp]
  have free : ∀ y ∈ scope.names, y.2 = .free → ∃ c, X.env.cells.lookup y.1 = some c := fun y hy e => (ok.free y hy e).elim (fun k => I.ok.has _ (.inl k)) (fun k => I.ok.has _ (.inr k))
  refine wpAny_comprehension_free (use := none) rfl hs (closure_ok free) ok.kind (fun y hy e => by rw [ok.uniq y hy, e]) (thn (hl.run pins s σ H _ I h) fun xv s1 ⟨x, H2, I1, r1, q1⟩ => ?_)
  obtain ⟨l, ex, ⟨xs0, hq0⟩, q⟩ := q1
  subst ex
  cases r1
  obtain ⟨its0, rv0, pl0, _⟩ := I1.list hq0
  refine wpAny_pyIter_list pl0.isList ?_
  generalize hit : s1.heap.objs.size = it
  generalize hs2 : ({ s1 with heap := s1.heap.push { cls := .type "list_iterator", data := .fields #[.ref l, .int 0 0] } } : Shared) = s2
  have h2 : s2.heap = s1.heap.push { cls := .type "list_iterator", data := .fields #[.ref l, .int 0 0] } := by rw [← hs2]
  have I2 : Inv X pins σ H2 s2 := by rw [← hs2]; exact I1.kept (t' := s1.toks) fun b o e => Heap.get?_push_of_some _ e
  have st2 : s2.heap.IsListIter it l 0 := by rw [h2, ← hit]; exact ⟨_, Heap.get?_push_size _ rfl, rfl, rfl⟩
  have f2 : FpOk X pins H2 it := I1.fpOk (Nat.le_of_eq hit) (I1.hok.fresh (Nat.le_of_eq hit))
  refine wpAny_newObj_type (newEnv_comp ?_) (by show 0 ≤ sizeLine; decide)
  generalize hD : s2.heap.objs.size = D
  have hDn : H2 D = none := I2.hok.fresh (Nat.le_of_eq hD)
  obtain ⟨W, ⟨m0, w0⟩, turn⟩ := q D hDn
  generalize hs3 : ({ s2 with heap := s2.heap.push { cls := .type "list", data := .seq ([] : List Value).toArray } } : Shared) = s3
  have h3 : s3.heap = s2.heap.push { cls := .type "list", data := .seq ([] : List Value).toArray } := by rw [← hs3]
  have I3 : Inv X pins σ (upd H2 D (.lst [])) s3 := by
    rw [← hs3]
    refine I2.laid (t' := s2.toks) (fun b o e => Heap.get?_push_of_some _ e) (Nat.le_of_eq hD) ⟨Nat.zero_le _, [], 0, .nil, ?_⟩
    rw [← hD]
    exact Heap.get?_push_size _ rfl
  have itlt : it < s2.heap.objs.size := by obtain ⟨o, e, _⟩ := st2; exact Heap.lt_size e
  have f3 : ∀ b ∈ [it], FpOk X pins (upd H2 D (.lst [])) b ∧ b < s3.heap.objs.size := fun b hb => by
    have e : b = it := by simpa using hb
    subst e
    refine ⟨⟨?_, f2.2⟩, by rw [h3, Heap.size_push]; exact Nat.lt_succ_of_lt itlt⟩
    rw [upd_ne (by rw [← hD]; exact Nat.ne_of_lt itlt)]
    exact f2.1
  have st3 : s3.heap.IsListIter it l 0 := st2.at fun o e => by rw [h3]; exact Heap.get?_push_of_some _ e
  have I4 := block_start I3 ok hN f3
  have pg := hg s3 (upd H2 D (.lst [])) s3.heap.objs.size (cellsFrom (s3.heap.objs.size + 1) scope.names (cloFrom X.env.cells scope.names [])) [it]
  have pt := ht s3 (upd H2 D (.lst [])) s3.heap.objs.size (cellsFrom (s3.heap.objs.size + 1) scope.names (cloFrom X.env.cells scope.names [])) [it]
  have pe := he s3 (upd H2 D (.lst [])) s3.heap.objs.size (cellsFrom (s3.heap.objs.size + 1) scope.names (cloFrom X.env.cells scope.names [])) [it]
  show codeAny _ _ (.compStart (.ListComp elt [⟨tg, iter, ifs, 0⟩] scope pos) 0 (.ref it) (.ref D) (compEnvC scope (cellsFrom (s3.heap.objs.size + 1) scope.names (cloFrom X.env.cells scope.names [])) s3.heap.objs.size X.env)) (compPost (model X.prog X.w) X.A X.xe none (EP X pins σ Q) (.ref D) s3.heap.objs.size) { s3 with heap := pushCells (s3.heap.push { cls := .type "dict", data := .dict #[] }) scope.names }
  generalize hce : compEnvC scope (cellsFrom (s3.heap.objs.size + 1) scope.names (cloFrom X.env.cells scope.names [])) s3.heap.objs.size X.env = ce at I4 pg pt pe ⊢
  have cL : ce.locals = s3.heap.objs.size := by subst hce; rfl
  have nit : (upd H2 D (.lst [])) it = none := (f3 it (by simp)).1.1
  generalize hH3 : upd H2 D (.lst []) = H3 at I3 I4 pg pt pe w0 nit f3
  generalize hs4 : ({ s3 with heap := pushCells (s3.heap.push { cls := .type "dict", data := .dict #[] }) scope.names } : Shared) = s4 at I4 ⊢
  have st4 : s4.heap.IsListIter it l 0 := st3.at fun o e => by rw [← hs4]; exact pushCells_keeps _ _ _ _ (Heap.get?_push_of_some _ e)
  -- the handled error stands through the block
  obtain ⟨pp, ⟨hh, vsp, hdp, hcp⟩, hpn⟩ := hc
  obtain ⟨gp, fp1, nep, nfp, _⟩ := I3.pin pp (List.mem_append_left _ hpn)
  have npit : pp.1 ≠ it := f2.2.2.2.2.2 pp (List.mem_append_left _ hpn)
  have nstk : pp.1 ∉ frs X.stack := fun z => (List.mem_cons.mp (I3.stkSub _ z)).elim nep nfp
  have hotB : ∀ {σ' : St} {H' : Hp} {s' : Shared}, Inv (X.blk s3 H3 scope ce [it]) [] σ' H' s' → HotAt X.A pp.1 s'.heap := fun {σ' H' s'} I' =>
    ⟨hh, pp.2, vsp, I'.base.keep pp.1 pp.2 gp fp1 nstk (by simpa using npit), hdp, hcp⟩
  have stat : ∀ {σ' : St} {H' : Hp} {s' : Shared}, Inv (X.blk s3 H3 scope ce [it]) [] σ' H' s' → H' it = none → FpOk (X.blk s3 H3 scope ce [it]) [] H' it := fun {σ' H' s'} I' hn =>
    ⟨hn, (I'.ok.exf it (by simp)).1, I'.ok.exfs it (by simp), .inl (by simp), fun x c e => (I'.ok.exf it (by simp)).2 x c e, fun p hp => absurd (show p ∈ ([] : List (Addr × Obj)) ++ [] from hp) (by simp)⟩
  have loop : codeAny (model X.prog X.w) X.A (.compLoop (.ListComp elt [⟨tg, iter, ifs, 0⟩] scope pos) 0 (.ref it) (.ref D) ce) (compPost (model X.prog X.w) X.A X.xe none (EP X pins σ Q) (.ref D) s3.heap.objs.size) s4 := by
    refine compLoop_any (fun n s' => ∃ i H', Inv (X.blk s3 H3 scope ce [it]) [] (wipe σ (own.map (·.2))) H' s' ∧ s'.heap.IsListIter it l i ∧ H' it = none ∧ W i n H') ?_ m0 ⟨0, H3, I4, st4, nit, w0⟩
    rintro n s5 ⟨i, H5, I5, st5, n5, w5⟩
    obtain ⟨f0, f1, _, f3', f4, f5⟩ := stat I5 n5
    rcases turn i n H5 w5 with ⟨⟨xs, hq, hxs⟩, qq⟩ | ⟨⟨xs, x, hq, hx⟩, Nx, hNx, step⟩
    · obtain ⟨its, rv, pl, _⟩ := I5.list (X := X.blk s3 H3 scope ce [it]) hq
      have hlen := rv.length
      refine thnF (next_end_hot (hotB I5) npit st5 pl.isList (by simp; omega) (Q := fun r s1 => r = none ∧ Inv (X.blk s3 H3 scope ce [it]) [] (wipe σ (own.map (·.2))) H5 s1) fun h' eb => ⟨rfl, I5.turned (t' := s5.toks) (fun b o hb e => eb b o hb e) f0 f1 f3' f4 f5⟩) fun r s6 ⟨hr, I6⟩ => ?_
      subst hr
      have I7 : Inv X pins σ H5 s6 := I3.call' (ch := [it]) I6.os I6.base I6.hok I6.bare fun b hb => ⟨(f3 b hb).1.2.2.2.1, (f3 b hb).1.2.1, (f3 b hb).1.2.2.2.2.1, (f3 b hb).1.2.2.2.2.2⟩
      have nC : H5 s3.heap.objs.size = none := by
        have z : H5 ce.locals = none := I6.free
        rw [cL] at z
        exact z
      obtain ⟨m, hn, _⟩ := I6.loc
      have hn : s6.heap.Ns ce.locals m := hn
      rw [cL] at hn
      obtain ⟨k0, k1, k2, k3, k4, k5⟩ : FpOk X pins H5 s3.heap.objs.size := I3.fpOk (Nat.le_refl _) nC
      exact ⟨m, hn, fun h'' sb => ⟨.ref D, H5, I7.turned (t' := s6.toks) (fun b o hb e => (sb.2 b hb).trans e) k0 k1 k3 k4 k5, rfl, qq⟩⟩
    · obtain ⟨its, rv, pl, _⟩ := I5.list (X := X.blk s3 H3 scope ce [it]) hq
      obtain ⟨u, hu, ru⟩ := rv.get hx
      refine thnF (wpAny_pyNext_list_item st5 pl.isList (x := u) (by simpa using hu) (Q := fun r s1 => ∃ h', r = some u ∧ s1 = { s5 with heap := h' } ∧ h'.IsListIter it l (i + 1) ∧ Heap.SameBut it s5.heap h') fun h' a b => ⟨h', rfl, rfl, a, b⟩) fun r s6 ⟨h', hr, e6, st6, sb⟩ => ?_
      subst hr e6
      have I6 : Inv (X.blk s3 H3 scope ce [it]) [] (wipe σ (own.map (·.2))) H5 { s5 with heap := h' } := I5.turned (t' := s5.toks) (fun b o hb e => (sb.2 b hb).trans e) f0 f1 f3' f4 f5
      obtain ⟨o6, e6, c6, d6⟩ := id st6
      refine thnF (go_of (s := { s5 with heap := h' }) (Q := fun _ s7 => s7 = { s5 with heap := h' }) e6 c6 d6 (by decide) rfl) fun _ s7 e7 => ?_
      subst e7
      have yl : (Itl X.K l).yld i H5 x H5 := ⟨rfl, fun ys hy => by rw [I5.list_inj (X := X.blk s3 H3 scope ce [it]) hy hq]; exact hx⟩
      have I7' := I6.pinned (fp := [it]) (fun b hb => by have e : b = it := by simpa using hb
                                                         subst e; exact stat I6 n5) (fun b hb => by have e : b = it := by simpa using hb
                                                                                                    subst e; exact ⟨o6, e6, fun v z => by rw [d6] at z; cases z⟩)
      refine thnF (pg.run _ _ _ H5 x u _ I7' ru (step x H5 yl)) fun _ s8 ⟨σ8, H8, I8, hw8, q8⟩ => ?_
      refine thnF (pt.run _ s8 σ8 H8 _ I8 q8) fun b s9 ⟨H9, I9, q9⟩ => ?_
      have fin : ∀ {s' : Shared} {H' : Hp}, Inv (X.blk s3 H3 scope ce [it]) ([] ++ pinsAt [it] h') σ8 H' s' → Nx H' → ∃ m, m < n ∧ ∃ i H', Inv (X.blk s3 H3 scope ce [it]) [] (wipe σ (own.map (·.2))) H' s' ∧ s'.heap.IsListIter it l i ∧ H' it = none ∧ W i m H' := fun {s' H'} I' nx => by
        obtain ⟨m', hm, w'⟩ := hNx H' nx
        have z := I'.pin (it, o6) (List.mem_append_right _ (List.mem_append_right _ (mem_pinsAt (by simp) e6)))
        have hl : (wipe σ (own.map (·.2))).length = σ8.length := by rw [← hw8, wipe_length]
        refine ⟨m', hm, i + 1, H', (I'.unpinned (pins := [])).weak hl (fun j v e => ?_), ⟨o6, z.1, c6, d6⟩, z.2.1, w'⟩
        rw [← hw8] at e
        exact (wipe_some e).1
      cases b with
      | false =>
        simp only [Bool.false_eq_true, if_false] at q9 ⊢
        exact fin I9 q9
      | true =>
        simp only [if_true] at q9 ⊢
        refine thnF (pe.run _ s9 σ8 H9 _ I9 q9) fun z s10 ⟨yv, H10, I10, r10, acc, hD10, hz10, nx⟩ => ?_
        exact app_ok (X := X.blk s3 H3 scope ce [it]) I10 hD10 hz10 r10 fun s11 I11 => fin I11 nx
  exact codeAny_compStart_list loop (wpAny_pyIter_listiter st4 loop)
/-- sum of a list of ints, an error being handled -/
theorem cr_sumH (hc : HotC X) : CallR X (.builtin "sum") (rSum X.K) := by
  intro pins s σ H vs us Q I r h
  obtain ⟨a, ns, rfl, hs, q⟩ := h
  obtain ⟨its, rv, hl, _⟩ := I.list hs
  obtain ⟨x1, hot⟩ := hc.at I
  rw [Vals.ref1 r]
  exact sum_hot hot hl.isList rv.ints fun h' tk t' hk => ⟨.int _, H, I.kept hk, ⟨_, rfl⟩, q⟩
end
end VL

/-! VL9: a lambda handed to a def that calls it and tells what is raised. -/
namespace VL
open PySem PySem.Spec PyProof.Rows L2 L2H HotX

/-- the heap behind the making of a lambda: as it was, or its code object is new and booked in the table at P -/
def LamHp (P : Addr) (q : Str) (H : Hp) (c : Addr) (H1 : Hp) : Prop := H1 = H ∨ ∃ ps more, H P = some (.tbl ps) ∧ H c = none ∧ H1 = upd (upd H P (.tbl (ps ++ more))) c (LamX.CodeO c q)
section
variable {X : Cx} {pins : List (Addr × Obj)} {σ : St} {H : Hp} {s : Shared}
theorem lam_new {T : List (Addr × Str)} {c P : Addr} {params : Arguments} {body : Expr} {scope : Scope} {pos : Pos} {E : Value → Shared → Prop} {Q : Value → Shared → Prop} (I : Inv X pins σ H s) (B : LamX.TabB X.base X.mg c P) (hcode : X.env.code = .ref c)
    (hm : (P, X.env.qual ++ "<lambda>") ∈ T) (hu : ∀ p ∈ T, p.1 = P → p.2 = X.env.qual ++ "<lambda>") (hT : LamX.Tabs T H) (hdef : defaultsOf params X.env = ([], [])) (hfree : ∀ y ∈ scope.names, y.2 = .free → ∃ c, X.env.cells.lookup y.1 = some c)
    (h : ∀ (f d : Addr) (pm ctv : Value) (H1 : Hp) (s' : Shared), Inv X pins σ H1 s' → LamHp P (X.env.qual ++ "<lambda>") H d H1 → LamX.Tabs T H1 →
      s'.heap.get? f = some (PySem.W.kla_obj "<lambda>" (X.env.qual ++ "<lambda>") params body scope (cloFrom X.env.cells scope.names []) pm d ctv) → H1 f = none → f ∉ frs X.stack → H1 d = some (LamX.CodeO d (X.env.qual ++ "<lambda>")) → Q (.ref f) s') :
    wpAny (model X.prog X.w) X.A (eval (.Lambda params body scope pos) X.env) Q E s := by
  obtain ⟨ps, hP, htr, hcodes⟩ := hT _ hm
  refine PySem.W.kla_eval hdef ?_
  have gP : s.heap.get? P = some { cls := .none, data := .fields ps } := I.hok P _ hP
  have noframe : ∀ f, s.heap.objs.size ≤ f → f ∉ frs X.stack := fun f hf z => by
    rcases List.mem_cons.mp (I.stkSub _ z) with e | e
    · have q := I.lt
      rw [← e] at q
      exact absurd (Nat.lt_of_lt_of_le q hf) (Nat.lt_irrefl _)
    · exact I.nofs hf e
  cases hc : codeAmong pos ps.toList with
  | some cv =>
    obtain ⟨d, e, hd⟩ := hcodes pos cv hc
    subst e
    refine PySem.W.kla_makeFunctionHit (mg := X.mg) (c := c) (P := P) (ps := ps) (closure_ok hfree) I.ok.glob (I.mod.glob.keeps I.bk) hcode (B.code.keeps I.bk) gP htr hc (B.bm.keeps I.bk) fun ctv h' tk hx hsz => ?_
    exact h h'.objs.size d ((X.mg "__name__").getD .none) ctv H _ (I.kept fun b o e => Heap.get?_push_of_some _ (hx b o e)) (.inl rfl) hT (Heap.get?_push_size _ rfl) (I.hok.fresh hsz) (noframe _ hsz) hd
  | none =>
    refine PySem.W.kla_makeFunction (mg := X.mg) (c := c) (P := P) (ps := ps) (closure_ok hfree) I.ok.glob (I.mod.glob.keeps I.bk) hcode (B.code.keeps I.bk) gP htr hc B.gP (B.bm.keeps I.bk) fun d ctv h' tk hx hge hlt hrec htb => ?_
    obtain ⟨d2, od, vs, t, e2, hod, hdd, hv⟩ := hrec
    cases e2
    have hsz : s.heap.objs.size ≤ h'.objs.size := Nat.le_trans hge (Nat.le_of_lt hlt)
    have nd : H d = none := I.hok.fresh hge
    have nPd : P ≠ d := ne_of_none hP nd
    have I1 := LamX.inv_table (t' := tk) (more := #[rawInt pos.line, rawInt pos.col, .ref d]) (h' := h'.push (PySem.W.kla_obj "<lambda>" (X.env.qual ++ "<lambda>") params body scope (cloFrom X.env.cells scope.names []) ((X.mg "__name__").getD .none) d ctv)) I hP
      (fun b o hb e => Heap.get?_push_of_some _ (hx b o hb e)) (Heap.get?_push_of_some _ htb) hge ⟨od, vs, t, Heap.get?_push_of_some _ hod, hdd, hv⟩
    have eL : (ps ++ #[rawInt pos.line, rawInt pos.col, .ref d]).toList = ps.toList ++ [rawInt pos.line, rawInt pos.col, .ref d] := by simp
    refine h h'.objs.size d ((X.mg "__name__").getD .none) ctv _ _ I1 (.inr ⟨ps, _, hP, nd, rfl⟩) (fun p hp => ?_) (Heap.get?_push_size _ rfl) ?_ (noframe _ hsz) upd_same
    · have other : ∀ b o, H b = some o → (∀ qs, o ≠ .tbl qs) → upd (upd H P (.tbl (ps ++ #[rawInt pos.line, rawInt pos.col, .ref d]))) d (LamX.CodeO d (X.env.qual ++ "<lambda>")) b = some o := fun b o e n => by
        rw [upd_ne (ne_of_none e nd), upd_ne (fun z => n ps (Option.some.inj (e.symm.trans (by rw [z]; exact hP))))]
        exact e
      by_cases hb : p.1 = P
      · rw [hu p hp hb, hb]
        refine ⟨_, by rw [upd_ne nPd, upd_same], by rw [eL]; exact PySem.TriplesOk_snoc _ _ _ _ htr, fun p' cv hcv => ?_⟩
        rw [eL] at hcv
        rcases LamX.among_app _ htr hcv with z | z
        · obtain ⟨c0, e1, e2⟩ := hcodes p' cv z
          exact ⟨c0, e1, other _ _ e2 LamX.codeO_ne⟩
        · exact ⟨d, z, upd_same⟩
      · obtain ⟨qs, a1, a2, a3⟩ := hT p hp
        refine ⟨qs, by rw [upd_ne (ne_of_none a1 nd), upd_ne hb]; exact a1, a2, fun p' cv hcv => ?_⟩
        obtain ⟨c0, e1, e2⟩ := a3 p' cv hcv
        exact ⟨c0, e1, other _ _ e2 LamX.codeO_ne⟩
    · rw [upd_ne (Nat.ne_of_gt hlt), upd_ne (Nat.ne_of_gt (Nat.lt_of_lt_of_le (Heap.lt_size gP) hsz))]
      exact I.hok.fresh hsz
theorem LamHp.ext {g : Glob} {P d : Addr} {q : Str} {F H H1 : Hp} (l : LamHp P q H d H1) (s : Same F H) (hF : ∀ ps, F P ≠ some (.tbl ps)) (t : LamX.Tabs g.tabs H1) : Ext g F H F H1 := by
  rcases l with rfl | ⟨ps, more, h1, h2, rfl⟩
  · exact Ext.refl s
  · have keep : ∀ a o, H a = some o → (∀ ps, o ≠ .tbl ps) → upd (upd H P (.tbl (ps ++ more))) d (LamX.CodeO d q) a = some o := fun a o e n => by
      rw [upd_ne (ne_of_none e h2), upd_ne (fun z => n ps (Option.some.inj (e.symm.trans (by rw [z]; exact h1))))]
      exact e
    refine ⟨keep, fun a e => ?_, fun _ => t, fun a o e => ?_, fun a e => rfl, fun _ _ e => e⟩
    · by_cases z : a = d
      · subst z; exact absurd h2 e
      · rw [upd_ne z]
        by_cases z2 : a = P
        · subst z2; rw [upd_same]; simp
        · rw [upd_ne z2]; exact e
    · have e' := s a o e
      have nP : a ≠ P := fun k => by
        subst k
        rw [h1] at e'
        cases e'
        exact hF ps e
      rw [upd_ne (ne_of_none e' h2), upd_ne nP]
      exact e'
end

/-! ### list.index -/
def indexD : Dat → Dat → Res Dat
  | .lst ds, d => if (flatD d && ds.all flatD) = true then match (ds.map vOf).findIdx? (fun y => eqV y (vOf d)) with
      | some j => .ok (.int (j : Nat))
      | none => .stuck
    else .stuck
  | _, _ => .stuck
def isLstD : Dat → Bool
  | .lst _ => true
  | _ => false
theorem find_spec {α : Type} {l : List α} {p : α → Bool} {j : Nat} (h : l.findIdx? p = some j) : ∃ z, l[j]? = some z ∧ p z = true ∧ ∀ (m : Nat) (z' : α), m < j → l[m]? = some z' → p z' = false := by
  obtain ⟨h1, h2, h3⟩ := List.findIdx?_eq_some_iff_getElem.mp h
  refine ⟨l[j], by simp [h1], h2, fun m z' hm e => ?_⟩
  have hml : m < l.length := Nat.lt_trans hm h1
  have := h3 m hm
  rw [List.getElem?_eq_getElem hml] at e
  rw [← Option.some.inj e]
  simpa using this
section
variable {X : Cx} {g : Glob} {W : WX}
theorem ve_index {o e : Expr} {apos cpos : Pos} {f h : Env → Res Dat} (ho : VE X g W o f) (he : VE X g W e h) (hbase : attributeBase o "index" X.env (eval o X.env) = eval o X.env := by rfl)
    (hfew : ((backTo cpos (starEach [e] X.env)).all (fun x => !x.1) && (backToKw cpos (keywordEach [] X.env)).all (fun x => x.1.isSome) && decide (([e]).length + ([] : List Keyword).length + (if ([] : List Keyword).isEmpty then 0 else 1) < 30)) = true := by rfl)
    (hline : (apos.endLine == cpos.line) = true := by rfl) (hs1 : starEach [e] X.env = (false, eval e X.env) :: starEach [] X.env := by rfl) : VE X g W (.Call (.Attribute o "index" apos) [e] [] cpos) (eMth isLstD indexD f h) :=
  PE.imp (pe_bm PySem.F.plainAttrs_list PySem.F.slot_list_index PySem.F.type_list_index mt_index ho (pa_cons he pa_nil hs1) hbase hfew hline hs1 rfl) fun σ H Q ⟨ρ, F, s, p⟩ => ⟨ρ, F, s, (PostG.bind s p).imp fun x H1 ⟨F1, a, s1, ra, x1, p1⟩ => by
    cases ra with
    | @lst aa xs ds hl rs =>
      rw [if_pos (by rfl)] at p1
      refine ⟨.inl ⟨rfl, _, SqL.of (s1.sub _ _ hl)⟩, ρ, F1, s1, (PostG.bind s1 p1).imp fun y H2 ⟨F2, b, s2, rb, x2, p2⟩ => ?_⟩
      dsimp only [indexD] at p2
      by_cases hq : (flatD b && ds.all flatD) = true
      case neg => rw [if_neg hq] at p2; exact p2.elim
      rw [if_pos hq] at p2
      have hq' := Bool.and_eq_true_iff.mp hq
      obtain ⟨e1, f1⟩ := rep_flat rb hq'.1
      obtain ⟨e2, f2⟩ := reps_flat rs hq'.2
      cases ej : (ds.map vOf).findIdx? (fun y => eqV y (vOf b)) with
      | none => rw [ej] at p2; exact p2.elim
      | some j =>
        rw [ej] at p2
        obtain ⟨z, k1, k2, k3⟩ := find_spec ej
        exact ⟨aa, xs, y, j, z, rfl, rfl, SqL.of (s2.sub _ _ (x2.le s1.sub _ _ hl)), f1, f2, by rw [e2]; exact k1, by rw [e1]; exact k2, fun m z' hm hz => by rw [e1]; rw [e2] at hz; exact k3 m z' hm hz, PostG.here s2.sub p2 (.int _)⟩
    | _ => exact p1.elim⟩

/-! ### while an error is handled -/
def lstD : Dat → Res (List Dat)
  | .lst xs => .ok xs
  | _ => .stuck
def iLst (f : Env → Res Dat) : Env → Res (List Dat) := fun ρ => (f ρ).bind lstD
theorem ve_lcH {elt tg iter : Expr} {ifs : List Expr} {scope : Scope} {pos : Pos} {fi : Env → Res Dat} {p : Pat} {t : Env → Res Bool} {f : Env → Res Dat} (own : List (Str × Nat)) (hc : HotC X) (hN : X.N.Nodup) (hi : VE X g W iter fi) (ok : BlkOk X.N X.env.scope scope own)
    (hg : ∀ (s : Shared) (H : Hp) (C : Addr) (cl : List (Str × Addr)) (fp : List Addr), VG (X.blk s H scope (compEnvC scope cl C X.env) fp) g tg p)
    (ht : ∀ (s : Shared) (H : Hp) (C : Addr) (cl : List (Str × Addr)) (fp : List Addr), VTs (X.blk s H scope (compEnvC scope cl C X.env) fp) g W0 ifs t)
    (he : ∀ (s : Shared) (H : Hp) (C : Addr) (cl : List (Str × Addr)) (fp : List Addr), VE (X.blk s H scope (compEnvC scope cl C X.env) fp) g W0 elt f)
    (hp : ∀ i ∈ patIx p, i ∈ own.map (·.2) := by decide) (hs : ∀ x, foldedSetIterable iter X.env x = pure x := by intro _; rfl) : VE X g W (.ListComp elt [⟨tg, iter, ifs, 0⟩] scope pos) (eLc (iLst fi) p t f (own.map (·.2))) :=
  PE.imp (pe_lcH (g := gP X.K g p) (tt := tVT X.K g W0 t) (te := tV X.K g W0 f) hc hN hi ok hg ht he hs) fun σ H Q h => by
    have q := lc_main hp h
    obtain ⟨ρ, F, s, p⟩ := q
    refine ⟨ρ, F, s, (PostG.bind s p).imp fun x H1 ⟨F1, a, s1, ra, x1, p1⟩ => ?_⟩
    cases ra with
    | @lst aa xs ds hl rs => exact ⟨aa, rfl, ⟨xs, SqL.of (s1.sub _ _ hl)⟩, PostG.here s1.sub p1 (iters_list' (SqL.of hl) rs)⟩
    | _ => exact p1.elim
/-- isinstance(e, C), e the pinned error at a -/
def eIsE (i : Nat) (a : Addr) (b : Bool) : Env → Res Dat := fun ρ => match ρ[i]? with
  | some (some (.opq x)) => if x = a then .ok (.bl b) else .stuck
  | _ => .stuck
theorem call_isP {a D : Addr} {oe : Obj} (C : ExcC X.K D) (hz : Zc (.ref D) none oe) (hf : ∃ vs, oe.data = .fields vs) (hp : (a, oe) ∈ X.pn) : CallR X (.builtin "isinstance") (rIsE X.K D a) := by
  intro pins s σ H xs us Q I r h
  obtain ⟨c, cv, b, rfl, hcv, e, q⟩ := h
  cases r with
  | cons rx rr =>
    cases rr with
    | cons rt rr =>
      cases rr
      cases rx
      cases hcv _ rt
      obtain ⟨hget, _⟩ := I.pin (a, oe) (List.mem_append_left _ hp)
      obtain ⟨vs, hv⟩ := hf
      have J : PySem.W.InstAt s.heap a oe D none := by
        obtain ⟨oc, od, oda, osl⟩ := oe
        obtain ⟨h1, h2⟩ := hz
        dsimp only at h1 h2 hv
        subst h1 h2 hv
        exact ⟨hget, rfl, rfl, trivial⟩
      exact PySem.W.kia_one (PySem.W.handS_kitx_exc C.hg C.hk C.hs C.hd C.ha C.hn C.ht C.hm) I.kIn J e (fun z => nomatch z) fun tk => ⟨.bl b, H, I.kept (t' := tk) fun _ _ z => z, rfl, q⟩
theorem ve_isE (i : Nat) {x : Str} {e2 : Expr} {p p1 pos : Pos} {a D : Addr} {oe : Obj} {c : V} {cv : Value} {b : Bool} (C : ExcC X.K D) (hz : Zc (.ref D) none oe) (hf : ∃ vs, oe.data = .fields vs) (hp : (a, oe) ∈ X.pn) (hm : X.mg "isinstance" = none) (h2 : PE X e2 (tC c)) (hcv : ∀ u, L2.RelV c u → u = cv) (hk : PySem.W.kitOne X.K (.ref D) cv = some b)
    (hN : X.N[i]? = some x := by rfl) (hv : Vis X.env.scope x := by first | exact Or.inl rfl | exact Or.inr (Or.inl rfl) | exact Or.inr (Or.inr rfl)) (hd : (x == ("__debug__" : Str)) = false := by decide) (hcd : (x == ("__classdict__" : Str)) = false := by decide) (hg : Gl X "isinstance" := by rfl)
    (he : starEach [.Name x p1, e2] X.env = (false, eval (.Name x p1) X.env) :: starEach [e2] X.env := by rfl) (he2 : starEach [e2] X.env = (false, eval e2 X.env) :: starEach [] X.env := by rfl) (hpl : (backTo pos (starEach [e2] X.env)).any (·.1) = false := by rfl) : VE X g W (.Call (.Name "isinstance" p) [.Name x p1, e2] [] pos) (eIsE i a b) :=
  PE.imp (pe_callB (call_isP C hz hf hp) hg hm (by decide +kernel) (pa_cons (pe_var hN hv hd hcd) (pa_cons h2 pa_nil he2) he) (by decide) (by decide) he hpl) fun σ H Q ⟨ρ, F, s, q⟩ => by
    unfold eIsE at q
    split at q
    · rename_i y e
      by_cases hy : y = a
      · rw [if_pos hy] at q
        obtain ⟨v, k1, k2⟩ := s.env i _ e
        cases k2
        subst hy
        exact ⟨_, k1, c, cv, b, rfl, hcv, hk, PostG.here s.sub q (.bl b)⟩
      · rw [if_neg hy] at q; exact q.elim
    · exact q.elim
end

/-! ### a def called while an error is handled, with that error -/
theorem run_hot {P : Program} {w : World} {K : PySem.W.Frag} {mg : Str → Option Value} {base : Heap} {k : Nat} {f : Addr} {name qual : Str} {params : Arguments} {body : List Stmt} {scope : Scope} {dV kV doc pm cdv ct oc : Value} {an od : Option Addr} {osl : Array (Option Value)} {N : List Str} {x : Str}
    (lk : K.lookup f = some ⟨oc, od, .func (PySem.W.fnOf name qual params body scope dV kV doc pm an cdv ct), osl⟩) (hcd : PySem.W.codeIn K cdv qual = true) (S : FnScope N [x] scope) {A : Around} {outer : List PySem.Env} {s : Shared} {H : Hp} {Q : VK} {a : Addr} {oe : Obj}
    (hr : RoomH (k + 1) A) (hot : Hot1 A (a, oe)) (hpin : PinOk outer H s (a, oe)) (e0 : Env0 P w K mg base A outer s H) (hb : BindsTo s (PySem.W.fnOf name qual params body scope dV kV doc pm an cdv ct) ⟨[.ref a], []⟩ [(x, .ref a)])
    (hbody : RoomH k (A.deeper (envOfC qual scope s.heap.objs.size f cdv)) → ∃ t, PSs (cxH L2.CX0 P w K mg base N qual scope f cdv A outer s H L2.E0 (a, oe)) body t ∧ t { nx := fun _ H' => Q .non H', rt := Q } (L2.start N [.ref a]) H) :
    codeAny (model P w) A (.call (.ref f) ⟨[.ref a], []⟩) (CR L2.CX0 outer P w H s Q L2.E0) s := by
  have KX : K.In s.heap := e0.mod.kin.keeps fun b o e => (e0.bs b o e).1
  have lim : s.heap.NoLimit := e0.mod.nolimit.keeps fun b o e => (e0.bs b o e).1
  have hkind : ∀ y ∈ [x].zip [Value.ref a], scope.names.lookup y.1 = some .local ∨ (scope.names.lookup y.1 = some .cell ∧ ((cellsFrom (s.heap.objs.size + 1) scope.names []).lookup y.1).isSome = true) := fun y hy => by
    rcases S.par y.1 (List.of_mem_zip hy).1 with q | q
    · exact .inl q
    · exact .inr ⟨q, PySem.W.cellsFrom_some _ _ _ (.inl q)⟩
  refine codeAny_call_function hr.depth (KX _ _ lk) rfl S.co S.gen rfl (PySem.W.codeRec_of KX hcd) (hb _ _ _ _ ?_)
  refine wpAny_newFunctionEnv_cells S.kind hkind fun env he s1 x1 => ?_
  subst he
  refine ⟨lim.keeps x1.toInCall.keep, codeAny_func ?_⟩
  obtain ⟨t, ht, hq⟩ := hbody (hr.deeper _)
  have I : Inv (cxH L2.CX0 P w K mg base N qual scope f cdv A outer s H L2.E0 (a, oe)) [] (L2.start N [.ref a]) H s1 := inv_startH (us := [.ref a]) S hpin e0 rfl (.cons rfl .nil) x1
  refine wpAny_mono (ht.run [] s1 (L2.start N [.ref a]) H _ I hq) (fun fl s' hs => ?_) fun e s' hs => hs
  cases fl with
  | ret u =>
    obtain ⟨v, σ', H', J, rv, q⟩ := hs
    exact ⟨v, H', J.os, J.bare, J.base, J.hok, rv, q⟩
  | next =>
    obtain ⟨σ', H', J, q⟩ := hs
    exact ⟨.non, H', J.os, J.bare, J.base, J.hok, rfl, q⟩
  | brk =>
    obtain ⟨_, _, _, q⟩ := hs
    exact q.elim
  | cont =>
    obtain ⟨_, _, _, q⟩ := hs
    exact q.elim
end VL

/-! VL10: x(lambda: body), x a def that calls it and tells the class of what is raised. -/
namespace VL
open PySem PySem.Spec PyProof.Rows L2 L2H HotX

/-- the context of a lambda's body -/
def lamX (X : Cx) (A : Around) (outer : List PySem.Env) (s : Shared) (H : Hp) (E : XK) (scope : Scope) (f d : Addr) : Cx :=
  { LamX.lamCx X A outer s H E scope f d with
    xe := fun e s' => wpAny (model X.prog X.w) (A.deeper (LamX.lamEnv X scope s.heap.objs.size f d)) (leaving (LamX.lamEnv X scope s.heap.objs.size f d) e) (fun _ s'' => L2N.CX X.prog X.w outer H s E e s'') (fun e' s'' => L2N.CX X.prog X.w outer H s E e' s'') s' }
theorem lam_takes {X : Cx} {A : Around} {outer : List PySem.Env} {s : Shared} {H : Hp} {E : XK} {scope : Scope} {f d : Addr} : L2N.Takes (lamX X A outer s H E scope f d) (fun cls e _ H' => E cls e H') := L2N.takes_of rfl rfl rfl rfl
section
variable {X : Cx} {pins : List (Addr × Obj)} {σ : St} {H : Hp} {s : Shared}
/-- deed(), in the def that got the lambda at f -/
theorem pe_deed {CXg : CXT} {Eg : XK} {Ng : List Str} {qg : Str} {sg : Scope} {g f d : Addr} {cdg pm ctv : Value} {params : Arguments} {body : Expr} {scope : Scope} {k i : Nat} {a : Str} {pn : List (Addr × Obj)} {xe : Value → Shared → Prop} {W : WX} {tb : XK → TE} {p1 p2 : Pos}
    (I : Inv X pins σ H s) (L : LamX.LamS X.env.scope scope) (hf : s.heap.get? f = some (PySem.W.kla_obj "<lambda>" (X.env.qual ++ "<lambda>") params body scope (cloFrom X.env.cells scope.names []) pm d ctv)) (hfn : H f = none) (hfr : f ∉ frs X.stack)
    (hbind : bindArgs (PySem.W.kla_fn "<lambda>" (X.env.qual ++ "<lambda>") params body scope (cloFrom X.env.cells scope.names []) pm (.ref d) ctv) ⟨[], []⟩ = pure [])
    (tk : L2N.Takes ((cxOf CXg X.prog X.w X.K X.mg X.base Ng qg sg g cdg X.A X.stack s H Eg).tr pn xe) W) (hr : Room (k + 1) (X.A.deeper (envOfC qg sg s.heap.objs.size g cdg)))
    (hbody : ∀ (A : Around) (outer : List PySem.Env) (s : Shared) (H : Hp) (E : XK), Room k (A.deeper (LamX.lamEnv X scope s.heap.objs.size f d)) → PE (lamX X A outer s H E scope f d) body (tb E))
    (hN : Ng[i]? = some a) (hv : Vis sg a) (hd : (a == ("__debug__" : Str)) = false) (hcd : (a == ("__classdict__" : Str)) = false) :
    PE ((cxOf CXg X.prog X.w X.K X.mg X.base Ng qg sg g cdg X.A X.stack s H Eg).tr pn xe) (.Call (.Name a p1) [] [] p2)
      (fun σZ HZ Q => σZ[i]? = some (some (.ref f)) ∧ HZ d = some (LamX.CodeO d (X.env.qual ++ "<lambda>")) ∧ tb (WE W σZ) σ HZ Q) := by
  refine ⟨fun pinsZ sZ σZ HZ Q IZ ⟨hs, hc, ht⟩ => ?_⟩
  refine wpAny_Call_Name_kw (thn ((pe_var (pos := p1) (i := i) hN hv hd hcd).run pinsZ sZ σZ HZ (fun v H1 => v = .ref f ∧ H1 = HZ) IZ ⟨.ref f, hs, rfl, rfl⟩) fun u s1 ⟨v, H1, I1, r1, ev, eH⟩ => ?_)
  subst ev
  rw [eH] at I1
  cases (show u = Value.ref f from r1)
  have of1 : s1.heap.get? f = some (PySem.W.kla_obj "<lambda>" (X.env.qual ++ "<lambda>") params body scope (cloFrom X.env.cells scope.names []) pm d ctv) := I1.base.keep f _ hf hfn hfr (fun z => nomatch (show f ∈ ([] : List Addr) from z))
  refine PySem.W.callWith_F0 ⟨_, _, _, _, of1⟩ ?_
  obtain ⟨⟨oc, vs, t, hoc, hdc, hvc⟩, _, _⟩ := I1.hok d _ hc
  have rc : codeAny (model X.prog X.w) (X.A.deeper (envOfC qg sg s.heap.objs.size g cdg)) (.call (.ref f) ⟨[], []⟩) (CR (L2N.CX X.prog X.w) (envOfC qg sg s.heap.objs.size g cdg :: X.stack) X.prog X.w HZ s1 Q (WE W σZ)) s1 := by
    refine PySem.W.kla_callFunE hr.depth of1 rfl L.co L.gen rfl ⟨d, oc, vs, t, rfl, hoc, hdc, hvc⟩ ?_
    rw [hbind]
    refine wpAny_pure (wpAny_newFunctionEnv (fun y hy => (L.own y hy).2) (fun y hy => absurd hy (by simp)) (fun h₁ hns hsb => ⟨I1.nolimit.fresh _ hsb, ?_⟩) L.kind)
    show codeAny _ _ (.expr body (LamX.lamEnv X scope s1.heap.objs.size f d)) _ _
    have kp : ∀ b o, s1.heap.get? b = some o → h₁.get? b = some o := fun b o e => hsb.extBut b o (Nat.ne_of_lt (Heap.lt_size e)) (Heap.get?_push_of_some _ e)
    have J0 : Inv (LamX.lamCx X (X.A.deeper (envOfC qg sg s.heap.objs.size g cdg)) (envOfC qg sg s.heap.objs.size g cdg :: X.stack) s1 HZ (WE W σZ) scope f d) [] σ HZ { s1 with heap := h₁, toks := s1.toks + ([] : List (Str × Value)).length } :=
      LamX.lam_start2 I L I1.env0 hr.hd I1.base hns kp
    have J : Inv (lamX X (X.A.deeper (envOfC qg sg s.heap.objs.size g cdg)) (envOfC qg sg s.heap.objs.size g cdg :: X.stack) s1 HZ (WE W σZ) scope f d) [] σ HZ { s1 with heap := h₁, toks := s1.toks + ([] : List (Str × Value)).length } := J0.wish _
    refine PySem.W.kla_codeExpr (wpAny_mono ((hbody _ _ s1 HZ (WE W σZ) (hr.deeper _)).run [] _ _ HZ Q J ht) (fun v s' ⟨w', H', J', rv, q⟩ => ⟨w', H', J'.os, J'.bare, J'.base, J'.hok, rv, q⟩) fun e s' hq => hq)
  refine wpAny_call (codeAny_mono rc fun r s' hq => ?_)
  cases r with
  | error e => exact L2N.passAt tk σZ pinsZ HZ s1 e s' I1 hq
  | ok fl =>
    cases fl with
    | ret u => exact I1.after hq
    | next => exact hq.elim
    | brk => exact hq.elim
    | cont => exact hq.elim
end

/-! ### what is told -/
def toldR (names : List Str) : Res Dat → Res Dat
  | .exc c => if c ∈ names then .ok (.tup [.str "refused", .str c]) else .stuck
  | r => r
def eTold (names : List Str) (f : Env → Res Dat) : Env → Res Dat := fun ρ => toldR names (f ρ)
/-- the def at f gets the error of one of the classes, and tells its name -/
def WordOk (P : Program) (w : World) (K : PySem.W.Frag) (mg : Str → Option Value) (base : Heap) (g : Glob) (names : List Str) (k : Nat) (f : Addr) : Prop :=
  ∀ c ∈ names, ∀ (A : Around) (outer : List PySem.Env) (s : Shared) (H : Hp) (Q : VK) (a : Addr) (oe : Obj) (F : Hp), RoomH k A → Hot1 A (a, oe) → PinOk outer H s (a, oe) → Env0 P w K mg base A outer s H → Zc (.ref (g.cls c)) none oe → (∃ vs, oe.data = .fields vs) → Same F H → LamX.Tabs g.tabs H → (∀ a ps, F a ≠ some (.tbl ps)) →
      PostG g (Rep K g) W0 [] F H (.ok (.tup [.str "refused", .str c])) Q → codeAny (model P w) A (.call (.ref f) ⟨[.ref a], []⟩) (CR L2.CX0 outer P w H s Q L2.E0) s
/-- what the written part says of the def that tells (told), and of the one that it calls with the error (word) -/
structure TellT (P : Program) (w : World) (K : PySem.W.Frag) (mg : Str → Option Value) (base : Heap) (g : Glob) (names : List Str) (k : Nat) : Prop where
  ex : ∃ (gt fW CM : Addr) (pg : Arguments) (sg : Scope) (dV kV doc pm cdv ct oc : Value) (an od : Option Addr) (osl : Array (Option Value)) (p1 p2 p3 p4 p5 p6 p7 p8 p9 p10 : Pos),
    mg "_law_told" = some (.ref gt) ∧ PySem.W.keepIn K (.ref gt) = true ∧
    K.lookup gt = some ⟨oc, od, .func (PySem.W.fnOf "_law_told" "_law_told" pg [.Try [.Return (some (.Call (.Name "deed" p1) [] [] p2)) p3] [.ExceptHandler (some (.Name "MadeError" p4)) (some "e") [.Return (some (.Call (.Name "_law_word" p5) [.Name "e" p6] [] p7)) p8] p9] [] [] p10] sg dV kV doc pm an cdv ct), osl⟩ ∧
    PySem.W.codeIn K cdv "_law_told" = true ∧
    L2.Binds K (PySem.W.fnOf "_law_told" "_law_told" pg [.Try [.Return (some (.Call (.Name "deed" p1) [] [] p2)) p3] [.ExceptHandler (some (.Name "MadeError" p4)) (some "e") [.Return (some (.Call (.Name "_law_word" p5) [.Name "e" p6] [] p7)) p8] p9] [] [] p10] sg dV kV doc pm an cdv ct) ["deed"] [] ∧
    FnScope ["deed", "e"] ["deed"] sg ∧ sg.names.lookup ("e" : Str) = some NameKind.local ∧ Vis sg "deed" ∧ sg.names.lookup ("MadeError" : Str) = some NameKind.globalImplicit ∧ sg.names.lookup ("_law_word" : Str) = some NameKind.globalImplicit ∧
    mg "MadeError" = some (.ref CM) ∧ mg "_law_word" = some (.ref fW) ∧ PySem.W.keepIn K (.ref fW) = true ∧ (∀ c ∈ names, PySem.W.exmOne K (.ref (g.cls c)) (.ref CM) = some true) ∧
    WordOk P w K mg base g names k fW
/-- a context in which lambdas are made -/
structure LamHere (X : Cx) (g : Glob) : Prop where
  ex : ∃ c P, LamX.TabB X.base X.mg c P ∧ X.env.code = .ref c ∧ (P, X.env.qual ++ "<lambda>") ∈ g.tabs ∧ ∀ p ∈ g.tabs, p.1 = P → p.2 = X.env.qual ++ "<lambda>"
section
variable {X : Cx} {g : Glob} {W : WX}
theorem ve_told {names : List Str} {kw k j : Nat} {params : Arguments} {body : Expr} {scope : Scope} {f : Env → Res Dat} {p lpos pos : Pos} (T : TellT X.prog X.w X.K X.mg X.base g names kw) (L0 : LamHere X g) (hr : Room j X.A) (hk : k + 2 ≤ j) (hkw : kw + 1 ≤ j) (L : LamX.LamS X.env.scope scope) (hdef : defaultsOf params X.env = ([], []))
    (hbind : ∀ (q : Str) (cl : List (Str × Addr)) (pm cv ctv : Value), bindArgs (PySem.W.kla_fn "<lambda>" q params body scope cl pm cv ctv) ⟨[], []⟩ = pure [])
    (hbody : ∀ (A : Around) (outer : List PySem.Env) (s : Shared) (H : Hp) (E : XK) (f0 d : Addr), Room k (A.deeper (LamX.lamEnv X scope s.heap.objs.size f0 d)) → L2N.Takes (lamX X A outer s H E scope f0 d) (fun cls e _ H' => E cls e H') → VE (lamX X A outer s H E scope f0 d) g (fun cls e _ H' => E cls e H') body f)
    (hg : Gl X "_law_told" := by rfl) : VE X g W (.Call (.Name "_law_told" p) [.Lambda params body scope lpos] [] pos) (eTold names f) := by
  obtain ⟨gt, fW, CM, pg, sg, dV, kV, doc, pm, cdv, ct, oc, an, od, osl, p1, p2, p3, p4, p5, p6, p7, p8, p9, p10, hm, hkp, lk, hcg, hb, Sg, hle, hvd, hgM, hgW, hmM, hmW, hkW, hexm, hword⟩ := T.ex
  obtain ⟨c, P, TB, hcode, hmT, hu⟩ := L0.ex
  refine ⟨fun pins s σ H Q I ⟨ρ, F, st, post⟩ => ?_⟩
  refine wpAny_Call_Name_kw (ld_glob I hg hm ?_ (by decide))
  refine PySem.W.callWith_K (h₀ := X.base) I.ok.mod.kin hkp ?_ (by rfl) (by rfl)
  show wpAny _ _ (spliced ((false, eval (.Lambda params body scope lpos) X.env) :: backTo pos (starEach [] X.env))) _ _ s
  refine Calls.spliced_cons (lam_new I TB hcode hmT hu st.tabs hdef (L.has I.ok) fun f0 d pm' ctv H1 s' I1 lh T1 hf hfn hfr hco => ?_)
  refine Calls.spliced_nil ⟨I1.kIn, ?_⟩
  have x1 : Ext g F H F H1 := lh.ext st.sub (st.nt P) T1
  have st1 : Stt X.K g F H1 σ ρ := st.ext x1
  have post1 : PostG g (Rep X.K g) W σ F H1 (toldR names (f ρ)) Q := PostG.ext x1 post
  have rc : codeAny (model X.prog X.w) X.A (.call (.ref gt) ⟨[.ref f0], []⟩) (CR (L2N.CX X.prog X.w) X.stack X.prog X.w H1 s' Q L2.E0) s' := by
    refine LamX.run_ofS (k := j - 1) (CX := L2N.CX X.prog X.w) (N := ["deed", "e"]) (ps := ["deed"]) (us := [.ref f0]) (vs := [.ref f0]) lk hcg Sg (hr.mono (by omega)) I1.env0 (hb s' [.ref f0] I1.kIn rfl) (.cons rfl .nil) rfl fun hr' => ?_
    refine ⟨_, pss_one (L2N.ps_try_as (X := cxOf (L2N.CX X.prog X.w) X.prog X.w X.K X.mg X.base ["deed", "e"] "_law_told" sg gt cdv X.A X.stack s' H1 L2.E0) (i := 1) (c := .ref CM)
      (tb := fun W' D σ2 H2 => σ2[0]? = some (some (.ref f0)) ∧ H2 d = some (LamX.CodeO d (X.env.qual ++ "<lambda>")) ∧ tV X.K g (fun cls e _ H' => W' cls e σ2 H') f σ H2 D.rt)
      (ts := fun a cls e => tRet (fun σ2 H2 Q2 => σ2[1]? = some (some (.ref a)) ∧ e = none ∧ ∃ c ∈ names, cls = .ref (g.cls c) ∧ ∃ F2, Same F2 H2 ∧ LamX.Tabs g.tabs H2 ∧ (∀ a ps, F2 a ≠ some (.tbl ps)) ∧ PostG g (Rep X.K g) W0 [] F2 H2 (.ok (.tup [.str "refused", .str c])) Q2)) (Wout := W0)
      rfl rfl Sg.nd rfl hle ⟨hgM, by decide, .inl hmM⟩ tk0 (fun W' pn xe tk _ => ?_) (fun a oe cls e pn hz hf => pss_one (ps_ret ?_))), ?_⟩
    · refine ⟨fun pins2 s2 σ2 H2 D I2 hh => ?_⟩
      have hp := pe_deed (tb := fun E => tV X.K g (fun cls e _ H' => E cls e H') f) (p1 := p1) (p2 := p2) (k := k) (i := 0) I1 L hf hfn hfr (hbind _ _ _ _ _) tk (hr'.mono (by omega)) (fun A outer s H E hr2 => hbody A outer s H E f0 d hr2 lam_takes) rfl hvd (by decide) (by decide)
      exact (pss_one (ps_ret (pos := p3) hp)).run pins2 s2 σ2 H2 D I2 hh
    · refine ⟨fun pins2 s2 σ2 H2 Q2 I2 ⟨h1, ee, c, hc, ec, F2, hF1, hF2, hF3, hq⟩ => ?_⟩
      subst ee ec
      refine wpAny_Call_Name_kw (ld_glob I2 hgW hmW ?_ (by decide))
      have ha : PA ((cxOf (L2N.CX X.prog X.w) X.prog X.w X.K X.mg X.base ["deed", "e"] "_law_told" sg gt cdv X.A X.stack s' H1 L2.E0).suite a ((a, oe) :: pn)) [.Name "e" p6] (tCons (tVar 1) tNil) := pa_cons (pe_var rfl (.inl hle)) pa_nil
      refine PySem.W.callWith_K (h₀ := X.base) I2.ok.mod.kin hkW (thn (ha.run p7 pins2 s2 σ2 H2 (fun vs H3 => vs = [.ref a] ∧ H3 = H2) I2 ⟨_, h1, rfl, rfl⟩) fun us s3 ⟨vs, H3, I3, r3, ev, eH⟩ => ⟨I3.kIn, ?_⟩) (by rfl) (by rfl)
      subst ev eH
      cases r3 with
      | cons ra rn =>
        cases rn
        cases ra
        obtain ⟨g1, g2, g3, g4, g5⟩ := I3.pin (a, oe) (List.mem_append_left _ List.mem_cons_self)
        obtain ⟨vs3, hv3⟩ := hf
        have rm := hr'.mono (show kw ≤ j - 1 by omega)
        show wpAny _ _ (call (.ref fW) [.ref a]) _ _ _
        refine wpAny_call (codeAny_mono (hword c hc _ _ s3 H3 Q2 a oe F2 ⟨rm.dp, rm.un⟩ ⟨rfl, vs3, hv3, hz.2.2 vs3 hv3⟩ ⟨g1, g2, fun z => (List.mem_cons.mp (I3.stkSub _ z)).elim g3 g4, g5⟩ I3.env0 hz.zc ⟨vs3, hv3⟩ hF1 hF2 hF3 hq) fun r s4 hq4 => ?_)
        cases r with
        | error e => exact hq4.elim
        | ok fl =>
          cases fl with
          | ret u => exact I3.after hq4
          | next => exact hq4.elim
          | brk => exact hq4.elim
          | cont => exact hq4.elim
    · refine ⟨rfl, hco, ρ, F, st1, ?_⟩
      cases ef : f ρ with
      | stuck => rw [ef] at post1; exact post1.elim
      | ok v => rw [ef] at post1; exact post1
      | exc c =>
        rw [ef] at post1
        unfold toldR at post1
        by_cases hc : c ∈ names
        · dsimp only at post1
          rw [if_pos hc] at post1
          intro H2 F2 x2
          exact ⟨true, hexm c hc, fun _ a ha => ⟨rfl, rfl, c, hc, rfl, F2, x2.sub, x2.tabs st1.tabs, fun a ps e => st1.nt a ps (x2.nt a ps e), PostG.ext x2 post1⟩, fun z => by cases z⟩
        · dsimp only at post1
          rw [if_neg hc] at post1
          exact post1.elim
  refine wpAny_call (codeAny_mono rc fun r s2 hq => ?_)
  cases r with
  | error e =>
    obtain ⟨_, _, _, _, _, _, _, _, _, _, _, _, z⟩ := hq
    exact z.elim
  | ok fl =>
    cases fl with
    | ret u => exact I1.after hq
    | next => exact hq.elim
    | brk => exact hq.elim
    | cont => exact hq.elim
end
end VL

/-! VL11: what the written part says of the classes of errors; rules while an error is handled. -/
namespace VL
open PySem PySem.Spec PyProof.Rows L2 L2H HotX
structure ErrT (K : PySem.W.Frag) (mg : Str → Option Value) (g : Glob) (names alls : List Str) (made : Addr) : Prop where
  mg : ∀ n ∈ alls, mg n = some (.ref (g.cls n))
  exc : ∀ c ∈ names, ExcC K (g.cls c)
  kit : ∀ c ∈ names, ∀ n ∈ alls, PySem.W.kitOne K (.ref (g.cls c)) (.ref (g.cls n)) = some (decide (c = n))
  val : ∀ c ∈ names, PySem.W.kitOne K (.ref (g.cls c)) (.type "ValueError") = some true
  made : ∀ c ∈ names, PySem.W.exmOne K (.ref (g.cls c)) (.ref made) = some true
theorem roomH_hu {k : Nat} {A : Around} (r : RoomH k A) : A.units + 64 < cLine := by have := r.un; omega
theorem roomH_hu1 {k : Nat} {A : Around} (r : RoomH k A) : A.units + 1 < cLine := by have := r.un; omega
section
variable {X : Cx} {g : Glob} {W : WX}
theorem ve_isC (i : Nat) {names alls : List Str} {made : Addr} {x c n : Str} {p p1 p2 pos : Pos} {a : Addr} {oe : Obj} (T : ErrT X.K X.mg g names alls made) (hc : c ∈ names) (hz : Zc (.ref (g.cls c)) none oe) (hf : ∃ vs, oe.data = .fields vs) (hp : (a, oe) ∈ X.pn) (hm : X.mg "isinstance" = none) (hn : n ∈ alls)
    (hN : X.N[i]? = some x := by rfl) (hv : Vis X.env.scope x := by first | exact Or.inl rfl | exact Or.inr (Or.inl rfl) | exact Or.inr (Or.inr rfl)) (hd : (x == ("__debug__" : Str)) = false := by decide) (hcd : (x == ("__classdict__" : Str)) = false := by decide) (hg : Gl X "isinstance" := by rfl) (hgn : Gl X n := by rfl) (hdn : (n == ("__debug__" : Str)) = false := by decide)
    (he : starEach [.Name x p1, .Name n p2] X.env = (false, eval (.Name x p1) X.env) :: starEach [.Name n p2] X.env := by rfl) (he2 : starEach [.Name n p2] X.env = (false, eval (.Name n p2) X.env) :: starEach [] X.env := by rfl) (hpl : (backTo pos (starEach [.Name n p2] X.env)).any (·.1) = false := by rfl) :
    VE X g W (.Call (.Name "isinstance" p) [.Name x p1, .Name n p2] [] pos) (eIsE i a (decide (c = n))) :=
  ve_isE i (c := .ref (g.cls n)) (T.exc c hc) hz hf hp hm (pe_glob hgn (T.mg n hn) rfl hdn) (fun _ r => r) (T.kit c hc n hn) hN hv hd hcd hg he he2 hpl
theorem ve_isV (i : Nat) {names alls : List Str} {made : Addr} {x c : Str} {p p1 p2 pos : Pos} {a : Addr} {oe : Obj} (T : ErrT X.K X.mg g names alls made) (hc : c ∈ names) (hz : Zc (.ref (g.cls c)) none oe) (hf : ∃ vs, oe.data = .fields vs) (hp : (a, oe) ∈ X.pn) (hm : X.mg "isinstance" = none) (hmv : X.mg "ValueError" = none)
    (hN : X.N[i]? = some x := by rfl) (hv : Vis X.env.scope x := by first | exact Or.inl rfl | exact Or.inr (Or.inl rfl) | exact Or.inr (Or.inr rfl)) (hd : (x == ("__debug__" : Str)) = false := by decide) (hcd : (x == ("__classdict__" : Str)) = false := by decide) (hg : Gl X "isinstance" := by rfl) (hgn : Gl X "ValueError" := by rfl)
    (he : starEach [.Name x p1, .Name "ValueError" p2] X.env = (false, eval (.Name x p1) X.env) :: starEach [.Name "ValueError" p2] X.env := by rfl) (he2 : starEach [.Name "ValueError" p2] X.env = (false, eval (.Name "ValueError" p2) X.env) :: starEach [] X.env := by rfl) (hpl : (backTo pos (starEach [.Name "ValueError" p2] X.env)).any (·.1) = false := by rfl) :
    VE X g W (.Call (.Name "isinstance" p) [.Name x p1, .Name "ValueError" p2] [] pos) (eIsE i a true) :=
  ve_isE i (c := .ty "ValueError") (T.exc c hc) hz hf hp hm (pe_bltn (v := .ty "ValueError") hgn hmv (by decide +kernel) rfl (by decide) (by decide)) (fun _ r => r) (T.val c hc) hN hv hd hcd hg he he2 hpl
theorem vt_neH {k : Nat} {a b : Expr} {pos : Pos} {f h : Env → Res Dat} (hr : RoomH k X.A) (ha : VE X g W a f) (hb : VE X g W b h) : VT X g W (.Compare a [.NotEq] [b] pos) (eTest (eBin neD f h)) := vt_cmp (op_neD (roomH_hu hr)) opd_ne ha hb (nomark _)
theorem ve_ixH {k : Nat} {a b : Expr} {pos : Pos} {f h : Env → Res Dat} (hr : RoomH k X.A) (ha : VE X g W a f) (hb : VE X g W b h) (hs : PlainIx b := by exact fun _ _ => rfl) : VE X g W (.Subscript a b pos) (eBin ixD f h) := ve_ix (ix_any (roomH_hu1 hr)) opd_ix ha hb hs
end
/-- the table of the code objects that the def makes -/
structure LawTab (base : Heap) (mg : Str → Option Value) (g : Glob) (name : Str) (fd : FuncData) : Prop where
  ex : ∃ c P, LamX.TabB base mg c P ∧ fd.code = .ref c ∧ (P, name ++ ".<locals>." ++ "<lambda>") ∈ g.tabs ∧ ∀ p ∈ g.tabs, p.1 = P → p.2 = name ++ ".<locals>." ++ "<lambda>"
theorem LawTab.here {P : Program} {w : World} {K : PySem.W.Frag} {mg : Str → Option Value} {base : Heap} {g : Glob} {name : Str} {fd : FuncData} {CX : CXT} {N : List Str} {sc : Scope} {f : Addr} {cdv : Value} {A : Around} {outer : List PySem.Env} {s : Shared} {H : Hp} {E : XK} (T : LawTab base mg g name fd) (hcv : fd.code = cdv) : LamHere (cxOf CX P w K mg base N name sc f cdv A outer s H E) g := by
  obtain ⟨c, P, h1, h2, h3, h4⟩ := T.ex
  exact ⟨c, P, h1, hcv ▸ h2, h3, h4⟩
/-- the def that gets the error, by its mirror -/
theorem word_hot {P : Program} {w : World} {K : PySem.W.Frag} {mg : Str → Option Value} {base : Heap} {g : Glob} {k : Nat} {f : Addr} {fd : FuncData} {name : Str} {st : Stmt} {N : List Str} {x : Str} {b : Addr → Str → SEnv → SRes} {names : List Str}
    (F : Fun K name name st f fd) (S : FnScope N [x] (defScope st)) (hbind : ∀ (kV doc pm : Value) (an : Option Addr) (cdv ct : Value) (us : List Value), us.length = [x].length → bindArgs (PySem.W.fnOf name name (defArgs st) (defBody st) (defScope st) .none kV doc pm an cdv ct) ⟨us, []⟩ = pure ([x].zip us))
    (hb : ∀ (c : Str) (cdv : Value) (A : Around) (outer : List PySem.Env) (s : Shared) (H : Hp) (F0 : Hp) (a : Addr) (oe : Obj), c ∈ names → Zc (.ref (g.cls c)) none oe → (∃ vs, oe.data = .fields vs) → RoomH k (A.deeper (envOfC name (defScope st) s.heap.objs.size f cdv)) → HotC (cxH L2.CX0 P w K mg base N name (defScope st) f cdv A outer s H L2.E0 (a, oe)) →
      VSs (cxH L2.CX0 P w K mg base N name (defScope st) f cdv A outer s H L2.E0 (a, oe)) g W0 F0 H (defBody st) (b a c))
    (hres : ∀ c ∈ names, ∀ a, b a c (startS N.length [.opq a]) = .ret (.tup [.str "refused", .str c])) :
    WordOk P w K mg base g names (k + 1) f := by
  intro c hc A outer s H Q a oe F0 hr hot hpin e0 hz hf h1 h2 h3 h4
  have bd := F.binds hbind
  obtain ⟨oc, od, kV, doc, pm, an, cdv, ct, osl, rfl, lk, hcd⟩ := F.ex
  have KX : K.In s.heap := e0.mod.kin.keeps fun b o e => (e0.bs b o e).1
  refine run_hot lk hcd S hr hot hpin e0 (bd s [.ref a] KX rfl) fun hr' => ⟨_, hb c cdv A outer s H F0 a oe hc hz hf hr' ⟨(a, oe), hot, List.mem_singleton.mpr rfl⟩, startS N.length [.opq a], F0, start_rel h1 h2 h3 (.cons (.opq a) .nil), ?_⟩
  rw [hres c hc a]
  exact h4
end VL

/-! VL12: the end: from the mirror of the law to the walk. -/
namespace VL
open PySem PySem.Spec PyProof.Rows L2 L2H HotX
/-! ### facts of the written part -/
theorem kit_ref {K : PySem.W.Frag} {C D : Addr} {b : Bool} (hne : (C == D) = false) (hi : PySem.W.isClsIn K D = true) (ht : PySem.W.typeIn K (.ref D) = some (.type "type")) (hs : PySem.W.subIn K (.ref C) (.ref D) = some b) : PySem.W.kitOne K (.ref C) (.ref D) = some b := by
  have e2 : ((PySem.W.clsIn K D).isSome && PySem.W.typeIn K (.ref D) == some (.type "type")) = true := by
    have h2' : (PySem.W.clsIn K D).isSome = true := hi
    rw [h2', ht] <;> rfl
  have e1 : ((Value.ref C) == (Value.ref D)) = false := by
    cases q : ((Value.ref C) == (Value.ref D)) with
    | false => rfl
    | true =>
      have := beq_iff_eq.mp q
      cases this
      simp at hne
  unfold PySem.W.kitOne
  rw [e1, if_neg (by decide)]
  show (if ((PySem.W.clsIn K D).isSome && PySem.W.typeIn K (.ref D) == some (.type "type")) = true then PySem.W.subIn K (.ref C) (.ref D) else none) = _
  rw [if_pos e2]
  exact hs
theorem kit_self {K : PySem.W.Frag} {C : Addr} : PySem.W.kitOne K (.ref C) (.ref C) = some true := by
  unfold PySem.W.kitOne
  rw [if_pos (beq_iff_eq.mpr rfl)]
theorem kit_val {K : PySem.W.Frag} {C : Addr} (hs : PySem.W.subIn K (.ref C) (.type "ValueError") = some true) : PySem.W.kitOne K (.ref C) (.type "ValueError") = some true := by
  have e1 : ((Value.ref C) == (Value.type "ValueError")) = false := by
    cases q : ((Value.ref C) == (Value.type "ValueError")) with
    | false => rfl
    | true => cases beq_iff_eq.mp q
  unfold PySem.W.kitOne
  rw [e1, if_neg (by decide)]
  show (if PySem.W.kitMeta "ValueError" = true then PySem.W.subIn K (.ref C) (.type "ValueError") else none) = _
  rw [if_pos (by decide +kernel)]
  exact hs
theorem exm_ref {K : PySem.W.Frag} {C D : Addr} (hb : PySem.W.subIn K (.ref D) (.type "BaseException") = some true) (hi : PySem.W.isClsIn K D = true) (ht : PySem.W.typeIn K (.ref D) = some (.type "type")) (hs : PySem.W.subIn K (.ref C) (.ref D) = some true) : PySem.W.exmOne K (.ref C) (.ref D) = some true := by
  have e2 : ((PySem.W.clsIn K D).isSome && PySem.W.typeIn K (.ref D) == some (.type "type")) = true := by
    have h2' : (PySem.W.clsIn K D).isSome = true := hi
    rw [h2', ht] <;> rfl
  unfold PySem.W.exmOne
  rw [if_pos (by rw [hb]; rfl)]
  show (if ((PySem.W.clsIn K D).isSome && PySem.W.typeIn K (.ref D) == some (.type "type")) = true then PySem.W.subIn K (.ref C) (.ref D) else none) = _
  rw [if_pos e2]
  exact hs
/-- a code object, its table at P -/
def codeTab (vs : Array Value) (c P : Addr) : Bool := (match (vs[11]? : Option Value) with | some (.ref P') => P' == P | _ => false) &&
      (match vs.getD 18 .none with | .str _ _ => true | _ => false) && (match vs.getD 7 .none with | .int _ _ => true | _ => false) &&
      (match vs.getD 9 .none with | .bool _ => true | _ => false) && (match vs.getD 10 .none with | .int _ _ => true | _ => false) && c != P
theorem code_hd {K : PySem.W.Frag} {c P : Addr} {d : Option Addr} {vs : Array Value} {sl : Array (Option Value)} (l : K.lookup c = some ⟨.type "code", d, .fields vs, sl⟩) (h : codeTab vs c P = true) : PySem.W.codeHdIn K c P = true := by
  unfold PySem.W.codeHdIn
  rw [l]
  exact h
def clsOf (l : List (Str × Addr)) (n : Str) : Addr := (l.lookup n).getD 0
/-- what is frozen at the start: all but the tables -/
def noTb (H : Hp) : Hp := fun b => match H b with
  | some (.tbl _) => none
  | o => o
theorem noTb_sub (H : Hp) : Same (noTb H) H := fun a o e => by
  unfold noTb at e
  split at e
  · cases e
  · exact e
theorem noTb_nt (H : Hp) : ∀ a ps, noTb H a ≠ some (.tbl ps) := fun a ps e => by
  unfold noTb at e
  split at e
  · cases e
  · rename_i h; exact h ps e
theorem noTb_get {H : Hp} {a : Addr} {o : HO} (h : H a = some o) (n : ∀ ps, o ≠ .tbl ps) : noTb H a = some o := by
  unfold noTb
  rw [h]
  split
  · rename_i ps e; exact absurd (Option.some.inj e) (n ps)
  · rfl
theorem noTb_sq {K : PySem.W.Frag} {H : Hp} {a : Addr} {xs : List V} (h : SqL K H a xs) : SqL K (noTb H) a xs := by
  rcases h with (h | ⟨o, h⟩) | h
  · exact .inl (.inl (noTb_get h (by intro _ z; cases z)))
  · exact .inl (.inr ⟨o, noTb_get h (by intro _ z; cases z)⟩)
  · exact .inr h
theorem reps_ints' {K : PySem.W.Frag} {g : Glob} {F : Hp} : ∀ ns : List Int, Reps K g F (ns.map V.int) (ns.map Dat.int)
  | [] => .nil
  | n :: ns => .cons (.int n) (reps_ints' ns)
theorem law_sp {K : PySem.W.Frag} {g : Glob} {H : Hp} {a : Addr} {ns : List Int} {m : List Dat → Res Dat} (hT : LamX.Tabs g.tabs H) (hS : SqL K H a (ns.map V.int)) (hm : m [.rls (ns.map Dat.int)] = .ok (.bl true)) : spV K g m [.ref a] H (fun v _ => v = .bl true) fun _ _ _ => False := by
  refine ⟨noTb H, [.rls (ns.map Dat.int)], noTb_sub H, hT, noTb_nt H, .cons (.rls (noTb_sq hS) (reps_ints' ns)) .nil, ?_⟩
  rw [hm]
  intro v H' F' _ r
  cases r
  rfl
theorem tab_empty {H : Hp} {P : Addr} {q : Str} (h : H P = some (.tbl #[])) : LamX.Tabs [(P, q)] H := fun p hp => by
  cases List.mem_singleton.mp hp
  exact ⟨#[], h, trivial, fun _ _ z => by cases z⟩
theorem tabB_law {base : Heap} {mg : Str → Option Value} {g : Glob} {name : Str} {fd : FuncData} {c P : Addr} (hB : LamX.TabB base mg c P) (hc : fd.code = .ref c) (hg : g.tabs = [(P, name ++ ".<locals>." ++ "<lambda>")]) : LawTab base mg g name fd :=
  ⟨c, P, hB, hc, by rw [hg]; exact List.mem_singleton.mpr rfl, fun p hp _ => by rw [hg] at hp; cases List.mem_singleton.mp hp; rfl⟩
/-- the end of a law that makes lambdas -/
theorem walk_L {l : PySem.W.OpenLaw} {k : Nat} {q : Program} {loose : List Str} {XP : (Str → Option Value) → Heap → Prop} {YP : World → Heap → Prop} {d : DefRec} {K : Params → PySem.W.Frag} {m : List Dat → Res Dat}
    (hn : l.most = some 63) (hdf : d.params.defaults = []) (hk : k ≤ 50) (hrec : ((recsOf q).any fun e => e.name == d.name) = true) (hY : ∀ (w : World) (h : Heap), YP w h → (K w.params).In h)
    (F : ∀ (w : World) (mg : Str → Option Value) (fa : Addr) (h : Heap), (K w.params).In h → h.Ns mainGlobals mg → mg d.name = some (.ref fa) →
      ∃ (fd : FuncData) (cls : Str → Addr) (c P : Addr) (o : Obj), (K w.params).lookup fa = some o ∧ o.data = .func fd ∧ fd.code = .ref c ∧ PySem.W.codeHdIn (K w.params) c P = true ∧ (K w.params).lookup P = none ∧ (∀ (s : Shared) (u : Value), BindsTo s fd ⟨[u], []⟩ [("script", u)]) ∧
        ∀ base : Heap, (K w.params).In base → base.Ns mainGlobals mg → LamX.TabB base mg c P → FnOk l.prog w (K w.params) mg base (L2N.CX l.prog w) k fa fd ["script"] (spV (K w.params) ⟨cls, [(P, "law" ++ ".<locals>." ++ "<lambda>")]⟩ m))
    (hm : ∀ ns : List Int, ns.length ≤ 63 → (∀ z ∈ ns, Builtin.Int.intBits z ≤ 1048576) → m [.rls (ns.map Dat.int)] = .ok (.bl true)) :
    PySem.W.WalkO q loose XP YP l.row.toRowW d [] (fun f vs => PySem.call f vs) := by
  refine Att.attach_callB hn hdf fun w s₀ s₁ mg mb fa o pm cd doc a vs ns G Y ho hd hcd hmg hobj hints hlen hbits hg => ?_
  have KX := hY w _ Y
  obtain ⟨fd, cls, c, P, o1, k1, k2, k3, k4, k7, hb, hF⟩ := F w mg fa _ KX G.T.g hmg
  obtain ⟨dL, hm1, hn1⟩ := List.any_eq_true.mp hrec
  have hn2 : dL.name = d.name := beq_iff_eq.mp hn1
  obtain ⟨a', o', fd', c', P', h1, h2, h3, h4, h5, h6⟩ := G.T.tab dL hm1
  rw [hn2, hmg] at h1
  cases h1
  have g1 := KX _ _ k1
  rw [g1] at h2
  cases h2
  rw [k2] at h3
  cases h3
  rw [k3] at h4
  cases h4
  obtain ⟨⟨oc', vc', e1, _, e3, e4⟩, hP⟩ := h6
  have C := PySem.W.codeHd_of_K KX k4
  have C' := C
  obtain ⟨o2, us, _, _, _, _, _, _, _, r1, _, r3, r4, _⟩ := C'
  rw [r1] at e1
  cases e1
  rw [r3] at e3
  cases e3
  rw [r4] at e4
  cases e4
  have one : ∀ {p : Addr × Addr}, p ∈ [(c, P)] → p = (c, P) := fun h => List.mem_singleton.mp h
  exact LamX.law_callTs (cs := [(c, P)]) KX G.T.g G.T.b G.T.builtins G.T.nolimit hg (fun p hp => by rw [one hp]; exact hP) (fun p hp => by rw [one hp]; exact k7) (fun p hp => by rw [one hp]; exact C) G.T.bmain hobj hints (Nat.le_trans hlen (by decide)) ⟨rfl, by show (1 + claimMargin) + 3 * k + 5 < recursionLimit; unfold claimMargin recursionLimit; omega, by show _ + 16 * k + 200 < _; exact Nat.lt_of_le_of_lt (Nat.add_le_add_right (Nat.add_le_add_left (Nat.mul_le_mul_left 16 hk) _) 200) (by decide)⟩
    (fun base h1 h2 h3 => hF base h1 h2 (h3 _ (List.mem_singleton.mpr rfl))) hb (fun H hH hS => law_sp (tab_empty (hH _ (List.mem_singleton.mpr rfl))) hS (hm ns hlen hbits)) fun H e s' z => by
      obtain ⟨_, _, _, _, _, _, _, _, _, _, _, _, z⟩ := z
      exact z.elim
end VL

/-! VL13: reckoning with mirrors; no program here. -/
namespace VL
open PySem PySem.Spec PyProof.Rows L2

/-! ### equations -/
section
variable {ρ : Env} {f h l : Env → Res Dat} {d e : Dat} {n : Nat}
@[simp] theorem eVar_zero {r : Env} : eVar 0 (some d :: r) = .ok d := Eq.trans rfl rfl
@[simp] theorem eVar_succ {o : Option Dat} {r : Env} : eVar (n + 1) (o :: r) = eVar n r := Eq.trans rfl rfl
@[simp] theorem eC_eq : eC d ρ = .ok d := Eq.trans rfl rfl
@[simp] theorem eBin_eq {op : Dat → Dat → Res Dat} : eBin op f h ρ = (f ρ).bind fun a => (h ρ).bind fun b => op a b := Eq.trans rfl rfl
@[simp] theorem eUn_eq {op : Dat → Res Dat} : eUn op f ρ = (f ρ).bind op := Eq.trans rfl rfl
@[simp] theorem eTest_eq : eTest f ρ = (f ρ).bind toB := Eq.trans rfl rfl
@[simp] theorem toB_bl {b : Bool} : toB (.bl b) = .ok b := Eq.trans rfl rfl
@[simp] theorem eIf_eq {c : Env → Res Bool} : eIf c f h ρ = (c ρ).bind fun b => if b = true then f ρ else h ρ := Eq.trans rfl rfl
@[simp] theorem eAnd_eq : eAnd f h ρ = (f ρ).bind fun a => (toB a).bind fun b => if b = true then h ρ else .ok (.bl false) := Eq.trans rfl rfl
@[simp] theorem eOr_eq : eOr f h ρ = (f ρ).bind fun a => (toB a).bind fun b => if b = true then .ok (.bl true) else h ρ := Eq.trans rfl rfl
@[simp] theorem eNot_eq : eNot f ρ = (f ρ).bind fun a => (toB a).bind fun b => .ok (.bl (!b)) := Eq.trans rfl rfl
@[simp] theorem bAnd_eq {a b : Env → Res Bool} : bAnd a b ρ = (a ρ).bind fun k => if k = true then b ρ else .ok false := Eq.trans rfl rfl
@[simp] theorem bOr_eq {a b : Env → Res Bool} : bOr a b ρ = (a ρ).bind fun k => if k = true then .ok true else b ρ := Eq.trans rfl rfl
@[simp] theorem bNot_eq {a : Env → Res Bool} : bNot a ρ = (a ρ).bind fun k => .ok (!k) := Eq.trans rfl rfl
@[simp] theorem aNil_eq : aNil ρ = .ok [] := Eq.trans rfl rfl
@[simp] theorem aCons_eq {as : Env → Res (List Dat)} : aCons f as ρ = (f ρ).bind fun a => (as ρ).bind fun b => .ok (a :: b) := Eq.trans rfl rfl
@[simp] theorem eCall_eq {m : List Dat → Res Dat} {as : Env → Res (List Dat)} : eCall m as ρ = (as ρ).bind m := Eq.trans rfl rfl
@[simp] theorem eTold_eq {names : List Str} : eTold names f ρ = toldR names (f ρ) := Eq.trans rfl rfl
@[simp] theorem toldR_ok {names : List Str} : toldR names (.ok d) = .ok d := Eq.trans rfl rfl
@[simp] theorem eChain_eq {o1 o2 : Dat → Dat → Res Dat} : eChain o1 o2 f h l ρ = (f ρ).bind fun a => (h ρ).bind fun b => (o1 a b).bind fun u => (toB u).bind fun k => if k = true then (l ρ).bind fun c => o2 b c else .ok (.bl false) := Eq.trans rfl rfl
@[simp] theorem iArg_eq {k : List Dat → Res (List Dat)} {as : Env → Res (List Dat)} : iArg k as ρ = (as ρ).bind k := Eq.trans rfl rfl
@[simp] theorem iSeq_eq : iSeq f ρ = (f ρ).bind seqD := Eq.trans rfl rfl
@[simp] theorem bYes_eq : bYes ρ = .ok true := Eq.trans rfl rfl
@[simp] theorem oNone_eq : oNone ρ = .ok none := Eq.trans rfl rfl
@[simp] theorem oSome_eq : oSome f ρ = (f ρ).bind toI := Eq.trans rfl rfl
@[simp] theorem toI_int {i : Int} : toI (.int i) = .ok (some i) := Eq.trans rfl rfl
@[simp] theorem eSl_eq {a b : Env → Res (Option Int)} : eSl f a b ρ = (f ρ).bind fun x => (a ρ).bind fun lo => (b ρ).bind fun hi => slD x lo hi := Eq.trans rfl rfl
end
@[simp] theorem eLst_def {as : Env → Res (List Dat)} {ρ : Env} : eLst as ρ = (as ρ).bind fun ds => if ds.length ≤ big then .ok (.lst ds) else .stuck := Eq.trans rfl rfl
@[simp] theorem eTup_def {as : Env → Res (List Dat)} {ρ : Env} : eTup as ρ = (as ρ).bind fun ds => if ds.length ≤ big then .ok (.tup ds) else .stuck := Eq.trans rfl rfl
theorem le_big {n : Nat} (h : n ≤ 1000) : n ≤ big := Nat.le_trans h (by decide)
@[simp] theorem le_big_t {n : Nat} (h : n ≤ 1000) : (n ≤ big) = True := eq_true (le_big h)
theorem eLst_eq {as : Env → Res (List Dat)} {ρ : Env} {ds : List Dat} (h : as ρ = .ok ds) (hl : ds.length ≤ big) : eLst as ρ = .ok (.lst ds) := by
  unfold eLst; rw [h]; show (if ds.length ≤ big then _ else _) = _; rw [if_pos hl]
theorem eTup_eq {as : Env → Res (List Dat)} {ρ : Env} {ds : List Dat} (h : as ρ = .ok ds) (hl : ds.length ≤ big) : eTup as ρ = .ok (.tup ds) := by
  unfold eTup; rw [h]; show (if ds.length ≤ big then _ else _) = _; rw [if_pos hl]
section
variable {i j : Int}
@[simp] theorem addD_int : addD (.int i) (.int j) = .ok (.int (i + j)) := Eq.trans rfl rfl
@[simp] theorem subD_int : subD (.int i) (.int j) = .ok (.int (i - j)) := Eq.trans rfl rfl
theorem mulD_int (h : mulOk i j = true) : mulD (.int i) (.int j) = .ok (.int (i * j)) := if_pos h
theorem mulOk_r (h1 : -18446744073709551616 < j) (h2 : j < 18446744073709551616) : mulOk i j = true := by
  simp only [mulOk, Bool.or_eq_true, Bool.and_eq_true, decide_eq_true_eq]
  first | exact .inl (.inr ⟨h1, h2⟩) | exact .inl (.inl ⟨h1, h2⟩) | exact .inr ⟨h1, h2⟩
theorem mulOk_l (h1 : -18446744073709551616 < i) (h2 : i < 18446744073709551616) : mulOk i j = true := by
  simp only [mulOk, Bool.or_eq_true, Bool.and_eq_true, decide_eq_true_eq]
  first | exact .inl (.inr ⟨h1, h2⟩) | exact .inl (.inl ⟨h1, h2⟩) | exact .inr ⟨h1, h2⟩
theorem mulOk_w (h1 : i.natAbs < 1606938044258990275541962092341162602522202993782792835301376) (h2 : j.natAbs < 1606938044258990275541962092341162602522202993782792835301376) : mulOk i j = true := by
  simp only [mulOk, Bool.or_eq_true, Bool.and_eq_true, decide_eq_true_eq]
  first | exact .inl (.inr ⟨h1, h2⟩) | exact .inl (.inl ⟨h1, h2⟩) | exact .inr ⟨h1, h2⟩
theorem mulD_r (h1 : -18446744073709551616 < j) (h2 : j < 18446744073709551616) : mulD (.int i) (.int j) = .ok (.int (i * j)) := mulD_int (mulOk_r h1 h2)
theorem mulD_l (h1 : -18446744073709551616 < i) (h2 : i < 18446744073709551616) : mulD (.int i) (.int j) = .ok (.int (i * j)) := mulD_int (mulOk_l h1 h2)
theorem modD_int (h : 0 < j) : modD (.int i) (.int j) = .ok (.int (i % j)) := if_pos h
theorem fdivD_int (h : 0 < j) (h2 : j < 18446744073709551616) : fdivD (.int i) (.int j) = .ok (.int (i / j)) := if_pos ⟨h, Int.lt_trans h2 (by decide)⟩
@[simp] theorem ltD_int : ltD (.int i) (.int j) = .ok (.bl (decide (i < j))) := Eq.trans rfl rfl
@[simp] theorem leD_int : leD (.int i) (.int j) = .ok (.bl (decide (i ≤ j))) := Eq.trans rfl rfl
@[simp] theorem gtD_int : gtD (.int i) (.int j) = .ok (.bl (decide (i > j))) := Eq.trans rfl rfl
@[simp] theorem geD_int : geD (.int i) (.int j) = .ok (.bl (decide (i ≥ j))) := Eq.trans rfl rfl
@[simp] theorem eqD_int : eqD (.int i) (.int j) = .ok (.bl (i == j)) := Eq.trans rfl rfl
@[simp] theorem neD_int : neD (.int i) (.int j) = .ok (.bl (!(i == j))) := Eq.trans rfl rfl
theorem rng1_int (h : -4611686018427387904 ≤ j) (h2 : j < 4611686018427387904) : rng1D [.int j] = .ok (rangeL 0 j) := if_pos ⟨h, h2⟩
theorem rng2_int (h : -4611686018427387904 ≤ i) (h2 : i < 4611686018427387904) (h3 : -4611686018427387904 ≤ j) (h4 : j < 4611686018427387904) : rng2D [.int i, .int j] = .ok (rangeL i j) := if_pos ⟨h, h2, h3, h4⟩
@[simp] theorem lenD_lst {xs : List Dat} : lenD [.lst xs] = .ok (.int xs.length) := Eq.trans rfl rfl
@[simp] theorem lenD_rls {xs : List Dat} : lenD [.rls xs] = .ok (.int xs.length) := Eq.trans rfl rfl
@[simp] theorem lenD_tup {xs : List Dat} : lenD [.tup xs] = .ok (.int xs.length) := Eq.trans rfl rfl
@[simp] theorem minD_int : minD [.int i, .int j] = .ok (.int (if j < i then j else i)) := Eq.trans rfl rfl
@[simp] theorem maxD_int : maxD [.int i, .int j] = .ok (.int (if j > i then j else i)) := Eq.trans rfl rfl
end
theorem intsD_map : ∀ ns : List Int, intsD (ns.map Dat.int) = some ns
  | [] => rfl
  | n :: ns => by show (intsD (ns.map Dat.int)).map (n :: ·) = _; rw [intsD_map ns]; rfl
theorem strsD_map : ∀ ns : List Str, strsD (ns.map Dat.str) = some ns
  | [] => rfl
  | n :: ns => by show (strsD (ns.map Dat.str)).map (n :: ·) = _; rw [strsD_map ns]; rfl
theorem sumD_ints (ns : List Int) : sumD [.lst (ns.map Dat.int)] = .ok (.int ns.sum) := by
  show (match intsD (ns.map Dat.int) with | some ns => Res.ok (Dat.int ns.sum) | none => Res.stuck) = _
  rw [intsD_map]
theorem iArg_of {k : List Dat → Res (List Dat)} {as : Env → Res (List Dat)} {ρ : Env} {ds xs : List Dat} (h : as ρ = .ok ds) (h2 : k ds = .ok xs) : iArg k as ρ = .ok xs := by
  rw [iArg_eq, h, Res.bind_ok, h2]
theorem call1 {m : List Dat → Res Dat} {F : Env → Res Dat} {ρ : Env} {a d : Dat} (h1 : F ρ = .ok a) (h : m [a] = .ok d) : eCall m (aCons F aNil) ρ = .ok d := by
  rw [eCall_eq, aCons_eq, h1, Res.bind_ok, aNil_eq, Res.bind_ok, Res.bind_ok, h]
theorem call2 {m : List Dat → Res Dat} {F G : Env → Res Dat} {ρ : Env} {a b d : Dat} (h1 : F ρ = .ok a) (h2 : G ρ = .ok b) (h : m [a, b] = .ok d) : eCall m (aCons F (aCons G aNil)) ρ = .ok d := by
  rw [eCall_eq, aCons_eq, h1, Res.bind_ok, aCons_eq, h2, Res.bind_ok, aNil_eq, Res.bind_ok, Res.bind_ok, Res.bind_ok, h]
theorem call3 {m : List Dat → Res Dat} {F G I : Env → Res Dat} {ρ : Env} {a b c d : Dat} (h1 : F ρ = .ok a) (h2 : G ρ = .ok b) (h3 : I ρ = .ok c) (h : m [a, b, c] = .ok d) : eCall m (aCons F (aCons G (aCons I aNil))) ρ = .ok d := by
  rw [eCall_eq, aCons_eq, h1, Res.bind_ok, aCons_eq, h2, Res.bind_ok, aCons_eq, h3, Res.bind_ok, aNil_eq, Res.bind_ok, Res.bind_ok, Res.bind_ok, Res.bind_ok, h]
theorem call4 {m : List Dat → Res Dat} {F G I J : Env → Res Dat} {ρ : Env} {a b c e d : Dat} (h1 : F ρ = .ok a) (h2 : G ρ = .ok b) (h3 : I ρ = .ok c) (h4 : J ρ = .ok e) (h : m [a, b, c, e] = .ok d) : eCall m (aCons F (aCons G (aCons I (aCons J aNil)))) ρ = .ok d := by
  rw [eCall_eq, aCons_eq, h1, Res.bind_ok, aCons_eq, h2, Res.bind_ok, aCons_eq, h3, Res.bind_ok, aCons_eq, h4, Res.bind_ok, aNil_eq, Res.bind_ok, Res.bind_ok, Res.bind_ok, Res.bind_ok, Res.bind_ok, h]
/-! ### x[i] -/
theorem atI_of {α : Type} {xs : List α} {i : Int} {x : α} (h0 : 0 ≤ i) (h : xs[i.toNat]? = some x) : atI xs i = some x := by
  have hl : i.toNat < xs.length := (List.getElem?_eq_some_iff.mp h).1
  unfold atI ixN
  rw [if_pos h0, if_pos (by omega)]
  exact h
theorem ixD_lst {xs : List Dat} {i : Int} {d : Dat} (h0 : 0 ≤ i) (h : xs[i.toNat]? = some d) : ixD (.lst xs) (.int i) = .ok d := by
  show (match atI xs i with | some d => Res.ok d | none => Res.stuck) = _
  rw [atI_of h0 h]
theorem ixD_rls {xs : List Dat} {i : Int} {d : Dat} (h0 : 0 ≤ i) (h : xs[i.toNat]? = some d) : ixD (.rls xs) (.int i) = .ok d := by
  show (match atI xs i with | some d => Res.ok d | none => Res.stuck) = _
  rw [atI_of h0 h]
theorem ixD_tup {xs : List Dat} {i : Int} {d : Dat} (h0 : 0 ≤ i) (h : xs[i.toNat]? = some d) : ixD (.tup xs) (.int i) = .ok d := by
  show (match atI xs i with | some d => Res.ok d | none => Res.stuck) = _
  rw [atI_of h0 h]
theorem ixD_str {z : Str} {i : Int} {c : Nat} (hz : z.length ≤ big) (h0 : 0 ≤ i) (h : z.cps.toList[i.toNat]? = some c) : ixD (.str z) (.int i) = .ok (.str ⟨#[c]⟩) := by
  show (if z.length ≤ big then match atI z.cps.toList i with | some c => Res.ok (Dat.str ⟨#[c]⟩) | none => Res.stuck else .stuck) = _
  rw [if_pos hz, atI_of h0 h]
/-! ### == of a thing and itself -/
def sameD (d : Dat) : Bool := match toPy d with
  | some x => SeqAt.shaped x
  | none => false
mutual
theorem eqv_refl0 : ∀ d : PyData, PyData.canLay0 d = true → PyData.eqv d d = true
  | .none, _ => rfl
  | .bool b, _ => by simp [PyData.eqv]
  | .int i, _ => by simp [PyData.eqv]
  | .str x, _ => by simp [PyData.eqv]
  | .list xs, h => by rw [PyData.eqv]; exact eqvAll_refl0 xs h
  | .tuple xs, h => by rw [PyData.eqv]; exact eqvAll_refl0 xs h
  | .dict _, h => nomatch h
theorem eqvAll_refl0 : ∀ xs : List PyData, PyData.canLayAll0 xs = true → PyData.eqvAll xs xs = true
  | [], _ => rfl
  | x :: xs, h => by
    have h' : PyData.canLay0 x = true ∧ PyData.canLayAll0 xs = true := by simpa [PyData.canLayAll0] using h
    show (PyData.eqv x x && PyData.eqvAll xs xs) = true
    rw [eqv_refl0 x h'.1, eqvAll_refl0 xs h'.2]; rfl
end
theorem eqB_self {d : Dat} (h : sameD d = true) : eqB d d = some true := by
  unfold sameD at h
  cases e : toPy d with
  | none => rw [e] at h; cases h
  | some x =>
    rw [e] at h
    have h' : SeqAt.shaped x = true := h
    unfold eqB
    rw [e]
    show (if (SeqAt.shaped x && SeqAt.shaped x) = true then some (PyData.eqv x x) else none) = _
    rw [h', if_pos (by rfl), eqv_refl0 x (SeqAt.canLay_of_shaped h')]
theorem neD_self {d : Dat} (h : sameD d = true) : neD d d = .ok (.bl false) := by unfold neD; rw [eqB_self h]; rfl
theorem eqD_self {d : Dat} (h : sameD d = true) : eqD d d = .ok (.bl true) := by unfold eqD; rw [eqB_self h]
theorem ne_self {F G : Env → Res Dat} {ρ : Env} {d : Dat} (h1 : F ρ = .ok d) (h2 : G ρ = .ok d) (hd : sameD d = true) : eTest (eBin neD F G) ρ = .ok false := by
  rw [eTest_eq, eBin_eq, h1, Res.bind_ok, h2, Res.bind_ok, neD_self hd]; rfl
theorem toPys_ints : ∀ ns : List Int, toPys (ns.map Dat.int) = some (ns.map PyData.int)
  | [] => by simp [toPys]
  | n :: ns => by
    rw [List.map_cons, toPys, toPys_ints ns]
    rfl
theorem canLay_ints : ∀ ns : List Int, PyData.canLayAll0 (ns.map PyData.int) = true
  | [] => rfl
  | n :: ns => by show (PyData.canLay0 (.int n) && PyData.canLayAll0 (ns.map PyData.int)) = true; rw [canLay_ints ns]; rfl
theorem depth_ints : ∀ ns : List Int, PyData.depthAll (ns.map PyData.int) = 0
  | [] => rfl
  | n :: ns => by show max (PyData.depth (.int n)) (PyData.depthAll (ns.map PyData.int)) = 0; rw [depth_ints ns]; rfl
theorem shaped_ints (ns : List Int) : SeqAt.shaped (.list (ns.map PyData.int)) = true := by
  show (PyData.canLayAll0 (ns.map PyData.int) && decide (PyData.depthAll (ns.map PyData.int) + 1 ≤ 64)) = true
  rw [canLay_ints, depth_ints]; rfl
theorem sameD_ints (ns : List Int) : sameD (.lst (ns.map Dat.int)) = true := by
  unfold sameD
  show (match (toPys (ns.map Dat.int)).map PyData.list with | some x => SeqAt.shaped x | none => false) = true
  rw [toPys_ints]
  exact shaped_ints ns
theorem sameD_str {z : Str} (h : z.cps.all (· < 0x110000) = true) : sameD (.str z) = true := by
  show (PyData.canLay0 (.str z) && true) = true
  rw [Bool.and_true]; exact h
theorem eqD_rls_nil (ns : List Int) : eqD (.rls (ns.map Dat.int)) (.lst []) = .ok (.bl (ns.isEmpty)) := by
  have : eqB (.rls (ns.map Dat.int)) (.lst []) = some ns.isEmpty := by
    unfold eqB
    show (match (toPys (ns.map Dat.int)).map PyData.list, (toPys []).map PyData.list with | some x, some y => (if (SeqAt.shaped x && SeqAt.shaped y) = true then some (PyData.eqv x y) else none) | _, _ => none) = _
    rw [toPys_ints, show toPys [] = some [] by simp [toPys]]
    show (if (SeqAt.shaped (.list (ns.map PyData.int)) && SeqAt.shaped (.list [])) = true then some (PyData.eqv (.list (ns.map PyData.int)) (.list [])) else none) = _
    rw [shaped_ints, if_pos (by decide)]
    cases ns <;> rfl
  unfold eqD; rw [this]

theorem len_of {F : Env → Res Dat} {ρ : Env} {xs : List Dat} (h : F ρ = .ok (.lst xs)) : eCall lenD (aCons F aNil) ρ = .ok (.int xs.length) := by
  show ((F ρ).bind fun a => Res.ok [a]).bind lenD = _
  rw [h]; rfl
theorem gt_len {F : Env → Res Dat} {ρ : Env} {xs : List Dat} (h : F ρ = .ok (.lst xs)) : eTest (eBin gtD (eCall lenD (aCons F aNil)) (eC (.int 0))) ρ = .ok (decide ((xs.length : Int) > 0)) := by
  rw [eTest_eq, eBin_eq, len_of h]; rfl
theorem sum_of {F : Env → Res Dat} {ρ : Env} {ns : List Int} (h : F ρ = .ok (.lst (ns.map Dat.int))) : eCall sumD (aCons F aNil) ρ = .ok (.int ns.sum) := by
  show ((F ρ).bind fun a => Res.ok [a]).bind sumD = _
  rw [h]; exact sumD_ints ns
/-! ### statements -/
section
variable {ρ : SEnv} {a b : SEnv → SRes} {js : List Nat}
def SRes.thn (r : SRes) (b : SEnv → SRes) : SRes := match r with
  | .next ρ' => b ρ'
  | r => r
@[simp] theorem sSeq_eq : sSeq a b ρ = (a ρ).thn b := Eq.trans rfl rfl
theorem sSeq_step {ρ' : SEnv} (h : a ρ = .next ρ') : sSeq a b ρ = b ρ' := by show (a ρ).thn b = _; rw [h]; rfl
@[simp] theorem thn_next : (SRes.next ρ).thn b = b ρ := Eq.trans rfl rfl
@[simp] theorem thn_ret {d : Dat} : (SRes.ret d).thn b = .ret d := Eq.trans rfl rfl
@[simp] theorem thn_exc {c : Str} : (SRes.exc c).thn b = .exc c := Eq.trans rfl rfl
@[simp] theorem thn_stuck : SRes.stuck.thn b = .stuck := Eq.trans rfl rfl
theorem frzF_nil : ∀ (ρ : SEnv) (n : Nat), frzF [] n ρ = ρ
  | [], _ => rfl
  | none :: r, n => by show none :: frzF [] (n + 1) r = _; rw [frzF_nil]
  | some (.frz d) :: r, n => by show some (.frz d) :: frzF [] (n + 1) r = _; rw [frzF_nil]
  | some (.own d) :: r, n => by show (if n ∈ ([] : List Nat) then some (Slot.frz (.lst d)) else some (.own d)) :: frzF [] (n + 1) r = _; rw [frzF_nil, if_neg (by simp)]
@[simp] theorem freeze_nil : freeze [] ρ = ρ := frzF_nil ρ 0
@[simp] theorem after_nil {d : Dat} : after [] ρ d = ρ := by unfold after; split <;> simp
@[simp] theorem afterL_nil {ds : List Dat} : afterL [] ρ ds = ρ := by unfold afterL; split <;> simp
@[simp] theorem sIf_eq {c : Env → Res Bool} : sIf js c a b ρ = (c (view js ρ)).toS fun k => if k = true then a ρ else b ρ := Eq.trans rfl rfl
@[simp] theorem sSet_eq {i : Nat} {f : Env → Res Dat} : sSet i js f ρ = (f (view js ρ)).toS fun d => .next ((after js ρ d).set i (some (.frz d))) := Eq.trans rfl rfl
theorem sNext_eq' : sNext ρ = .next ρ := rfl
theorem sSet_step {i : Nat} {f : Env → Res Dat} {d : Dat} (h : f (view [] ρ) = .ok d) : sSeq (sSet i [] f) b ρ = b (ρ.set i (some (.frz d))) := by
  refine sSeq_step ?_
  show (f (view [] ρ)).toS _ = _
  rw [h]
  show SRes.next ((after [] ρ d).set i _) = _
  rw [after_nil]
theorem sIf_no {c : Env → Res Bool} (h : c (view [] ρ) = .ok false) : sSeq (sIf [] c a sNext) b ρ = b ρ := by
  refine sSeq_step ?_
  show (c (view [] ρ)).toS _ = _
  rw [h]; rfl
theorem sIf_end {c : Env → Res Bool} (h : c (view [] ρ) = .ok false) : sIf [] c a sNext ρ = .next ρ := by
  rw [sIf_eq, h, Res.toS_ok, if_neg (by decide), sNext_eq']
@[simp] theorem sRet_eq {f : Env → Res Dat} : sRet js f ρ = (f (view js ρ)).toS fun d => .ret d := Eq.trans rfl rfl
@[simp] theorem sExpr_eq {f : Env → Res Dat} : sExpr js f ρ = (f (view js ρ)).toS fun d => .next (after js ρ d) := Eq.trans rfl rfl
@[simp] theorem sNext_eq : sNext ρ = .next ρ := Eq.trans rfl rfl
@[simp] theorem sRaise_eq {c : Str} : sRaise c ρ = .exc c := Eq.trans rfl rfl
@[simp] theorem sFor_eq {f : Env → Res (List Dat)} {p : Pat} : sFor js f p b ρ = (f (view js ρ)).toS fun ds => forD p b ds (freeze js ρ) := Eq.trans rfl rfl
@[simp] theorem sWhile_eq {n : Nat} {c : Env → Res Bool} : sWhile n js c b ρ = whileD js c b n ρ := Eq.trans rfl rfl
@[simp] theorem sPar_eq {i j : Nat} {f : Env → Res (List Dat)} : sPar i j js f ρ = (f (view js ρ)).toS (parS i j js ρ) := Eq.trans rfl rfl
@[simp] theorem parS_eq {i j : Nat} {x y : Dat} : parS i j js ρ [x, y] = .next (((afterL js ρ [x, y]).set i (some (.frz x))).set j (some (.frz y))) := Eq.trans rfl rfl
@[simp] theorem view_eq : view js ρ = viewF js 0 ρ := Eq.trans rfl rfl
@[simp] theorem viewF_nil {n : Nat} : viewF js n [] = [] := Eq.trans rfl rfl
@[simp] theorem viewF_cons {n : Nat} {s : Option Slot} {r : SEnv} : viewF js n (s :: r) = viewAt js n s :: viewF js (n + 1) r := Eq.trans rfl rfl
@[simp] theorem viewAt_frz {n : Nat} {d : Dat} : viewAt js n (some (.frz d)) = some d := Eq.trans rfl rfl
@[simp] theorem retOf_ret {d : Dat} : retOf (.ret d) = .ok d := Eq.trans rfl rfl
@[simp] theorem retOf_exc {c : Str} : retOf (.exc c) = .exc c := Eq.trans rfl rfl
@[simp] theorem retOf_next : retOf (.next ρ) = .ok .non := Eq.trans rfl rfl
end
theorem defD_open {n l : Nat} {b : SEnv → SRes} {ds : List Dat} (h : ds.length = n) : defD n l b ds = retOf (b (startS l ds)) := if_pos h
theorem forD_inv {p : Pat} {b : SEnv → SRes} {ds : List Dat} {ρ : SEnv} (I : Nat → SEnv → Prop) (h0 : I 0 ρ) (hs : ∀ (i : Nat) (d : Dat) (ρ : SEnv), ds[i]? = some d → I i ρ → ∃ us ρ', bindU p d = some us ∧ b (setS ρ us) = .next ρ' ∧ I (i + 1) ρ') : ∃ ρ', forD p b ds ρ = .next ρ' ∧ I ds.length ρ' := by
  have key : ∀ (ds : List Dat) (n : Nat) (ρ : SEnv), I n ρ → (∀ (i : Nat) (d : Dat) (ρ : SEnv), ds[i]? = some d → I (n + i) ρ → ∃ us ρ', bindU p d = some us ∧ b (setS ρ us) = .next ρ' ∧ I (n + i + 1) ρ') → ∃ ρ', forD p b ds ρ = .next ρ' ∧ I (n + ds.length) ρ' := by
    intro ds
    induction ds with
    | nil => exact fun n ρ h _ => ⟨ρ, rfl, h⟩
    | cons d r ih =>
      intro n ρ h hs
      obtain ⟨us, ρ', e1, e2, e3⟩ := hs 0 d ρ rfl h
      obtain ⟨ρ2, e4, e5⟩ := ih (n + 1) ρ' e3 fun i d ρ hd hi => by
        have q := hs (i + 1) d ρ (by simpa using hd)
        rw [show n + (i + 1) = n + 1 + i by omega] at q
        exact q hi
      refine ⟨ρ2, ?_, by rw [List.length_cons, show n + (r.length + 1) = n + 1 + r.length by omega]; exact e5⟩
      show (match bindU p d with | none => SRes.stuck | some us => (b (setS ρ us)).turn (forD p b r)) = _
      rw [e1]
      show (b (setS ρ us)).turn (forD p b r) = _
      rw [e2]
      exact e4
  obtain ⟨ρ', h1, h2⟩ := key ds 0 ρ h0 fun i d ρ hd hi => by
    rw [Nat.zero_add] at hi ⊢
    exact hs i d ρ hd hi
  exact ⟨ρ', h1, by rw [Nat.zero_add] at h2; exact h2⟩
theorem whileD_inv {js : List Nat} {c : Env → Res Bool} {b : SEnv → SRes} (I : SEnv → Prop) (μ : SEnv → Nat) (hs : ∀ ρ, I ρ → ∃ k, c (view js ρ) = .ok k ∧ (k = true → ∃ ρ', b ρ = .next ρ' ∧ I ρ' ∧ μ ρ' < μ ρ)) : ∀ (n : Nat) (ρ : SEnv), I ρ → μ ρ < n → ∃ ρ', whileD js c b n ρ = .next ρ' ∧ I ρ' ∧ c (view js ρ') = .ok false
  | 0, _, _, h => absurd h (Nat.not_lt_zero _)
  | n + 1, ρ, hI, hn => by
    obtain ⟨k, e, q⟩ := hs ρ hI
    cases k with
    | false => exact ⟨ρ, by unfold whileD; rw [e]; rfl, hI, e⟩
    | true =>
      obtain ⟨ρ', e2, hI', hm⟩ := q rfl
      obtain ⟨ρ2, e3, e4, e5⟩ := whileD_inv I μ hs n ρ' hI' (by omega)
      refine ⟨ρ2, ?_, e4, e5⟩
      unfold whileD
      rw [e]
      show (b ρ).turn _ = _
      rw [e2]
      exact e3
/-! ### texts -/
theorem addD_str {a b : Str} (h : a.length + b.length ≤ big) : addD (.str a) (.str b) = .ok (.str (a ++ b)) := if_pos h
theorem addD_lst {a b : List Dat} (h : a.length + b.length ≤ big) : addD (.lst a) (.lst b) = .ok (.lst (a ++ b)) := if_pos h
abbrev Sx (l : List Nat) : Str := ⟨l.toArray⟩
theorem Sx_app (a b : List Nat) : Sx a ++ Sx b = Sx (a ++ b) := by
  show (⟨a.toArray ++ b.toArray⟩ : Str) = ⟨(a ++ b).toArray⟩
  rw [List.append_toArray]
theorem Sx_len (a : List Nat) : (Sx a).length = a.length := by simp [Sx, Str.length]
theorem Sx_ok {a : List Nat} (h : ∀ c ∈ a, c < 0x110000) : sameD (.str (Sx a)) = true := sameD_str (by
  show a.toArray.all (· < 0x110000) = true
  rw [← Array.all_toList]
  exact List.all_eq_true.mpr fun c hc => decide_eq_true (h c hc))
theorem joinL_nil : ∀ ys : List (List Nat), TL.joinL [] ys = ys.flatten
  | [] => rfl
  | [p] => by show p = p ++ []; rw [List.append_nil]
  | p :: q :: r => by
    show p ++ ([] ++ TL.joinL [] (q :: r)) = _
    rw [joinL_nil (q :: r), List.nil_append]; rfl
theorem join_nil (ys : List (List Nat)) : Txt.join (Sx []) (ys.map Sx) = Sx ys.flatten := by
  have := SX.join_S [] ys
  rw [joinL_nil] at this
  exact this
/-! ### comprehensions -/
theorem lcD_nm {i : Nat} {t : Env → Res Bool} {f : Env → Res Dat} {ρ : Env} {α : Type} {y : α → Dat} {x : α → Dat} {tb : α → Bool} : ∀ xs : List α, (∀ a ∈ xs, t (ρ.set i (some (x a))) = .ok (tb a) ∧ (tb a = true → f (ρ.set i (some (x a))) = .ok (y a))) → lcD (.nm i) t f ρ (xs.map x) = .ok ((xs.filter tb).map y)
  | [], _ => rfl
  | a :: xs, h => by
    obtain ⟨h1, h2⟩ := h a (by simp)
    have ih := lcD_nm xs fun a ha => h a (List.mem_cons_of_mem _ ha)
    show (nx (t (ρ.set i (some (x a))))).bind _ = _
    rw [h1]
    show (if tb a = true then (nx (f (ρ.set i (some (x a))))).bind fun y => (lcD (.nm i) t f ρ (xs.map x)).bind fun ys => .ok (y :: ys) else lcD (.nm i) t f ρ (xs.map x)) = _
    by_cases q : tb a = true
    · rw [if_pos q, h2 q, ih, List.filter_cons_of_pos q]; rfl
    · rw [if_neg q, ih, List.filter_cons_of_neg q]
theorem lcD_all {i : Nat} {f : Env → Res Dat} {ρ : Env} {α : Type} {y : α → Dat} {x : α → Dat} (xs : List α) (h : ∀ a ∈ xs, f (ρ.set i (some (x a))) = .ok (y a)) : lcD (.nm i) bYes f ρ (xs.map x) = .ok (xs.map y) := by
  have := lcD_nm (t := bYes) (tb := fun _ => true) xs fun a ha => ⟨rfl, fun _ => h a ha⟩
  rw [List.filter_eq_self.mpr (by simp)] at this
  exact this
theorem rangeL_eq (a b : Int) : rangeL a b = (List.range (b - a).toNat).map fun (i : Nat) => Dat.int (a + (i : Int)) := rfl
theorem eLc_eq {fi : Env → Res (List Dat)} {p : Pat} {t : Env → Res Bool} {f : Env → Res Dat} {vs : List Nat} {ρ : Env} {ds ys : List Dat} (h : fi ρ = .ok ds) (hl : ds.length ≤ big) (h2 : lcD p t f (wipeE ρ vs) ds = .ok ys) : eLc fi p t f vs ρ = .ok (.lst ys) := by
  unfold eLc
  rw [h]
  show (if ds.length ≤ big then (lcD p t f (wipeE ρ vs) ds).bind (fun ys => Res.ok (Dat.lst ys)) else .stuck) = _
  rw [if_pos hl, h2]; rfl
end VL

namespace K10
open PySem PySem.Spec PyProof.Rows L2 VL L2H HotX
abbrev Env := VL.Env

def nams : List Str := ["BadDraw"]
def alls : List Str := ["BadDraw", "BadPlan", "BadTest", "NoCell"]
def b_is_count : SEnv → SRes :=
  (sRet [] (eAnd (eCall isiD (aCons (eVar 0) (aCons (eC (.ty "int")) aNil))) (eAnd (eNot (eCall isiD (aCons (eVar 0) (aCons (eC (.ty "bool")) aNil)))) (eChain leD leD (eVar 1) (eVar 0) (eVar 2)))))
def m_is_count : List Dat → Res Dat := defD 3 3 b_is_count
theorem o_is_count (x0 x1 x2 : Dat) : m_is_count [x0, x1, x2] = retOf (b_is_count [some (.frz x0), some (.frz x1), some (.frz x2)] ) := Eq.trans (show m_is_count [x0, x1, x2] = retOf (b_is_count (startS 3 [x0, x1, x2])) from defD_open (n := 3) rfl) rfl
def b_need : SEnv → SRes :=
  (sIf [] (bNot (eTest (eVar 0))) (sRaise "BadDraw") sNext)
def m_need : List Dat → Res Dat := defD 1 1 b_need
theorem o_need (x0 : Dat) : m_need [x0] = retOf (b_need [some (.frz x0)] ) := Eq.trans (show m_need [x0] = retOf (b_need (startS 1 [x0])) from defD_open (n := 1) rfl) rfl
def b_draw : SEnv → SRes :=
  (sSeq (sSet 4 [] (eBin modD (eBin mulD (eBin addD (eBin addD (eBin addD (eBin addD (eBin mulD (eVar 0) (eC (.int 7919))) (eBin mulD (eVar 1) (eC (.int 104729)))) (eBin mulD (eVar 2) (eC (.int 1299709)))) (eBin mulD (eVar 3) (eC (.int 15485863)))) (eC (.int 1))) (eC (.int 48271))) (eC (.int 2147483647)))) (sRet [] (eBin modD (eBin addD (eBin addD (eBin mulD (eVar 4) (eVar 4)) (eBin mulD (eC (.int 7)) (eVar 4))) (eVar 3)) (eC (.int 2147483629)))))
def m_draw : List Dat → Res Dat := defD 4 5 b_draw
theorem o_draw (x0 x1 x2 x3 : Dat) : m_draw [x0, x1, x2, x3] = retOf (b_draw [some (.frz x0), some (.frz x1), some (.frz x2), some (.frz x3), none] ) := Eq.trans (show m_draw [x0, x1, x2, x3] = retOf (b_draw (startS 5 [x0, x1, x2, x3])) from defD_open (n := 4) rfl) rfl
def b_drawn : SEnv → SRes :=
  (sSeq (sExpr [] (eCall m_need (aCons (eCall m_is_count (aCons (eVar 0) (aCons (eC (.int 0)) (aCons (eC (.int 999999)) aNil)))) aNil))) (sSeq (sExpr [] (eCall m_need (aCons (eAnd (eCall m_is_count (aCons (eVar 1) (aCons (eC (.int 0)) (aCons (eC (.int 99)) aNil)))) (eAnd (eCall m_is_count (aCons (eVar 2) (aCons (eC (.int 0)) (aCons (eC (.int 99)) aNil)))) (eCall m_is_count (aCons (eVar 3) (aCons (eC (.int 0)) (aCons (eC (.int 99)) aNil)))))) aNil))) (sRet [] (eCall m_draw (aCons (eVar 0) (aCons (eVar 1) (aCons (eVar 2) (aCons (eVar 3) aNil))))))))
def m_drawn : List Dat → Res Dat := defD 4 4 b_drawn
theorem o_drawn (x0 x1 x2 x3 : Dat) : m_drawn [x0, x1, x2, x3] = retOf (b_drawn [some (.frz x0), some (.frz x1), some (.frz x2), some (.frz x3)] ) := Eq.trans (show m_drawn [x0, x1, x2, x3] = retOf (b_drawn (startS 4 [x0, x1, x2, x3])) from defD_open (n := 4) rfl) rfl
def b_word_of : SEnv → SRes :=
  (sSeq (sSet 3 [] (eBin addD (eVar 1) (eBin modD (eVar 0) (eBin addD (eBin subD (eVar 2) (eVar 1)) (eC (.int 1)))))) (sSeq (sSet 0 [] (eBin fdivD (eVar 0) (eBin addD (eBin subD (eVar 2) (eVar 1)) (eC (.int 1))))) (sSeq (sSet 4 [] (eC (.str ""))) (sSeq (sFor [] (iArg rng1D (aCons (eVar 3) aNil)) (.nm 5) (sSeq (sSet 4 [] (eBin addD (eVar 4) (eBin ixD (eC (.str "abcdefghijklmnopqrstuvwxyz")) (eBin modD (eVar 0) (eC (.int 26)))))) (sSet 0 [] (eBin fdivD (eVar 0) (eC (.int 26)))))) (sRet [] (eVar 4))))))
def m_word_of : List Dat → Res Dat := defD 3 6 b_word_of
theorem o_word_of (x0 x1 x2 : Dat) : m_word_of [x0, x1, x2] = retOf (b_word_of [some (.frz x0), some (.frz x1), some (.frz x2), none, none, none] ) := Eq.trans (show m_word_of [x0, x1, x2] = retOf (b_word_of (startS 6 [x0, x1, x2])) from defD_open (n := 3) rfl) rfl
def b_shared_of : SEnv → SRes :=
  (sSeq (sSet 2 [] (eBin modD (eVar 0) (eCall sumD (aCons (eVar 1) aNil)))) (sSeq (sSet 3 [] (eC (.int 0))) (sSeq (sWhile 4096 [] (eTest (eBin geD (eVar 2) (eBin ixD (eVar 1) (eVar 3)))) (sSeq (sSet 2 [] (eBin subD (eVar 2) (eBin ixD (eVar 1) (eVar 3)))) (sSet 3 [] (eBin addD (eVar 3) (eC (.int 1)))))) (sRet [] (eVar 3)))))
def m_shared_of : List Dat → Res Dat := defD 2 4 b_shared_of
theorem o_shared_of (x0 x1 : Dat) : m_shared_of [x0, x1] = retOf (b_shared_of [some (.frz x0), some (.frz x1), none, none] ) := Eq.trans (show m_shared_of [x0, x1] = retOf (b_shared_of (startS 4 [x0, x1])) from defD_open (n := 2) rfl) rfl
def b_divides_both : SEnv → SRes :=
  (sSeq (sWhile 4096 [] (eTest (eBin neD (eVar 1) (eC (.int 0)))) (sPar 0 1 [] (aCons (eVar 1) (aCons (eBin modD (eVar 0) (eVar 1)) aNil)))) (sRet [] (eVar 0)))
def m_divides_both : List Dat → Res Dat := defD 2 2 b_divides_both
theorem o_divides_both (x0 x1 : Dat) : m_divides_both [x0, x1] = retOf (b_divides_both [some (.frz x0), some (.frz x1)] ) := Eq.trans (show m_divides_both [x0, x1] = retOf (b_divides_both (startS 2 [x0, x1])) from defD_open (n := 2) rfl) rfl
def b_spread_of : SEnv → SRes :=
  (sSeq (sSet 3 [] (eBin addD (eC (.int 1)) (eBin modD (eBin fdivD (eVar 0) (eVar 2)) (eVar 2)))) (sSeq (sWhile 4096 [] (eTest (eBin neD (eCall m_divides_both (aCons (eVar 3) (aCons (eVar 2) aNil))) (eC (.int 1)))) (sSet 3 [] (eBin addD (eVar 3) (eC (.int 1))))) (sRet [] (eBin modD (eBin addD (eBin modD (eVar 0) (eVar 2)) (eBin mulD (eVar 1) (eVar 3))) (eVar 2)))))
def m_spread_of : List Dat → Res Dat := defD 3 4 b_spread_of
theorem o_spread_of (x0 x1 x2 : Dat) : m_spread_of [x0, x1, x2] = retOf (b_spread_of [some (.frz x0), some (.frz x1), some (.frz x2), none] ) := Eq.trans (show m_spread_of [x0, x1, x2] = retOf (b_spread_of (startS 4 [x0, x1, x2])) from defD_open (n := 3) rfl) rfl
def b_law_cell : SEnv → SRes :=
  (sSeq (sIf [] (eTest (eBin eqD (eVar 0) (eLst aNil))) (sRet [] (eBin mulD (eVar 1) (eC (.int 7919)))) sNext) (sRet [] (eBin addD (eBin ixD (eVar 0) (eBin modD (eVar 1) (eCall lenD (aCons (eVar 0) aNil)))) (eBin mulD (eBin fdivD (eVar 1) (eCall lenD (aCons (eVar 0) aNil))) (eC (.int 104729))))))
def m_law_cell : List Dat → Res Dat := defD 2 2 b_law_cell
theorem o_law_cell (x0 x1 : Dat) : m_law_cell [x0, x1] = retOf (b_law_cell [some (.frz x0), some (.frz x1)] ) := Eq.trans (show m_law_cell [x0, x1] = retOf (b_law_cell (startS 2 [x0, x1])) from defD_open (n := 2) rfl) rfl
def b_law_drawn : SEnv → SRes :=
  (sSeq (sSet 2 [] (eBin modD (eBin addD (eBin mulD (eVar 0) (eC (.int 6364136223846793005))) (eBin mulD (eBin addD (eVar 1) (eC (.int 1))) (eC (.int 1442695040888963407)))) (eC (.int 340282366920938463463374607431768211507)))) (sSeq (sSet 2 [] (eBin modD (eBin mulD (eVar 2) (eVar 2)) (eC (.int 340282366920938463463374607431768211297)))) (sSeq (sSet 2 [] (eBin mulD (eBin mulD (eBin addD (eBin modD (eVar 2) (eC (.int 18446744073709551557))) (eC (.int 1))) (eBin addD (eBin fdivD (eVar 2) (eC (.int 18446744073709551557))) (eC (.int 1)))) (eVar 2))) (sRet [] (eBin modD (eVar 2) (eC (.int 340282366920938463463374607431768211507)))))))
def m_law_drawn : List Dat → Res Dat := defD 2 3 b_law_drawn
theorem o_law_drawn (x0 x1 : Dat) : m_law_drawn [x0, x1] = retOf (b_law_drawn [some (.frz x0), some (.frz x1), none] ) := Eq.trans (show m_law_drawn [x0, x1] = retOf (b_law_drawn (startS 3 [x0, x1])) from defD_open (n := 2) rfl) rfl
def b_law_word (a : Addr) (c : Str) : SEnv → SRes :=
  (sSeq (sSet 1 [] (eLst (aCons (eIsE 0 a (decide (c = "BadDraw"))) (aCons (eIsE 0 a (decide (c = "BadPlan"))) (aCons (eIsE 0 a (decide (c = "BadTest"))) (aCons (eIsE 0 a (decide (c = "NoCell"))) aNil)))))) (sSeq (sIf [] (bOr (eTest (eBin neD (eCall sumD (aCons (eLc (iLst (eVar 1)) (.nm 2) bYes (eCall intD (aCons (eVar 2) aNil)) [2]) aNil)) (eC (.int 1)))) (bNot (eTest (eIsE 0 a true)))) (sRet [] (eTup (aCons (eC (.str "refused")) (aCons (eC (.str "other")) aNil)))) sNext) (sRet [] (eTup (aCons (eC (.str "refused")) (aCons (eBin ixD (eLst (aCons (eC (.str "BadDraw")) (aCons (eC (.str "BadPlan")) (aCons (eC (.str "BadTest")) (aCons (eC (.str "NoCell")) aNil))))) (eMth isLstD indexD (eVar 1) (eC (.bl true)))) aNil))))))
def b_law_draw : SEnv → SRes :=
  (sSeq (sSet 4 [] (eBin addD (eBin addD (eBin addD (eBin addD (eBin mulD (eC (.int 7919)) (eVar 0)) (eBin mulD (eC (.int 104729)) (eVar 1))) (eBin mulD (eC (.int 1299709)) (eVar 2))) (eBin mulD (eC (.int 15485863)) (eVar 3))) (eC (.int 1)))) (sSeq (sSet 4 [] (eBin modD (eBin mulD (eVar 4) (eC (.int 48271))) (eC (.int 2147483647)))) (sRet [] (eBin modD (eBin addD (eBin mulD (eVar 4) (eBin addD (eVar 4) (eC (.int 7)))) (eVar 3)) (eC (.int 2147483629))))))
def m_law_draw : List Dat → Res Dat := defD 4 5 b_law_draw
theorem o_law_draw (x0 x1 x2 x3 : Dat) : m_law_draw [x0, x1, x2, x3] = retOf (b_law_draw [some (.frz x0), some (.frz x1), some (.frz x2), some (.frz x3), none] ) := Eq.trans (show m_law_draw [x0, x1, x2, x3] = retOf (b_law_draw (startS 5 [x0, x1, x2, x3])) from defD_open (n := 4) rfl) rfl
def b_law_told_word : SEnv → SRes :=
  (sSeq (sSet 3 [] (eBin addD (eBin subD (eVar 2) (eVar 1)) (eC (.int 1)))) (sSeq (sPar 6 7 [] (aCons (eBin addD (eVar 1) (eBin modD (eVar 0) (eVar 3))) (aCons (eBin fdivD (eVar 0) (eVar 3)) aNil))) (sSeq (sOwn 4 [] aNil) (sSeq (sFor [] (iArg rng1D (aCons (eVar 6) aNil)) (.nm 5) (sSeq (sApp 4 [] (eBin ixD (eC (.str "abcdefghijklmnopqrstuvwxyz")) (eBin modD (eVar 7) (eC (.int 26))))) (sSet 7 [] (eBin fdivD (eVar 7) (eC (.int 26)))))) (sRet [4] (eMth isStrD joinD (eC (.str "")) (eVar 4)))))))
def m_law_told_word : List Dat → Res Dat := defD 3 8 b_law_told_word
theorem o_law_told_word (x0 x1 x2 : Dat) : m_law_told_word [x0, x1, x2] = retOf (b_law_told_word [some (.frz x0), some (.frz x1), some (.frz x2), none, none, none, none, none] ) := Eq.trans (show m_law_told_word [x0, x1, x2] = retOf (b_law_told_word (startS 8 [x0, x1, x2])) from defD_open (n := 3) rfl) rfl
def b_law_shared : SEnv → SRes :=
  (sSeq (sSet 2 [] (eBin modD (eVar 0) (eCall sumD (aCons (eVar 1) aNil)))) (sRet [] (eCall lenD (aCons (eLc (iArg rng2D (aCons (eC (.int 1)) (aCons (eCall lenD (aCons (eVar 1) aNil)) aNil))) (.nm 3) (eTest (eBin geD (eVar 2) (eCall sumD (aCons (eSl (eVar 1) oNone (oSome (eVar 3))) aNil)))) (eVar 3) [3]) aNil))))
def m_law_shared : List Dat → Res Dat := defD 2 4 b_law_shared
theorem o_law_shared (x0 x1 : Dat) : m_law_shared [x0, x1] = retOf (b_law_shared [some (.frz x0), some (.frz x1), none, none] ) := Eq.trans (show m_law_shared [x0, x1] = retOf (b_law_shared (startS 4 [x0, x1])) from defD_open (n := 2) rfl) rfl
def b_law_spread : SEnv → SRes :=
  (sSeq (sSet 3 [] (eBin addD (eC (.int 1)) (eBin modD (eBin fdivD (eVar 0) (eVar 2)) (eVar 2)))) (sSeq (sWhile 4096 [] (eTest (eBin gtD (eCall lenD (aCons (eLc (iArg rng2D (aCons (eC (.int 2)) (aCons (eBin addD (eVar 2) (eC (.int 1))) aNil))) (.nm 4) (bAnd (eTest (eBin eqD (eBin modD (eVar 2) (eVar 4)) (eC (.int 0)))) (eTest (eBin eqD (eBin modD (eVar 3) (eVar 4)) (eC (.int 0))))) (eVar 4) [4]) aNil)) (eC (.int 0)))) (sSet 3 [] (eBin addD (eVar 3) (eC (.int 1))))) (sRet [] (eBin modD (eBin addD (eBin modD (eVar 0) (eVar 2)) (eBin mulD (eVar 1) (eVar 3))) (eVar 2)))))
def m_law_spread : List Dat → Res Dat := defD 3 5 b_law_spread
theorem o_law_spread (x0 x1 x2 : Dat) : m_law_spread [x0, x1, x2] = retOf (b_law_spread [some (.frz x0), some (.frz x1), some (.frz x2), none, none] ) := Eq.trans (show m_law_spread [x0, x1, x2] = retOf (b_law_spread (startS 5 [x0, x1, x2])) from defD_open (n := 3) rfl) rfl
def L1_law : SEnv → SRes :=
  (sSeq (sOwn 12 [] (aCons (eTold nams (eCall m_drawn (aCons (eVar 9) (aCons (eC (.int 1)) (aCons (eC (.int 1)) (aCons (eC (.int 1)) aNil)))))) aNil)) (sSeq (sApp 12 [] (eTold nams (eCall m_drawn (aCons (eC (.int 1)) (aCons (eVar 9) (aCons (eC (.int 1)) (aCons (eC (.int 1)) aNil))))))) (sSeq (sApp 12 [] (eTold nams (eCall m_drawn (aCons (eC (.int 1)) (aCons (eC (.int 1)) (aCons (eVar 9) (aCons (eC (.int 1)) aNil))))))) (sSeq (sApp 12 [] (eTold nams (eCall m_drawn (aCons (eC (.int 1)) (aCons (eC (.int 1)) (aCons (eC (.int 1)) (aCons (eVar 9) aNil))))))) (sIf [12] (eTest (eBin neD (eVar 12) (eBin mulD (eLst (aCons (eTup (aCons (eC (.str "refused")) (aCons (eC (.str "BadDraw")) aNil))) aNil)) (eC (.int 4))))) (sRet [] (eC (.bl false))) sNext)))))
def L2_law : SEnv → SRes :=
  (sSeq (sSet 2 [] (eCall m_law_drawn (aCons (eCall m_law_cell (aCons (eVar 0) (aCons (eVar 1) aNil))) (aCons (eVar 1) aNil)))) (sSeq (sSet 3 [] (eLc (iArg rng1D (aCons (eC (.int 3)) aNil)) (.nm 13) bYes (eBin modD (eCall m_law_drawn (aCons (eVar 2) (aCons (eVar 13) aNil))) (eBin ixD (eLst (aCons (eC (.int 100)) (aCons (eC (.int 3)) (aCons (eC (.int 100)) aNil)))) (eVar 13))) [13])) (sSeq (sSet 4 [] (eBin ixD (eLst (aCons (eBin modD (eVar 2) (eC (.int 1000000))) (aCons (eC (.int 0)) (aCons (eC (.int 999999)) aNil)))) (eBin modD (eBin fdivD (eVar 2) (eBin powD (eC (.int 2)) (eC (.int 20)))) (eC (.int 3))))) (sSeq (sSet 5 [] (eCall m_law_draw (aCons (eVar 4) (aCons (eBin ixD (eVar 3) (eC (.int 0))) (aCons (eBin ixD (eVar 3) (eC (.int 1))) (aCons (eBin ixD (eVar 3) (eC (.int 2))) aNil)))))) (sSeq (sIf [] (eTest (eBin neD (eTold nams (eCall m_drawn (aCons (eVar 4) (aCons (eBin ixD (eVar 3) (eC (.int 0))) (aCons (eBin ixD (eVar 3) (eC (.int 1))) (aCons (eBin ixD (eVar 3) (eC (.int 2))) aNil)))))) (eVar 5))) (sRet [] (eC (.bl false))) sNext) (sSeq (sPar 10 11 [] (aCons (eBin addD (eC (.int 1)) (eBin modD (eVar 2) (eC (.int 3)))) (aCons (eBin addD (eC (.int 3)) (eBin modD (eBin fdivD (eVar 2) (eC (.int 8))) (eC (.int 4)))) aNil))) (sSeq (sIf [] (eTest (eBin neD (eCall m_word_of (aCons (eVar 5) (aCons (eVar 10) (aCons (eVar 11) aNil)))) (eCall m_law_told_word (aCons (eVar 5) (aCons (eVar 10) (aCons (eVar 11) aNil)))))) (sRet [] (eC (.bl false))) sNext) (sSeq (sSet 6 [] (eLc (iArg rng1D (aCons (eBin addD (eC (.int 1)) (eBin modD (eBin fdivD (eVar 2) (eC (.int 64))) (eC (.int 4)))) aNil)) (.nm 13) bYes (eBin addD (eC (.int 1)) (eBin modD (eCall m_law_drawn (aCons (eVar 2) (aCons (eBin addD (eC (.int 10)) (eVar 13)) aNil))) (eC (.int 9)))) [13])) (sSeq (sIf [] (eTest (eBin neD (eCall m_shared_of (aCons (eVar 5) (aCons (eVar 6) aNil))) (eCall m_law_shared (aCons (eVar 5) (aCons (eVar 6) aNil))))) (sRet [] (eC (.bl false))) sNext) (sSeq (sSet 7 [] (eBin ixD (eLst (aCons (eBin addD (eC (.int 1)) (eBin modD (eBin fdivD (eVar 2) (eC (.int 512))) (eC (.int 30)))) (aCons (eBin addD (eC (.int 1)) (eBin modD (eBin fdivD (eVar 2) (eC (.int 512))) (eC (.int 1999)))) aNil))) (eBin modD (eBin fdivD (eVar 2) (eBin powD (eC (.int 2)) (eC (.int 30)))) (eC (.int 2))))) (sSeq (sSet 8 [] (eLc (iArg rng2D (aCons (eC (.int 1)) (aCons (eBin addD (eCall minD (aCons (eVar 7) (aCons (eC (.int 20)) aNil))) (eC (.int 1))) aNil))) (.nm 14) bYes (eCall m_spread_of (aCons (eVar 5) (aCons (eVar 14) (aCons (eVar 7) aNil)))) [14])) (sSeq (sIf [] (eTest (eBin neD (eVar 8) (eLc (iArg rng2D (aCons (eC (.int 1)) (aCons (eBin addD (eCall minD (aCons (eVar 7) (aCons (eC (.int 20)) aNil))) (eC (.int 1))) aNil))) (.nm 14) bYes (eCall m_law_spread (aCons (eVar 5) (aCons (eVar 14) (aCons (eVar 7) aNil)))) [14]))) (sRet [] (eC (.bl false))) sNext) (sSeq (sIf [] (eTest (eBin neD (eUn lenSetD (eVar 8)) (eCall lenD (aCons (eVar 8) aNil)))) (sRet [] (eC (.bl false))) sNext) (sSeq (sFor [] (iSeq (eLst (aCons (eUn negD (eC (.int 1))) (aCons (eC .non) (aCons (eC (.bl true)) (aCons (eC (.str "1")) aNil)))))) (.nm 9) L1_law) (sSeq (sIf [] (eTest (eBin neD (eTold nams (eCall m_drawn (aCons (eC (.int 1000000)) (aCons (eC (.int 1)) (aCons (eC (.int 1)) (aCons (eC (.int 1)) aNil)))))) (eTup (aCons (eC (.str "refused")) (aCons (eC (.str "BadDraw")) aNil))))) (sRet [] (eC (.bl false))) sNext) (sIf [] (eTest (eBin neD (eTold nams (eCall m_drawn (aCons (eC (.int 5)) (aCons (eC (.int 1)) (aCons (eC (.int 1)) (aCons (eC (.int 100)) aNil)))))) (eTup (aCons (eC (.str "refused")) (aCons (eC (.str "BadDraw")) aNil))))) (sRet [] (eC (.bl false))) sNext))))))))))))))))
def b_law : SEnv → SRes :=
  (sSeq (sFor [] (iArg rng1D (aCons (eCall maxD (aCons (eC (.int 1)) (aCons (eCall minD (aCons (eC (.int 5)) (aCons (eCall lenD (aCons (eVar 0) aNil)) aNil))) aNil))) aNil)) (.nm 1) L2_law) (sRet [] (eC (.bl true))))
def m_law : List Dat → Res Dat := defD 1 15 b_law
theorem o_law (x0 : Dat) : m_law [x0] = retOf (b_law [some (.frz x0), none, none, none, none, none, none, none, none, none, none, none, none, none, none] ) := Eq.trans (show m_law [x0] = retOf (b_law (startS 15 [x0])) from defD_open (n := 1) rfl) rfl
end K10

namespace K10
open PySem PySem.Spec PyProof.Rows L2 VL
def drawF (s t c r : Int) : Int := (s * 7919 + t * 104729 + c * 1299709 + r * 15485863 + 1) * 48271 % 2147483647
def drawI (s t c r : Int) : Int := (drawF s t c r * drawF s t c r + 7 * drawF s t c r + r) % 2147483629
theorem drawF_bd (s t c r : Int) : 0 ≤ drawF s t c r ∧ drawF s t c r < 2147483647 := by unfold drawF; omega
theorem draw_eq (s t c r : Int) : m_draw [.int s, .int t, .int c, .int r] = .ok (.int (drawI s t c r)) := by
  rw [o_draw]
  have h := drawF_bd s t c r
  unfold b_draw
  simp (disch := omega) [mulD_r, modD_int, mulD_l]
  rfl
theorem count_eq (n lo hi : Int) : m_is_count [.int n, .int lo, .int hi] = .ok (.bl (decide (lo ≤ n) && decide (n ≤ hi))) := by
  rw [o_is_count]
  unfold b_is_count
  simp
  have e1 : isiD [.int n, .ty "int"] = .ok (.bl true) := rfl
  have e2 : isiD [.int n, .ty "bool"] = .ok (.bl false) := rfl
  rw [e1, e2]
  by_cases h : lo ≤ n <;> simp [h]
theorem need_t : m_need [.bl true] = .ok .non := rfl
theorem drawn_eq {s t c r : Int} (hs : 0 ≤ s ∧ s ≤ 999999) (ht : 0 ≤ t ∧ t ≤ 99) (hc : 0 ≤ c ∧ c ≤ 99) (hr : 0 ≤ r ∧ r ≤ 99) : m_drawn [.int s, .int t, .int c, .int r] = .ok (.int (drawI s t c r)) := by
  rw [o_drawn]
  unfold b_drawn
  simp [count_eq, hs, ht, hc, hr, need_t, draw_eq]
theorem law_draw_eq (s t c r : Int) : m_law_draw [.int s, .int t, .int c, .int r] = .ok (.int (drawI s t c r)) := by
  rw [o_law_draw]
  have h := drawF_bd s t c r
  have e : (7919 * s + 104729 * t + 1299709 * c + 15485863 * r + 1) * 48271 % 2147483647 = drawF s t c r := by unfold drawF; congr 2; omega
  unfold b_law_draw
  simp (disch := omega) [mulD_r, modD_int, mulD_l]
  rw [e]
  unfold drawI
  congr 1
  have : drawF s t c r * (drawF s t c r + 7) = drawF s t c r * drawF s t c r + 7 * drawF s t c r := by rw [Int.mul_add]; omega
  rw [this]
theorem drawI_bd (s t c r : Int) : 0 ≤ drawI s t c r ∧ drawI s t c r < 2147483629 := by unfold drawI; omega
theorem law_cell_ok (ns : List Int) (hn : ns.length ≤ 63) (k : Nat) : ∃ c, m_law_cell [.rls (ns.map Dat.int), .int (k : Int)] = .ok (.int c) := by
  rw [o_law_cell]
  unfold b_law_cell
  have q := eqD_rls_nil ns
  by_cases h : ns.isEmpty = true
  · rw [h] at q
    refine ⟨(k : Int) * 7919, ?_⟩
    simp (disch := omega) [q, mulD_r]
  · rw [Bool.eq_false_iff.mpr h] at q
    have hl : 0 < ns.length := by cases ns with | nil => simp at h | cons => simp
    have h1 := Int.emod_nonneg (k : Int) (show (ns.length : Int) ≠ 0 by omega)
    have h2 := Int.emod_lt_of_pos (k : Int) (show (0 : Int) < (ns.length : Int) by omega)
    have h3 : ((k : Int) % (ns.length : Int)).toNat < ns.length := by omega
    have hc : (ns.map Dat.int)[((k : Int) % (ns.length : Int)).toNat]? = some (.int ns[((k : Int) % (ns.length : Int)).toNat]) := by rw [List.getElem?_map, List.getElem?_eq_getElem h3]; rfl
    refine ⟨ns[((k : Int) % (ns.length : Int)).toNat] + (k : Int) / (ns.length : Int) * 104729, ?_⟩
    have hi := ixD_rls h1 hc
    simp (disch := omega) [q, modD_int, hi, fdivD_int, mulD_r]
def dr1 (c k : Int) : Int := (c * 6364136223846793005 + (k + 1) * 1442695040888963407) % 340282366920938463463374607431768211507
def dr2 (c k : Int) : Int := dr1 c k * dr1 c k % 340282366920938463463374607431768211297
def dr3 (c k : Int) : Int := (dr2 c k % 18446744073709551557 + 1) * (dr2 c k / 18446744073709551557 + 1)
def drI (c k : Int) : Int := dr3 c k * dr2 c k % 340282366920938463463374607431768211507
theorem drI_bd (c k : Int) : 0 ≤ drI c k ∧ drI c k < 340282366920938463463374607431768211507 := by unfold drI; omega
theorem law_drawn_eq (c k : Int) : m_law_drawn [.int c, .int k] = .ok (.int (drI c k)) := by
  rw [o_law_drawn]
  unfold b_law_drawn
  have e1 : (c * 6364136223846793005 + (k + 1) * 1442695040888963407) % 340282366920938463463374607431768211507 = dr1 c k := rfl
  have b1 : 0 ≤ dr1 c k ∧ dr1 c k < 340282366920938463463374607431768211507 := by unfold dr1; omega
  have e2 : dr1 c k * dr1 c k % 340282366920938463463374607431768211297 = dr2 c k := rfl
  have b2 : 0 ≤ dr2 c k ∧ dr2 c k < 340282366920938463463374607431768211297 := by unfold dr2; omega
  have e3 : (dr2 c k % 18446744073709551557 + 1) * (dr2 c k / 18446744073709551557 + 1) = dr3 c k := rfl
  have b5 : 0 ≤ dr3 c k ∧ dr3 c k ≤ 18446744073709551557 * 36893488147419103232 := by
    unfold dr3
    exact ⟨Int.mul_nonneg (by omega) (by omega), Int.mul_le_mul (by omega) (by omega) (by omega) (by omega)⟩
  have e4 : dr3 c k * dr2 c k % 340282366920938463463374607431768211507 = drI c k := rfl
  generalize dr1 c k = m1 at *
  generalize dr2 c k = m2 at *
  generalize dr3 c k = m3 at *
  have q1 : mulD (.int m1) (.int m1) = .ok (.int (m1 * m1)) := mulD_int (mulOk_w (by omega) (by omega))
  have q3 : mulD (.int m3) (.int m2) = .ok (.int (m3 * m2)) := mulD_int (mulOk_w (by omega) (by omega))
  simp (disch := omega) [mulD_r, modD_int, e1, q1, e2, fdivD_int, mulD_l, e3, q3, e4]

/-! ### words -/
def Lf : Nat → Int → Int
  | 0, l => l
  | i + 1, l => Lf i l / 26
def wP : Nat → Int → List Nat
  | 0, _ => []
  | i + 1, l => wP i l ++ [97 + (Lf i l % 26).toNat]
theorem wP_len : ∀ i l, (wP i l).length = i
  | 0, _ => rfl
  | i + 1, l => by show (wP i l ++ [_]).length = _; rw [List.length_append, wP_len i l]; rfl
theorem wP_ok : ∀ i l, ∀ c ∈ wP i l, c < 0x110000
  | 0, _, c, h => by cases h
  | i + 1, l, c, h => by
    have h' : c ∈ wP i l ++ [97 + (Lf i l % 26).toNat] := h
    rcases List.mem_append.mp h' with q | q
    · exact wP_ok i l c q
    · have := List.mem_singleton.mp q
      omega
theorem ixA (n : Int) : ixD (.str "abcdefghijklmnopqrstuvwxyz") (.int (n % 26)) = .ok (.str (Sx [97 + (n % 26).toNat])) := by
  have key : ∀ j : Nat, j < 26 → ("abcdefghijklmnopqrstuvwxyz" : Str).cps.toList[j]? = some (97 + j) := by decide +kernel
  exact ixD_str (by decide +kernel) (by omega) (key _ (by omega))
theorem word_of_eq {n lo hi : Int} (h1 : 1 ≤ lo) (h2 : lo ≤ hi) (h3 : hi ≤ 100) : m_word_of [.int n, .int lo, .int hi] = .ok (.str (Sx (wP (lo + n % (hi - lo + 1)).toNat (n / (hi - lo + 1))))) := by
  rw [o_word_of]
  unfold b_word_of
  have hm := Int.emod_nonneg n (show hi - lo + 1 ≠ 0 by omega)
  have hm2 := Int.emod_lt_of_pos n (show 0 < hi - lo + 1 by omega)
  generalize em : lo + n % (hi - lo + 1) = many
  generalize el : n / (hi - lo + 1) = l
  have hb : 0 ≤ many ∧ many ≤ 100 := by omega
  obtain ⟨ρ', e, I⟩ := forD_inv (p := .nm 5) (b := sSeq (sSet 4 [] (eBin addD (eVar 4) (eBin ixD (eC (.str "abcdefghijklmnopqrstuvwxyz")) (eBin modD (eVar 0) (eC (.int 26)))))) (sSet 0 [] (eBin fdivD (eVar 0) (eC (.int 26))))) (ds := rangeL 0 many)
    (ρ := [some (.frz (.int l)), some (.frz (.int lo)), some (.frz (.int hi)), some (.frz (.int many)), some (.frz (.str "")), none])
    (fun i ρ => i ≤ many.toNat → ∃ t, ρ = [some (.frz (.int (Lf i l))), some (.frz (.int lo)), some (.frz (.int hi)), some (.frz (.int many)), some (.frz (.str (Sx (wP i l)))), t]) (fun _ => ⟨none, rfl⟩) (fun i d ρ hd hI => by
      refine ⟨[(5, d)], ?_⟩
      have hj : i < many.toNat := by
        rw [rangeL_get] at hd
        by_cases q : i < (many - 0).toNat
        · omega
        · rw [if_neg q] at hd; cases hd
      obtain ⟨t, rfl⟩ := hI (by omega)
      refine ⟨[some (.frz (.int (Lf (i + 1) l))), some (.frz (.int lo)), some (.frz (.int hi)), some (.frz (.int many)), some (.frz (.str (Sx (wP (i + 1) l)))), some (.frz d)], rfl, ?_, fun _ => ⟨_, rfl⟩⟩
      have ha : addD (.str (Sx (wP i l))) (.str (Sx [97 + (Lf i l % 26).toNat])) = .ok (.str (Sx (wP (i + 1) l))) := by
        rw [addD_str (by rw [Sx_len, Sx_len, wP_len]; exact le_big (by simp; omega)), Sx_app]; rfl
      show (sSeq _ _ [some (.frz (.int (Lf i l))), some (.frz (.int lo)), some (.frz (.int hi)), some (.frz (.int many)), some (.frz (.str (Sx (wP i l)))), some (.frz d)]) = _
      simp (disch := omega) [modD_int, ixA, ha, fdivD_int]
      rfl)
  obtain ⟨t, rfl⟩ := I (by rw [rangeL_eq]; simp)
  have el : (rangeL 0 many).length = many.toNat := by rw [rangeL_eq]; simp
  rw [el] at e
  simp (disch := omega) [modD_int, fdivD_int, em, rng1_int]
  simp (disch := omega) [*]
theorem wP_join (i : Nat) (l : Int) : joinD (.str "") (.lst (((wP i l).map fun c => Sx [c]).map Dat.str)) = (if ((((wP i l).map fun c => Sx [c]).map Str.length).sum + ((wP i l).map fun c => Sx [c]).length * ("" : Str).length ≤ big) then .ok (.str (Sx (wP i l))) else .stuck) := by
  have e : Txt.join ("" : Str) ((wP i l).map fun c => Sx [c]) = Sx (wP i l) := by
    have := join_nil ((wP i l).map fun c => [c])
    rw [List.map_map] at this
    refine Eq.trans this ?_
    congr 1
    induction wP i l with
    | nil => rfl
    | cons c r ih => show [c] ++ (r.map fun c => [c]).flatten = c :: r; rw [ih]; rfl
  show (match strsD (((wP i l).map fun c => Sx [c]).map Dat.str) with | some ys => if (ys.map Str.length).sum + ys.length * ("" : Str).length ≤ big then Res.ok (Dat.str (Txt.join "" ys)) else .stuck | none => .stuck) = _
  rw [strsD_map]
  show (if (((wP i l).map fun c => Sx [c]).map Str.length).sum + ((wP i l).map fun c => Sx [c]).length * ("" : Str).length ≤ big then Res.ok (Dat.str (Txt.join "" ((wP i l).map fun c => Sx [c]))) else .stuck) = _
  rw [e]
theorem wP_sum (i : Nat) (l : Int) : (((wP i l).map fun c => Sx [c]).map Str.length).sum = i := by
  have : ∀ L : List Nat, ((L.map fun c => Sx [c]).map Str.length).sum = L.length := by
    intro L
    induction L with
    | nil => rfl
    | cons c r ih => rw [List.map_cons, List.map_cons, List.sum_cons, ih, Sx_len]; simp; omega
  rw [this, wP_len]
theorem told_word_eq {n lo hi : Int} (h1 : 1 ≤ lo) (h2 : lo ≤ hi) (h3 : hi ≤ 100) : m_law_told_word [.int n, .int lo, .int hi] = .ok (.str (Sx (wP (lo + n % (hi - lo + 1)).toNat (n / (hi - lo + 1))))) := by
  rw [o_law_told_word]
  unfold b_law_told_word
  have hm := Int.emod_nonneg n (show hi - lo + 1 ≠ 0 by omega)
  have hm2 := Int.emod_lt_of_pos n (show 0 < hi - lo + 1 by omega)
  generalize em : lo + n % (hi - lo + 1) = many
  generalize el : n / (hi - lo + 1) = l
  have hb : 0 ≤ many ∧ many ≤ 100 := by omega
  obtain ⟨ρ', e, I⟩ := forD_inv (p := .nm 5) (b := sSeq (sApp 4 [] (eBin ixD (eC (.str "abcdefghijklmnopqrstuvwxyz")) (eBin modD (eVar 7) (eC (.int 26))))) (sSet 7 [] (eBin fdivD (eVar 7) (eC (.int 26))))) (ds := rangeL 0 many)
    (ρ := [some (.frz (.int n)), some (.frz (.int lo)), some (.frz (.int hi)), some (.frz (.int (hi - lo + 1))), some (.own []), none, some (.frz (.int many)), some (.frz (.int l))])
    (fun i ρ => i ≤ many.toNat → ∃ t, ρ = [some (.frz (.int n)), some (.frz (.int lo)), some (.frz (.int hi)), some (.frz (.int (hi - lo + 1))), some (.own (((wP i l).map fun c => Sx [c]).map Dat.str)), t, some (.frz (.int many)), some (.frz (.int (Lf i l)))]) (fun _ => ⟨none, rfl⟩) (fun i d ρ hd hI => by
      refine ⟨[(5, d)], ?_⟩
      have hj : i < many.toNat := by
        rw [rangeL_get] at hd
        by_cases q : i < (many - 0).toNat
        · omega
        · rw [if_neg q] at hd; cases hd
      obtain ⟨t, rfl⟩ := hI (by omega)
      refine ⟨[some (.frz (.int n)), some (.frz (.int lo)), some (.frz (.int hi)), some (.frz (.int (hi - lo + 1))), some (.own (((wP (i + 1) l).map fun c => Sx [c]).map Dat.str)), some (.frz d), some (.frz (.int many)), some (.frz (.int (Lf (i + 1) l)))], rfl, ?_, fun _ => ⟨_, rfl⟩⟩
      have ha : sApp 4 [] (eBin ixD (eC (.str "abcdefghijklmnopqrstuvwxyz")) (eBin modD (eVar 7) (eC (.int 26)))) [some (.frz (.int n)), some (.frz (.int lo)), some (.frz (.int hi)), some (.frz (.int (hi - lo + 1))), some (.own (((wP i l).map fun c => Sx [c]).map Dat.str)), some (.frz d), some (.frz (.int many)), some (.frz (.int (Lf i l)))] =
          .next [some (.frz (.int n)), some (.frz (.int lo)), some (.frz (.int hi)), some (.frz (.int (hi - lo + 1))), some (.own (((wP (i + 1) l).map fun c => Sx [c]).map Dat.str)), some (.frz d), some (.frz (.int many)), some (.frz (.int (Lf i l)))] := by
        show (Res.toS (eBin ixD (eC (.str "abcdefghijklmnopqrstuvwxyz")) (eBin modD (eVar 7) (eC (.int 26))) [some (.int n), some (.int lo), some (.int hi), some (.int (hi - lo + 1)), none, some d, some (.int many), some (.int (Lf i l))]) _) = _
        simp (disch := omega) only [eBin_eq, eC_eq, eVar_zero, eVar_succ, Res.bind_ok, modD_int, ixA, Res.toS_ok, after_nil]
        show (if (((wP i l).map fun c => Sx [c]).map Dat.str).length < big then _ else _) = _
        rw [if_pos (by rw [List.length_map, List.length_map, wP_len]; exact Nat.lt_of_le_of_lt (show i ≤ 1000 by omega) (by decide))]
        show SRes.next [_, _, _, _, some (.own (((wP i l).map fun c => Sx [c]).map Dat.str ++ [Dat.str (Sx [97 + (Lf i l % 26).toNat])])), _, _, _] = _
        have : ((wP (i + 1) l).map fun c => Sx [c]).map Dat.str = ((wP i l).map fun c => Sx [c]).map Dat.str ++ [Dat.str (Sx [97 + (Lf i l % 26).toNat])] := by
          show (((wP i l ++ [97 + (Lf i l % 26).toNat]).map fun c => Sx [c]).map Dat.str) = _
          rw [List.map_append, List.map_append]; rfl
        rw [this]
      show (sSeq _ _ [some (.frz (.int n)), some (.frz (.int lo)), some (.frz (.int hi)), some (.frz (.int (hi - lo + 1))), some (.own (((wP i l).map fun c => Sx [c]).map Dat.str)), some (.frz d), some (.frz (.int many)), some (.frz (.int (Lf i l)))]) = _
      rw [sSeq_eq, ha]
      simp (disch := omega) [fdivD_int]
      rfl)
  obtain ⟨t, rfl⟩ := I (by rw [rangeL_eq]; simp)
  have el2 : (rangeL 0 many).length = many.toNat := by rw [rangeL_eq]; simp
  rw [el2] at e
  have ej : eMth isStrD joinD (eC (.str "")) (eVar 4) (view [4] [some (.frz (.int n)), some (.frz (.int lo)), some (.frz (.int hi)), some (.frz (.int (hi - lo + 1))), some (.own (((wP many.toNat l).map fun c => Sx [c]).map Dat.str)), t, some (.frz (.int many)), some (.frz (.int (Lf many.toNat l)))]) = .ok (.str (Sx (wP many.toNat l))) := by
    show joinD (.str "") (.lst (((wP many.toNat l).map fun c => Sx [c]).map Dat.str)) = _
    rw [wP_join, if_pos]
    rw [wP_sum]
    refine le_big ?_
    rw [show ("" : Str).length = 0 by decide +kernel]
    omega
  have es : sOwn 4 [] aNil [some (.frz (.int n)), some (.frz (.int lo)), some (.frz (.int hi)), some (.frz (.int (hi - lo + 1))), none, none, some (.frz (.int many)), some (.frz (.int l))] = .next [some (.frz (.int n)), some (.frz (.int lo)), some (.frz (.int hi)), some (.frz (.int (hi - lo + 1))), some (.own []), none, some (.frz (.int many)), some (.frz (.int l))] := rfl
  simp (disch := omega) only [sSeq_eq, sSet_eq, sPar_eq, view_eq, viewF_cons, viewF_nil, viewAt_frz, eBin_eq, eVar_zero, eVar_succ, eC_eq, Res.bind_ok, subD_int, addD_int, Res.toS_ok, after_nil, afterL_nil, List.set_cons_succ, List.set_cons_zero, thn_next, aCons_eq, aNil_eq, modD_int, fdivD_int, parS_eq, em, el]
  rw [es]
  have er : iArg rng1D (aCons (eVar 6) aNil) (view [] [some (.frz (.int n)), some (.frz (.int lo)), some (.frz (.int hi)), some (.frz (.int (hi - lo + 1))), some (.own []), none, some (.frz (.int many)), some (.frz (.int l))]) = .ok (rangeL 0 many) := rng1_int (by omega) (by omega)
  rw [thn_next, sSeq_eq, sFor_eq, er, Res.toS_ok, freeze_nil, e, thn_next, sRet_eq, ej]
  rfl

/-! ### shares -/
def pre (xs : List Int) (j : Nat) : Int := (xs.take j).sum
theorem pre_succ {xs : List Int} {j : Nat} {x : Int} (h : xs[j]? = some x) : pre xs (j + 1) = pre xs j + x := by
  obtain ⟨hl, e⟩ := List.getElem?_eq_some_iff.mp h
  unfold pre
  rw [List.take_succ, h]
  simp
theorem pre_mono {xs : List Int} (hp : ∀ x ∈ xs, 1 ≤ x) : ∀ (d j : Nat), pre xs j ≤ pre xs (j + d)
  | 0, j => Int.le_refl _
  | d + 1, j => by
    have ih := pre_mono hp d j
    by_cases h : j + d < xs.length
    · have := pre_succ (xs := xs) (j := j + d) (List.getElem?_eq_getElem h)
      have h1 := hp _ (List.getElem_mem h)
      show pre xs j ≤ pre xs (j + d + 1)
      omega
    · show pre xs j ≤ pre xs (j + d + 1)
      unfold pre at ih ⊢
      rw [List.take_of_length_le (show xs.length ≤ j + d + 1 by omega)]
      rw [List.take_of_length_le (show xs.length ≤ j + d by omega)] at ih
      exact ih
/-- the place j where left stands -/
def At (xs : List Int) (left : Int) (j : Nat) : Prop := j < xs.length ∧ pre xs j ≤ left ∧ left < pre xs (j + 1)
theorem shared_of_eq {n : Int} {xs : List Int} (hp : ∀ x ∈ xs, 1 ≤ x) (hl : xs ≠ []) (hx : xs.length ≤ 100) : ∃ j : Nat, At xs (n % xs.sum) j ∧ m_shared_of [.int n, .lst (xs.map Dat.int)] = .ok (.int (j : Int)) := by
  have hs : 0 < xs.sum := by
    have h1 := pre_mono hp (xs.length - 1) 1
    cases xs with
    | nil => exact absurd rfl hl
    | cons x r =>
      have : pre (x :: r) 1 = x := by simp [pre]
      have h2 := hp x (by simp)
      have h3 : pre (x :: r) (1 + ((x :: r).length - 1)) = (x :: r).sum := by unfold pre; rw [List.take_of_length_le (by simp; omega)]
      omega
  have b1 := Int.emod_nonneg n (show xs.sum ≠ 0 by omega)
  have b2 := Int.emod_lt_of_pos n hs
  generalize el : n % xs.sum = left at b1 b2 ⊢
  have key := whileD_inv (js := []) (c := eTest (eBin geD (eVar 2) (eBin ixD (eVar 1) (eVar 3)))) (b := sSeq (sSet 2 [] (eBin subD (eVar 2) (eBin ixD (eVar 1) (eVar 3)))) (sSet 3 [] (eBin addD (eVar 3) (eC (.int 1)))))
    (fun ρ => ∃ j : Nat, ρ = [some (.frz (.int n)), some (.frz (.lst (xs.map Dat.int))), some (.frz (.int (left - pre xs j))), some (.frz (.int (j : Int)))] ∧ j < xs.length ∧ pre xs j ≤ left)
    (fun (ρ : SEnv) => match ρ[3]? with | some (some (Slot.frz (Dat.int j))) => xs.length - j.toNat | _ => 0) (fun ρ ⟨j, e, hj, hle⟩ => by
      subst e
      have hg : (xs.map Dat.int)[(j : Int).toNat]? = some (.int xs[j]) := by rw [Int.toNat_natCast, List.getElem?_map, List.getElem?_eq_getElem hj]; rfl
      have hi := ixD_lst (show (0 : Int) ≤ (j : Int) by omega) hg
      refine ⟨decide (left - pre xs j ≥ xs[j]), by simp [hi], fun hk => ?_⟩
      have hk' := of_decide_eq_true hk
      have hps := pre_succ (xs := xs) (j := j) (List.getElem?_eq_getElem hj)
      have hlt : j + 1 < xs.length := by
        by_cases q : j + 1 < xs.length
        · exact q
        · have : pre xs (j + 1) = xs.sum := by unfold pre; rw [List.take_of_length_le (by omega)]
          omega
      refine ⟨[some (.frz (.int n)), some (.frz (.lst (xs.map Dat.int))), some (.frz (.int (left - pre xs (j + 1)))), some (.frz (.int ((j + 1 : Nat) : Int)))], ?_, ⟨j + 1, rfl, hlt, by omega⟩, ?_⟩
      · simp [hi]
        omega
      · show xs.length - ((j + 1 : Nat) : Int).toNat < xs.length - ((j : Nat) : Int).toNat
        omega)
  obtain ⟨ρ', e, ⟨j, rfl, hj, hle⟩, hc⟩ := key 4096 [some (.frz (.int n)), some (.frz (.lst (xs.map Dat.int))), some (.frz (.int left)), some (.frz (.int 0))] ⟨0, by simp [pre], by cases xs with | nil => exact absurd rfl hl | cons => simp, by simpa [pre] using b1⟩ (by show xs.length - (0 : Int).toNat < 4096; omega)
  have hg : (xs.map Dat.int)[(j : Int).toNat]? = some (.int xs[j]) := by rw [Int.toNat_natCast, List.getElem?_map, List.getElem?_eq_getElem hj]; rfl
  have hi := ixD_lst (show (0 : Int) ≤ (j : Int) by omega) hg
  refine ⟨j, ⟨hj, hle, ?_⟩, ?_⟩
  · simp [hi] at hc
    have hps := pre_succ (xs := xs) (j := j) (List.getElem?_eq_getElem hj)
    omega
  · rw [o_shared_of]
    unfold b_shared_of
    simp (disch := omega) [sumD_ints, modD_int, el]
    rw [e]
    simp
theorem filter_lt (m j : Nat) : ((List.range m).filter fun i => decide (i < j)).length = min m j := by
  induction m with
  | zero => simp
  | succ m ih =>
    rw [List.range_succ, List.filter_append, List.length_append, ih]
    by_cases h : m < j
    · simp [h]; omega
    · simp [h]; omega
theorem law_shared_eq {n : Int} {xs : List Int} {j : Nat} (hp : ∀ x ∈ xs, 1 ≤ x) (hx : xs.length ≤ 100) (hs : 0 < xs.sum) (h : At xs (n % xs.sum) j) : m_law_shared [.int n, .lst (xs.map Dat.int)] = .ok (.int (j : Int)) := by
  rw [o_law_shared]
  unfold b_law_shared
  generalize el : n % xs.sum = left at h
  obtain ⟨hj, h1, h2⟩ := h
  have hf : ∀ i : Nat, i < xs.length - 1 → (decide (left ≥ pre xs (1 + i)) = decide (i < j)) := fun i hi => by
    by_cases q : i < j
    · have := pre_mono hp (j - (1 + i)) (1 + i)
      rw [show 1 + i + (j - (1 + i)) = j by omega] at this
      rw [decide_eq_true q, decide_eq_true (by omega)]
    · have := pre_mono hp ((1 + i) - (j + 1)) (j + 1)
      rw [show j + 1 + ((1 + i) - (j + 1)) = 1 + i by omega] at this
      rw [decide_eq_false q, decide_eq_false (by omega)]
  have e : eLc (iArg rng2D (aCons (eC (.int 1)) (aCons (eCall lenD (aCons (eVar 1) aNil)) aNil))) (.nm 3) (eTest (eBin geD (eVar 2) (eCall sumD (aCons (eSl (eVar 1) oNone (oSome (eVar 3))) aNil)))) (eVar 3) [3] [some (.int n), some (.lst (xs.map Dat.int)), some (.int left), none] = .ok (.lst (((List.range (xs.length - 1)).filter fun i => decide (i < j)).map fun (i : Nat) => Dat.int (1 + (i : Int)))) := by
    refine eLc_eq (ds := rangeL 1 (xs.length : Int)) ?_ ?_ ?_
    · simp (disch := omega) [rng2_int]
    · rw [rangeL_eq, List.length_map, List.length_range]; exact le_big (by omega)
    · rw [rangeL_eq, show ((xs.length : Int) - 1).toNat = xs.length - 1 by omega]
      refine lcD_nm _ fun i hi => ?_
      have hi' : i < xs.length - 1 := List.mem_range.mp hi
      have hcut : slD (.lst (xs.map Dat.int)) none (some (1 + (i : Int))) = .ok (.lst ((xs.take (1 + i)).map Dat.int)) := by
        show Res.ok (Dat.lst (VL.cutD (xs.map Dat.int) none (some (1 + (i : Int))))) = _
        unfold VL.cutD
        rw [show (1 + (i : Int)) = ((1 + i : Nat) : Int) by omega, HT.sIx_nat]
        show Res.ok (Dat.lst (((xs.map Dat.int).drop 0).take (min (1 + i) (xs.map Dat.int).length - 0))) = _
        rw [List.drop_zero, List.length_map, Nat.sub_zero, Nat.min_eq_left (by omega), List.map_take]
      refine ⟨?_, fun _ => rfl⟩
      show (eTest _ [some (.int n), some (.lst (xs.map Dat.int)), some (.int left), some (.int (1 + (i : Int)))]) = _
      rw [← hf i hi']
      have hsum : eCall sumD (aCons (eSl (eVar 1) oNone (oSome (eVar 3))) aNil) [some (.int n), some (.lst (xs.map Dat.int)), some (.int left), some (.int (1 + (i : Int)))] = .ok (.int (pre xs (1 + i))) := sum_of hcut
      rw [eTest_eq, eBin_eq, hsum]
      rfl
  have e1 : eBin modD (eVar 0) (eCall sumD (aCons (eVar 1) aNil)) (view [] [some (.frz (.int n)), some (.frz (.lst (xs.map Dat.int))), none, none]) = .ok (.int left) := by
    rw [eBin_eq, sum_of (ns := xs) rfl]
    show modD (.int n) (.int xs.sum) = _
    rw [modD_int hs, el]
  rw [sSet_step e1]
  show retOf (Res.toS (eCall lenD _ [some (.int n), some (.lst (xs.map Dat.int)), some (.int left), none]) _) = _
  rw [len_of e]
  show Res.ok (Dat.int _) = _
  rw [List.length_map, filter_lt, show min (xs.length - 1) j = j by omega]

/-! ### spreads -/
theorem divides_eq (a b : Nat) (hb : b < 4096) : m_divides_both [.int (a : Int), .int (b : Int)] = .ok (.int (Nat.gcd a b : Nat)) := by
  obtain ⟨ρ', e, ⟨x, y, rfl, hg⟩, hc⟩ := whileD_inv (js := []) (c := eTest (eBin neD (eVar 1) (eC (.int 0)))) (b := sPar 0 1 [] (aCons (eVar 1) (aCons (eBin modD (eVar 0) (eVar 1)) aNil)))
    (fun ρ => ∃ x y : Nat, ρ = [some (.frz (.int (x : Int))), some (.frz (.int (y : Int)))] ∧ Nat.gcd x y = Nat.gcd a b)
    (fun (ρ : SEnv) => match ρ[1]? with | some (some (Slot.frz (Dat.int j))) => j.toNat | _ => 0) (fun ρ ⟨x, y, e, hg⟩ => by
      subst e
      refine ⟨!((y : Int) == 0), by simp, fun hk => ?_⟩
      have hy : 0 < y := by
        simp at hk
        omega
      refine ⟨[some (.frz (.int (y : Int))), some (.frz (.int ((x % y : Nat) : Int)))], ?_, ⟨y, x % y, rfl, ?_⟩, ?_⟩
      · simp (disch := omega) [modD_int]
      · rw [← hg, Nat.gcd_comm x y, Nat.gcd_rec y x, Nat.gcd_comm]
      · show ((x % y : Nat) : Int).toNat < ((y : Nat) : Int).toNat
        have := Nat.mod_lt x hy
        omega) 4096 [some (.frz (.int (a : Int))), some (.frz (.int (b : Int)))] ⟨a, b, rfl, rfl⟩ (by show ((b : Nat) : Int).toNat < 4096; omega)
  have hy : y = 0 := by
    simp at hc
    omega
  subst hy
  rw [o_divides_both]
  unfold b_divides_both
  rw [sSeq_eq, sWhile_eq, e]
  simp
  rw [← hg, Nat.gcd_zero_right]
def stepTo (P : Nat → Bool) : Nat → Nat → Nat
  | 0, s => s
  | n + 1, s => if P s = true then stepTo P n (s + 1) else s
theorem stepTo_spec (P : Nat → Bool) : ∀ (n s t : Nat), t < n → P (s + t) = false → P (stepTo P n s) = false ∧ s ≤ stepTo P n s ∧ stepTo P n s ≤ s + t
  | 0, _, _, h, _ => absurd h (Nat.not_lt_zero _)
  | n + 1, s, t, h, hp => by
    unfold stepTo
    by_cases q : P s = true
    · rw [if_pos q]
      cases t with
      | zero => rw [Nat.add_zero, q] at hp; cases hp
      | succ t =>
        obtain ⟨h1, h2, h3⟩ := stepTo_spec P n (s + 1) t (by omega) (by rw [show s + 1 + t = s + (t + 1) by omega]; exact hp)
        exact ⟨h1, by omega, by omega⟩
    · rw [if_neg q]
      exact ⟨Bool.eq_false_iff.mpr q, Nat.le_refl _, by omega⟩
theorem while_step {c : Env → Res Bool} {b : SEnv → SRes} (ρ : Nat → SEnv) (P : Nat → Bool) (M : Nat) (hc : ∀ s, 1 ≤ s → s ≤ M → c (view [] (ρ s)) = .ok (P s)) (hb : ∀ s, b (ρ s) = .next (ρ (s + 1))) : ∀ (n s t : Nat), 1 ≤ s → t < n → s + t ≤ M → P (s + t) = false → whileD [] c b n (ρ s) = .next (ρ (stepTo P n s))
  | 0, _, _, _, h, _, _ => absurd h (Nat.not_lt_zero _)
  | n + 1, s, t, h1, h, hM, hp => by
    unfold whileD stepTo
    rw [hc s h1 (by omega)]
    show (if P s = true then _ else _) = _
    by_cases q : P s = true
    · rw [if_pos q, if_pos q, hb s]
      cases t with
      | zero => rw [Nat.add_zero, q] at hp; cases hp
      | succ t => exact while_step ρ P M hc hb n (s + 1) t (by omega) (by omega) (by omega) (by rw [show s + 1 + t = s + (t + 1) by omega]; exact hp)
    · rw [if_neg q, if_neg q]
def cop (size : Nat) (s : Nat) : Bool := !(decide (Nat.gcd s size = 1))
theorem cop_end (size s0 : Nat) (h : s0 ≤ size) : cop size (s0 + (size + 1 - s0)) = false := by
  unfold cop
  rw [show s0 + (size + 1 - s0) = size + 1 by omega]
  simp
theorem cop_by {size s : Nat} (h0 : 0 < size) (hs : 1 ≤ s) : cop size s = decide (0 < ((List.range (size - 1)).filter fun (i : Nat) => decide (size % (2 + i) = 0) && decide (s % (2 + i) = 0)).length) := by
  unfold cop
  by_cases h : Nat.gcd s size = 1
  · rw [decide_eq_true h]
    symm
    refine decide_eq_false fun q => ?_
    obtain ⟨i, hi⟩ := List.exists_mem_of_length_pos q
    obtain ⟨hi1, hi2⟩ := List.mem_filter.mp hi
    simp only [Bool.and_eq_true, decide_eq_true_eq] at hi2
    have := Nat.dvd_gcd (Nat.dvd_of_mod_eq_zero hi2.2) (Nat.dvd_of_mod_eq_zero hi2.1)
    rw [h] at this
    have := Nat.le_of_dvd (by decide) this
    omega
  · rw [decide_eq_false h]
    symm
    refine decide_eq_true (List.length_pos_of_mem (a := Nat.gcd s size - 2) (List.mem_filter.mpr ⟨List.mem_range.mpr ?_, ?_⟩))
    · have h1 := Nat.gcd_le_right s h0
      have h2 := Nat.gcd_pos_of_pos_right s h0
      omega
    · have h2 := Nat.gcd_pos_of_pos_right s h0
      rw [show 2 + (Nat.gcd s size - 2) = Nat.gcd s size by omega]
      rw [Nat.mod_eq_zero_of_dvd (Nat.gcd_dvd_right s size), Nat.mod_eq_zero_of_dvd (Nat.gcd_dvd_left s size)]
      rfl
def step0 (n : Int) (size : Nat) : Nat := (1 + n / (size : Int) % (size : Int)).toNat
theorem step0_bd (n : Int) {size : Nat} (h0 : 0 < size) : 1 ≤ step0 n size ∧ step0 n size ≤ size ∧ ((step0 n size : Nat) : Int) = 1 + n / (size : Int) % (size : Int) := by
  have h1 := Int.emod_nonneg (n / (size : Int)) (show (size : Int) ≠ 0 by omega)
  have h2 := Int.emod_lt_of_pos (n / (size : Int)) (show (0 : Int) < (size : Int) by omega)
  unfold step0
  omega
def stepS (n : Int) (size : Nat) : Nat := stepTo (cop size) 4096 (step0 n size)
def spreadI (n : Int) (size : Nat) (row : Int) : Int := (n % (size : Int) + row * ((stepS n size : Nat) : Int)) % (size : Int)
theorem stepS_ok (n : Int) {size : Nat} (h0 : 0 < size) (h1 : size ≤ 2000) : Nat.gcd (stepS n size) size = 1 ∧ stepS n size ≤ 2001 := by
  obtain ⟨b1, b2, _⟩ := step0_bd n h0
  obtain ⟨q1, q2, q3⟩ := stepTo_spec (cop size) 4096 (step0 n size) (size + 1 - step0 n size) (by omega) (cop_end size _ b2)
  refine ⟨?_, by unfold stepS; omega⟩
  have q1' : cop size (stepS n size) = false := q1
  generalize stepS n size = z at q1'
  unfold cop at q1'
  simpa using q1'
theorem spread_of_eq (n : Int) {size : Nat} (row : Int) (h0 : 0 < size) (h1 : size ≤ 2000) (hr : 0 ≤ row ∧ row ≤ 1000) : m_spread_of [.int n, .int row, .int (size : Int)] = .ok (.int (spreadI n size row)) := by
  obtain ⟨b1, b2, b3⟩ := step0_bd n h0
  rw [o_spread_of]
  unfold b_spread_of
  have e := while_step (c := eTest (eBin neD (eCall m_divides_both (aCons (eVar 3) (aCons (eVar 2) aNil))) (eC (.int 1)))) (b := sSet 3 [] (eBin addD (eVar 3) (eC (.int 1)))) (fun s => [some (.frz (.int n)), some (.frz (.int row)), some (.frz (.int (size : Int))), some (.frz (.int (s : Int)))]) (cop size) (size + 1) (fun s h1 h2 => by
    have hd : eCall m_divides_both (aCons (eVar 3) (aCons (eVar 2) aNil)) [some (.int n), some (.int row), some (.int (size : Int)), some (.int (s : Int))] = .ok (.int (Nat.gcd s size : Nat)) := divides_eq s size (by omega)
    show eTest _ [some (.int n), some (.int row), some (.int (size : Int)), some (.int (s : Int))] = _
    rw [eTest_eq, eBin_eq, hd]
    show Res.ok (!(((Nat.gcd s size : Nat) : Int) == 1)) = .ok (!decide (Nat.gcd s size = 1))
    congr 2
    by_cases q : Nat.gcd s size = 1
    · rw [decide_eq_true q]; exact beq_iff_eq.mpr (by omega)
    · rw [decide_eq_false q]
      exact beq_eq_false_iff_ne.mpr (by omega)) (fun s => by simp) 4096 (step0 n size) (size + 1 - step0 n size) b1 (by omega) (by omega) (cop_end size _ b2)
  simp (disch := omega) only [sSeq_eq, sSet_eq, view_eq, viewF_cons, viewF_nil, viewAt_frz, eBin_eq, eVar_zero, eVar_succ, eC_eq, Res.bind_ok, fdivD_int, modD_int, addD_int, Res.toS_ok, after_nil, List.set_cons_succ, List.set_cons_zero, thn_next, sWhile_eq]
  rw [← b3, e]
  simp (disch := omega) only [thn_next, sRet_eq, view_eq, viewF_cons, viewF_nil, viewAt_frz, eBin_eq, eVar_zero, eVar_succ, Res.bind_ok, modD_int, mulD_l, addD_int, Res.toS_ok, retOf_ret]
  rfl
theorem law_spread_eq (n : Int) {size : Nat} (row : Int) (h0 : 0 < size) (h1 : size ≤ 2000) (hr : 0 ≤ row ∧ row ≤ 1000) : m_law_spread [.int n, .int row, .int (size : Int)] = .ok (.int (spreadI n size row)) := by
  obtain ⟨b1, b2, b3⟩ := step0_bd n h0
  rw [o_law_spread]
  unfold b_law_spread
  have e := while_step (c := eTest (eBin gtD (eCall lenD (aCons (eLc (iArg rng2D (aCons (eC (.int 2)) (aCons (eBin addD (eVar 2) (eC (.int 1))) aNil))) (.nm 4) (bAnd (eTest (eBin eqD (eBin modD (eVar 2) (eVar 4)) (eC (.int 0)))) (eTest (eBin eqD (eBin modD (eVar 3) (eVar 4)) (eC (.int 0))))) (eVar 4) [4]) aNil)) (eC (.int 0)))) (b := sSet 3 [] (eBin addD (eVar 3) (eC (.int 1)))) (fun s => [some (.frz (.int n)), some (.frz (.int row)), some (.frz (.int (size : Int))), some (.frz (.int (s : Int))), none]) (cop size) (size + 1) (fun s h1 h2 => by
    have e : eLc (iArg rng2D (aCons (eC (.int 2)) (aCons (eBin addD (eVar 2) (eC (.int 1))) aNil))) (.nm 4) (bAnd (eTest (eBin eqD (eBin modD (eVar 2) (eVar 4)) (eC (.int 0)))) (eTest (eBin eqD (eBin modD (eVar 3) (eVar 4)) (eC (.int 0))))) (eVar 4) [4] [some (.int n), some (.int row), some (.int (size : Int)), some (.int (s : Int)), none] = .ok (.lst (((List.range (size - 1)).filter fun (i : Nat) => decide (size % (2 + i) = 0) && decide (s % (2 + i) = 0)).map fun (i : Nat) => Dat.int (2 + (i : Int)))) := by
      refine eLc_eq (ds := rangeL 2 ((size : Int) + 1)) ?_ ?_ ?_
      · simp (disch := omega) [rng2_int]
      · rw [rangeL_eq, List.length_map, List.length_range]; exact Nat.le_trans (show _ ≤ 2000 by omega) (by decide)
      · rw [rangeL_eq, show ((size : Int) + 1 - 2).toNat = size - 1 by omega]
        refine lcD_nm _ fun i hi => ⟨?_, fun _ => rfl⟩
        show (bAnd _ _ [some (.int n), some (.int row), some (.int (size : Int)), some (.int (s : Int)), some (.int (2 + (i : Int)))]) = _
        have q : ∀ z : Nat, (((z : Int) % (2 + (i : Int)) == 0) : Bool) = decide (z % (2 + i) = 0) := fun z => by
          rw [show (2 + (i : Int)) = ((2 + i : Nat) : Int) by omega, ← Int.natCast_emod]
          by_cases q : z % (2 + i) = 0
          · rw [q]; rfl
          · rw [decide_eq_false q]; exact beq_eq_false_iff_ne.mpr (by omega)
        simp (disch := omega) only [bAnd_eq, eTest_eq, eBin_eq, eVar_zero, eVar_succ, eC_eq, Res.bind_ok, modD_int, eqD_int, toB_bl, q]
        by_cases z : size % (2 + i) = 0 <;> simp [z]
    show eTest _ [some (.int n), some (.int row), some (.int (size : Int)), some (.int (s : Int)), none] = _
    rw [gt_len e, cop_by h0 h1, List.length_map]
    by_cases z : 0 < ((List.range (size - 1)).filter fun (i : Nat) => decide (size % (2 + i) = 0) && decide (s % (2 + i) = 0)).length
    · rw [decide_eq_true z, decide_eq_true (by omega)]
    · rw [decide_eq_false z, decide_eq_false (by omega)]) (fun s => by simp) 4096 (step0 n size) (size + 1 - step0 n size) b1 (by omega) (by omega) (cop_end size _ b2)
  simp (disch := omega) only [sSeq_eq, sSet_eq, view_eq, viewF_cons, viewF_nil, viewAt_frz, eBin_eq, eVar_zero, eVar_succ, eC_eq, Res.bind_ok, fdivD_int, modD_int, addD_int, Res.toS_ok, after_nil, List.set_cons_succ, List.set_cons_zero, thn_next, sWhile_eq]
  rw [← b3, e]
  simp (disch := omega) only [thn_next, sRet_eq, view_eq, viewF_cons, viewF_nil, viewAt_frz, eBin_eq, eVar_zero, eVar_succ, Res.bind_ok, modD_int, mulD_l, addD_int, Res.toS_ok, retOf_ret]
  rfl
theorem spread_inj (n : Int) {size : Nat} (h0 : 0 < size) (h1 : size ≤ 2000) {r r' : Nat} (hr : r < r') (hr' : r' < r + size) : spreadI n size (r : Int) ≠ spreadI n size (r' : Int) := by
  intro e
  unfold spreadI at e
  obtain ⟨hg, _⟩ := stepS_ok n h0 h1
  generalize stepS n size = st at e hg
  have e2 := Int.emod_emod_of_dvd
  have hd : (size : Int) ∣ ((r' - r : Nat) : Int) * (st : Int) := by
    have h3 := Int.dvd_of_emod_eq_zero (Int.emod_eq_emod_iff_emod_sub_eq_zero.mp e.symm)
    have : (n % (size : Int) + (r' : Int) * (st : Int)) - (n % (size : Int) + (r : Int) * (st : Int)) = ((r' - r : Nat) : Int) * (st : Int) := by
      rw [show ((r' - r : Nat) : Int) = (r' : Int) - (r : Int) by omega, Int.sub_mul]
      omega
    rw [this] at h3
    exact h3
  have hd2 : size ∣ (r' - r) * st := by exact_mod_cast hd
  have hd3 : size ∣ r' - r := Nat.Coprime.dvd_of_dvd_mul_right (show Nat.Coprime size st by rw [Nat.Coprime, Nat.gcd_comm]; exact hg) hd2
  have := Nat.le_of_dvd (by omega) hd3
  omega

/-! ### the law -/
def tBad : Dat := .tup [.str "refused", .str "BadDraw"]
theorem pick3 (a b c t : Int) (h0 : 0 ≤ t) (h1 : t < 3) : ∃ s, ixD (.lst [.int a, .int b, .int c]) (.int t) = .ok (.int s) ∧ (s = a ∨ s = b ∨ s = c) := by
  have : t = 0 ∨ t = 1 ∨ t = 2 := by omega
  rcases this with rfl | rfl | rfl
  · exact ⟨a, rfl, .inl rfl⟩
  · exact ⟨b, rfl, .inr (.inl rfl)⟩
  · exact ⟨c, rfl, .inr (.inr rfl)⟩
theorem pick2 (a b t : Int) (h0 : 0 ≤ t) (h1 : t < 2) : ∃ s, ixD (.lst [.int a, .int b]) (.int t) = .ok (.int s) ∧ (s = a ∨ s = b) := by
  have : t = 0 ∨ t = 1 := by omega
  rcases this with rfl | rfl
  · exact ⟨a, rfl, .inl rfl⟩
  · exact ⟨b, rfl, .inr rfl⟩
theorem pow20 : powD (.int 2) (.int 20) = .ok (.int 1048576) := rfl
theorem pow30 : powD (.int 2) (.int 30) = .ok (.int 1073741824) := rfl
theorem bad_all : ∀ bad ∈ [Dat.int (-1), .non, .bl true, .str "1"], toldR nams (m_drawn [bad, .int 1, .int 1, .int 1]) = .ok tBad ∧ toldR nams (m_drawn [.int 1, bad, .int 1, .int 1]) = .ok tBad ∧ toldR nams (m_drawn [.int 1, .int 1, bad, .int 1]) = .ok tBad ∧ toldR nams (m_drawn [.int 1, .int 1, .int 1, bad]) = .ok tBad := by
  intro bad h
  simp only [List.mem_cons, List.not_mem_nil, or_false] at h
  rcases h with rfl | rfl | rfl | rfl <;> exact ⟨rfl, rfl, rfl, rfl⟩
theorem told4 {F G I J : Env → Res Dat} {ρ : Env} {a b c e d : Dat} (h1 : F ρ = .ok a) (h2 : G ρ = .ok b) (h3 : I ρ = .ok c) (h4 : J ρ = .ok e) (h : toldR nams (m_drawn [a, b, c, e]) = .ok d) : eTold nams (eCall m_drawn (aCons F (aCons G (aCons I (aCons J aNil))))) ρ = .ok d := by
  rw [eTold_eq, eCall_eq, aCons_eq, h1, Res.bind_ok, aCons_eq, h2, Res.bind_ok, aCons_eq, h3, Res.bind_ok, aCons_eq, h4, Res.bind_ok, aNil_eq, Res.bind_ok, Res.bind_ok, Res.bind_ok, Res.bind_ok, Res.bind_ok, h]
theorem inner_ok {bad : Dat} (hb : bad ∈ [Dat.int (-1), .non, .bl true, .str "1"]) (a0 a1 a2 a3 a4 a5 a6 a7 a8 a10 a11 a12 a13 a14 : Option Slot) :
    L1_law [a0, a1, a2, a3, a4, a5, a6, a7, a8, some (.frz bad), a10, a11, a12, a13, a14] = .next [a0, a1, a2, a3, a4, a5, a6, a7, a8, some (.frz bad), a10, a11, some (.own [tBad, tBad, tBad, tBad]), a13, a14] := by
  obtain ⟨h1, h2, h3, h4⟩ := bad_all bad hb
  unfold L1_law
  have e1 : sOwn 12 [] (aCons (eTold nams (eCall m_drawn (aCons (eVar 9) (aCons (eC (.int 1)) (aCons (eC (.int 1)) (aCons (eC (.int 1)) aNil)))))) aNil) [a0, a1, a2, a3, a4, a5, a6, a7, a8, some (.frz bad), a10, a11, a12, a13, a14] = .next [a0, a1, a2, a3, a4, a5, a6, a7, a8, some (.frz bad), a10, a11, some (.own [tBad]), a13, a14] := by
    have q : aCons (eTold nams (eCall m_drawn (aCons (eVar 9) (aCons (eC (.int 1)) (aCons (eC (.int 1)) (aCons (eC (.int 1)) aNil)))))) aNil (view [] [a0, a1, a2, a3, a4, a5, a6, a7, a8, some (.frz bad), a10, a11, a12, a13, a14]) = .ok [tBad] := by
      rw [aCons_eq, told4 (a := bad) rfl rfl rfl rfl h1, Res.bind_ok, aNil_eq, Res.bind_ok]
    unfold sOwn
    rw [q, Res.toS_ok, if_pos (le_big (by simp)), afterL_nil]
    rfl
  have ap : ∀ (F : Env → Res Dat) (ds : List Dat), ds.length ≤ 100 → F (view [] [a0, a1, a2, a3, a4, a5, a6, a7, a8, some (.frz bad), a10, a11, some (.own ds), a13, a14]) = .ok tBad → sApp 12 [] F [a0, a1, a2, a3, a4, a5, a6, a7, a8, some (.frz bad), a10, a11, some (.own ds), a13, a14] = .next [a0, a1, a2, a3, a4, a5, a6, a7, a8, some (.frz bad), a10, a11, some (.own (ds ++ [tBad])), a13, a14] := by
    intro F ds hl hF
    show (Res.toS (F _) fun d => appS 12 d (after [] _ d)) = _
    rw [hF, Res.toS_ok, after_nil]
    show (if ds.length < big then _ else _) = _
    rw [if_pos (Nat.lt_of_le_of_lt hl (by decide))]
    rfl
  rw [sSeq_step e1, sSeq_step (ap _ _ (by decide) (told4 (b := bad) rfl rfl rfl rfl h2)), sSeq_step (ap _ _ (by decide) (told4 (c := bad) rfl rfl rfl rfl h3)), sSeq_step (ap _ _ (by decide) (told4 (e := bad) rfl rfl rfl rfl h4))]
  have e5 : eTest (eBin neD (eVar 12) (eBin mulD (eLst (aCons (eTup (aCons (eC (.str "refused")) (aCons (eC (.str "BadDraw")) aNil))) aNil)) (eC (.int 4)))) (view [12] [a0, a1, a2, a3, a4, a5, a6, a7, a8, some (.frz bad), a10, a11, some (.own ([tBad] ++ [tBad] ++ [tBad] ++ [tBad])), a13, a14]) = .ok false :=
    ne_self (d := .lst [tBad, tBad, tBad, tBad]) rfl rfl (by decide +kernel)
  rw [sIf_eq, e5, Res.toS_ok]
  rfl
theorem inner_loop (a0 a1 a2 a3 a4 a5 a6 a7 a8 a9 a10 a11 a12 a13 a14 : Option Slot) : ∃ b9 b12, forD (.nm 9) L1_law [Dat.int (-1), .non, .bl true, .str "1"] [a0, a1, a2, a3, a4, a5, a6, a7, a8, a9, a10, a11, a12, a13, a14] = .next [a0, a1, a2, a3, a4, a5, a6, a7, a8, b9, a10, a11, b12, a13, a14] := by
  obtain ⟨ρ', e, b9, b12, he⟩ := forD_inv (p := .nm 9) (b := L1_law) (ds := [Dat.int (-1), .non, .bl true, .str "1"]) (ρ := [a0, a1, a2, a3, a4, a5, a6, a7, a8, a9, a10, a11, a12, a13, a14])
    (fun _ ρ => ∃ b9 b12, ρ = [a0, a1, a2, a3, a4, a5, a6, a7, a8, b9, a10, a11, b12, a13, a14]) ⟨a9, a12, rfl⟩ (fun i d ρ hd ⟨b9, b12, he⟩ => by
      subst he
      exact ⟨[(9, d)], _, rfl, inner_ok (List.mem_of_getElem? hd) .., _, _, rfl⟩)
  exact ⟨b9, b12, by rw [e, he]⟩
end K10

namespace K10
open PySem PySem.Spec PyProof.Rows L2 VL
theorem ex_of {X Y : SRes} {G : SEnv → Prop} (h : X = Y) (k : ∃ ρ', Y = .next ρ' ∧ G ρ') : ∃ ρ', X = .next ρ' ∧ G ρ' := by rw [h]; exact k
def Good (x : Dat) (ρ : SEnv) : Prop := ∃ a1 a2 a3 a4 a5 a6 a7 a8 a9 a10 a11 a12 a13 a14, ρ = [some (.frz x), a1, a2, a3, a4, a5, a6, a7, a8, a9, a10, a11, a12, a13, a14]
def rowsI (n : Int) (z : Nat) : List Int := (List.range (min z 20)).map fun (i : Nat) => spreadI n z (1 + (i : Int))
theorem rows_nodup (n : Int) {z : Nat} (h0 : 0 < z) (h1 : z ≤ 2000) : (rowsI n z).Nodup := by
  unfold rowsI
  refine List.pairwise_map.mpr ?_
  refine List.Pairwise.imp_of_mem ?_ (List.pairwise_lt_range (n := min z 20))
  intro a b ha hb hab
  have ha' := List.mem_range.mp ha
  have hb' := List.mem_range.mp hb
  have := spread_inj n h0 h1 (r := 1 + a) (r' := 1 + b) (by omega) (by omega)
  rw [show (1 + (a : Int)) = ((1 + a : Nat) : Int) by omega, show (1 + (b : Int)) = ((1 + b : Nat) : Int) by omega]
  exact this
theorem rows_eq {m : List Dat → Res Dat} {n : Int} {z : Nat} (h0 : 0 < z) (h1 : z ≤ 2000) (hm : ∀ row : Int, 0 ≤ row ∧ row ≤ 1000 → m [.int n, .int row, .int (z : Int)] = .ok (.int (spreadI n z row))) (a0 a1 a2 a3 a4 a6 a8 a9 a10 a11 a12 a13 a14 : Option Dat) :
    eLc (iArg rng2D (aCons (eC (.int 1)) (aCons (eBin addD (eCall minD (aCons (eVar 7) (aCons (eC (.int 20)) aNil))) (eC (.int 1))) aNil))) (.nm 14) bYes (eCall m (aCons (eVar 5) (aCons (eVar 14) (aCons (eVar 7) aNil)))) [14] [a0, a1, a2, a3, a4, some (.int n), a6, some (.int (z : Int)), a8, a9, a10, a11, a12, a13, a14] = .ok (.lst ((rowsI n z).map Dat.int)) := by
  refine eLc_eq (ds := rangeL 1 (((min z 20 : Nat) : Int) + 1)) ?_ ?_ ?_
  · refine iArg_of (ds := [.int 1, .int (((min z 20 : Nat) : Int) + 1)]) ?_ (rng2_int (by omega) (by omega) (by omega) (by omega))
    simp
    omega
  · rw [rangeL_eq, List.length_map, List.length_range]; exact le_big (by omega)
  · rw [rangeL_eq, show (((min z 20 : Nat) : Int) + 1 - 1).toNat = min z 20 by omega]
    unfold rowsI
    rw [List.map_map]
    refine lcD_all _ fun i hi => ?_
    have hi' := List.mem_range.mp hi
    exact call3 rfl rfl rfl (hm _ (by omega))
theorem body_ok (ns : List Int) (hn : ns.length ≤ 63) (k : Nat) (a2 a3 a4 a5 a6 a7 a8 a9 a10 a11 a12 a13 a14 : Option Slot) :
    ∃ ρ', L2_law [some (.frz (.rls (ns.map Dat.int))), some (.frz (.int (k : Int))), a2, a3, a4, a5, a6, a7, a8, a9, a10, a11, a12, a13, a14] = .next ρ' ∧ Good (.rls (ns.map Dat.int)) ρ' := by
  obtain ⟨c, hc⟩ := law_cell_ok ns hn k
  unfold L2_law
  have hm := drI_bd c (k : Int)
  -- more
  refine ex_of (sSet_step (d := .int (drI c (k : Int))) (call2 (call2 rfl rfl hc) rfl (law_drawn_eq c _))) ?_
  generalize drI c (k : Int) = m at hm
  generalize hk : (k : Int) = kk
  simp only [List.set_cons_succ, List.set_cons_zero]
  -- places
  refine ex_of (sSet_step (d := .lst [.int (drI m 0 % 100), .int (drI m 1 % 3), .int (drI m 2 % 100)]) ?_) ?_
  · refine eLc_eq (ds := [.int 0, .int 1, .int 2]) (iArg_of (ds := [.int 3]) rfl rfl) (by decide) ?_
    have one : ∀ (j : Int) (b : Int), 0 < b → ixD (.lst [.int 100, .int 3, .int 100]) (.int j) = .ok (.int b) → ∀ ρ : Env, ρ = [some (.rls (ns.map Dat.int)), some (.int kk), some (.int m), viewAt [] 3 a3, viewAt [] 4 a4, viewAt [] 5 a5, viewAt [] 6 a6, viewAt [] 7 a7, viewAt [] 8 a8, viewAt [] 9 a9, viewAt [] 10 a10, viewAt [] 11 a11, viewAt [] 12 a12, some (.int j), viewAt [] 14 a14] →
        (eBin modD (eCall m_law_drawn (aCons (eVar 2) (aCons (eVar 13) aNil))) (eBin ixD (eLst (aCons (eC (.int 100)) (aCons (eC (.int 3)) (aCons (eC (.int 100)) aNil)))) (eVar 13))) ρ = .ok (.int (drI m j % b)) := by
      intro j b hb hx ρ hρ
      have e1 : eCall m_law_drawn (aCons (eVar 2) (aCons (eVar 13) aNil)) ρ = .ok (.int (drI m j)) := call2 (by rw [hρ]; rfl) (by rw [hρ]; rfl) (law_drawn_eq m j)
      have e2 : eBin ixD (eLst (aCons (eC (.int 100)) (aCons (eC (.int 3)) (aCons (eC (.int 100)) aNil)))) (eVar 13) ρ = .ok (.int b) := by
        rw [eBin_eq, show eLst (aCons (eC (.int 100)) (aCons (eC (.int 3)) (aCons (eC (.int 100)) aNil))) ρ = .ok (.lst [.int 100, .int 3, .int 100]) from rfl, Res.bind_ok, show eVar 13 ρ = .ok (.int j) by rw [hρ]; rfl, Res.bind_ok, hx]
      rw [eBin_eq, e1, Res.bind_ok, e2, Res.bind_ok, modD_int hb]
    have all := lcD_all (i := 13) (x := fun j : Int => Dat.int j) (y := fun j : Int => Dat.int (drI m j % (if j = 1 then 3 else 100))) (f := eBin modD (eCall m_law_drawn (aCons (eVar 2) (aCons (eVar 13) aNil))) (eBin ixD (eLst (aCons (eC (.int 100)) (aCons (eC (.int 3)) (aCons (eC (.int 100)) aNil)))) (eVar 13)))
      (ρ := wipeE (view [] [some (.frz (.rls (ns.map Dat.int))), some (.frz (.int kk)), some (.frz (.int m)), a3, a4, a5, a6, a7, a8, a9, a10, a11, a12, a13, a14]) [13]) [0, 1, 2] (fun j hj => by
        simp only [List.mem_cons, List.not_mem_nil, or_false] at hj
        rcases hj with rfl | rfl | rfl
        · exact one 0 100 (by decide) rfl _ rfl
        · exact one 1 3 (by decide) rfl _ rfl
        · exact one 2 100 (by decide) rfl _ rfl)
    exact all
  have hp0 : 0 ≤ drI m 0 % 100 ∧ drI m 0 % 100 ≤ 99 := by omega
  have hp1 : 0 ≤ drI m 1 % 3 ∧ drI m 1 % 3 ≤ 99 := by omega
  have hp2 : 0 ≤ drI m 2 % 100 ∧ drI m 2 % 100 ≤ 99 := by omega
  generalize drI m 0 % 100 = p0 at hp0
  generalize drI m 1 % 3 = p1 at hp1
  generalize drI m 2 % 100 = p2 at hp2
  simp only [List.set_cons_succ, List.set_cons_zero]
  -- seed
  obtain ⟨seed, es, hs⟩ := pick3 (m % 1000000) 0 999999 (m / 1048576 % 3) (by omega) (by omega)
  have hs' : 0 ≤ seed ∧ seed ≤ 999999 := by omega
  refine ex_of (sSet_step (d := .int seed) ?_) ?_
  · simp (disch := omega) [modD_int, pow20, fdivD_int, es]
  clear hs es
  simp only [List.set_cons_succ, List.set_cons_zero]
  -- number
  have x0 : ∀ (ρ : Env), eVar 3 ρ = .ok (.lst [.int p0, .int p1, .int p2]) → eBin ixD (eVar 3) (eC (.int 0)) ρ = .ok (.int p0) ∧ eBin ixD (eVar 3) (eC (.int 1)) ρ = .ok (.int p1) ∧ eBin ixD (eVar 3) (eC (.int 2)) ρ = .ok (.int p2) := fun ρ h => by
    refine ⟨?_, ?_, ?_⟩ <;> rw [eBin_eq, h] <;> rfl
  refine ex_of (sSet_step (d := .int (drawI seed p0 p1 p2)) ?_) ?_
  · exact call4 rfl (x0 _ rfl).1 (x0 _ rfl).2.1 (x0 _ rfl).2.2 (law_draw_eq _ _ _ _)
  simp only [List.set_cons_succ, List.set_cons_zero]
  refine ex_of (sIf_no (ne_self (d := .int (drawI seed p0 p1 p2)) ?_ rfl rfl)) ?_
  · exact told4 rfl (x0 _ rfl).1 (x0 _ rfl).2.1 (x0 _ rfl).2.2 (by rw [drawn_eq hs' hp0 hp1 hp2]; rfl)
  have hd := drawI_bd seed p0 p1 p2
  generalize drawI seed p0 p1 p2 = num at hd
  -- words
  refine ex_of (sSeq_step (ρ' := [some (.frz (.rls (ns.map Dat.int))), some (.frz (.int kk)), some (.frz (.int m)), some (.frz (.lst [.int p0, .int p1, .int p2])), some (.frz (.int seed)), some (.frz (.int num)), a6, a7, a8, a9, some (.frz (.int (1 + m % 3))), some (.frz (.int (3 + m / 8 % 4))), a12, a13, a14]) ?_) ?_
  · simp (disch := omega) [modD_int, fdivD_int]
  refine ex_of (sIf_no (ne_self (d := .str _) (call3 rfl rfl rfl (word_of_eq (by omega) (by omega) (by omega))) (call3 rfl rfl rfl (told_word_eq (by omega) (by omega) (by omega))) (Sx_ok (wP_ok _ _)))) ?_
  -- shares
  obtain ⟨q, hq⟩ : ∃ q : Nat, 1 + m / 64 % 4 = (q : Int) ∧ 1 ≤ q ∧ q ≤ 4 := ⟨(1 + m / 64 % 4).toNat, by omega⟩
  have hsh : ∀ x ∈ (List.range q).map (fun (i : Nat) => 1 + drI m (10 + (0 + (i : Int))) % 9), 1 ≤ x := fun x hx => by
    obtain ⟨i, _, rfl⟩ := List.mem_map.mp hx
    omega
  have hsl : ((List.range q).map (fun (i : Nat) => 1 + drI m (10 + (0 + (i : Int))) % 9)).length = q := by rw [List.length_map, List.length_range]
  refine ex_of (sSet_step (d := .lst (((List.range q).map fun (i : Nat) => 1 + drI m (10 + (0 + (i : Int))) % 9).map Dat.int)) ?_) ?_
  · refine eLc_eq (ds := rangeL 0 (q : Int)) (iArg_of (ds := [.int (q : Int)]) ?_ (rng1_int (by omega) (by omega))) ?_ ?_
    · rw [← hq.1]; simp (disch := omega) [modD_int, fdivD_int]
    · rw [rangeL_eq, List.length_map, List.length_range]; exact le_big (by omega)
    · rw [rangeL_eq, show ((q : Int) - 0).toNat = q by omega, List.map_map]
      refine lcD_all _ fun i hi => ?_
      have e1 : ∀ ρ : Env, eVar 2 ρ = .ok (.int m) → eVar 13 ρ = .ok (.int (0 + (i : Int))) → eCall m_law_drawn (aCons (eVar 2) (aCons (eBin addD (eC (.int 10)) (eVar 13)) aNil)) ρ = .ok (.int (drI m (10 + (0 + (i : Int))))) := fun ρ h1 h2 =>
        call2 h1 (by rw [eBin_eq, h2]; rfl) (law_drawn_eq _ _)
      rw [eBin_eq, eBin_eq, e1 _ rfl rfl, eC_eq, Res.bind_ok, Res.bind_ok, eC_eq, Res.bind_ok, modD_int (by decide), Res.bind_ok, addD_int]
      rfl
  generalize hxs : (List.range q).map (fun (i : Nat) => 1 + drI m (10 + (0 + (i : Int))) % 9) = xs at hsh hsl
  simp only [List.set_cons_succ, List.set_cons_zero]
  obtain ⟨j, hj, ej⟩ := shared_of_eq (n := num) hsh (by intro z; rw [z] at hsl; simp at hsl; omega) (by omega)
  have hsum : 0 < xs.sum := by
    obtain ⟨j1, j2, j3⟩ := hj
    have := pre_mono hsh (xs.length - 1) 1
    cases xs with
    | nil => simp at hsl; omega
    | cons x r =>
      have h2 := hsh x (by simp)
      have h3 : pre (x :: r) (1 + ((x :: r).length - 1)) = (x :: r).sum := by unfold pre; rw [List.take_of_length_le (by simp; omega)]
      have h4 : pre (x :: r) 1 = x := by simp [pre]
      omega
  refine ex_of (sIf_no (ne_self (d := .int (j : Int)) (call2 rfl rfl ej) (call2 rfl rfl (law_shared_eq hsh (by omega) hsum hj)) rfl)) ?_
  -- size
  obtain ⟨zi, ez, hz⟩ := pick2 (1 + m / 512 % 30) (1 + m / 512 % 1999) (m / 1073741824 % 2) (by omega) (by omega)
  obtain ⟨z, hz1⟩ : ∃ z : Nat, zi = (z : Int) ∧ 0 < z ∧ z ≤ 2000 := ⟨zi.toNat, by omega⟩
  refine ex_of (sSet_step (d := .int (z : Int)) ?_) ?_
  · rw [← hz1.1]; simp (disch := omega) [modD_int, pow30, fdivD_int, ez]
  simp only [List.set_cons_succ, List.set_cons_zero]
  -- rows
  refine ex_of (sSet_step (d := .lst ((rowsI num z).map Dat.int)) (rows_eq hz1.2.1 hz1.2.2 (fun row hr => spread_of_eq num row hz1.2.1 hz1.2.2 hr) ..)) ?_
  simp only [List.set_cons_succ, List.set_cons_zero]
  refine ex_of (sIf_no (ne_self (d := .lst ((rowsI num z).map Dat.int)) rfl (rows_eq hz1.2.1 hz1.2.2 (fun row hr => law_spread_eq num row hz1.2.1 hz1.2.2 hr) ..) (sameD_ints _))) ?_
  have hrl : (rowsI num z).length ≤ 20 := by unfold rowsI; rw [List.length_map, List.length_range]; omega
  have hset : lenSetD (.lst ((rowsI num z).map Dat.int)) = .ok (.int ((rowsI num z).length : Nat)) := by
    show (match intsD ((rowsI num z).map Dat.int) with | some ns => if ns.Nodup ∧ ns.length ≤ 4000 then Res.ok (Dat.int (ns.length : Nat)) else .stuck | none => .stuck) = _
    rw [intsD_map]
    show (if (rowsI num z).Nodup ∧ (rowsI num z).length ≤ 4000 then _ else _) = _
    rw [if_pos ⟨rows_nodup num hz1.2.1 hz1.2.2, by omega⟩]
  refine ex_of (sIf_no (ne_self (d := .int ((rowsI num z).length : Nat)) ?_ ?_ rfl)) ?_
  · rw [eUn_eq]
    exact hset
  · rw [len_of (xs := (rowsI num z).map Dat.int) rfl, List.length_map]
  -- refusals
  obtain ⟨b9, b12, el⟩ := inner_loop (some (.frz (.rls (ns.map Dat.int)))) (some (.frz (.int kk))) (some (.frz (.int m))) (some (.frz (.lst [.int p0, .int p1, .int p2]))) (some (.frz (.int seed))) (some (.frz (.int num))) (some (.frz (.lst (xs.map Dat.int)))) (some (.frz (.int (z : Int)))) (some (.frz (.lst ((rowsI num z).map Dat.int)))) a9 (some (.frz (.int (1 + m % 3)))) (some (.frz (.int (3 + m / 8 % 4)))) a12 a13 a14
  refine ex_of (sSeq_step (ρ' := _) ((sFor_eq.trans ?_).trans el)) ?_
  · rw [show ∀ ρ : Env, iSeq (eLst (aCons (eUn negD (eC (.int 1))) (aCons (eC .non) (aCons (eC (.bl true)) (aCons (eC (.str "1")) aNil))))) ρ = .ok [.int (-1), .non, .bl true, .str "1"] from fun ρ => rfl, Res.toS_ok, freeze_nil]
  refine ex_of (sIf_no (ne_self (d := tBad) (told4 rfl rfl rfl rfl rfl) rfl (by decide +kernel))) ?_
  exact ⟨_, sIf_end (ne_self (d := tBad) (told4 rfl rfl rfl rfl rfl) rfl (by decide +kernel)), _, _, _, _, _, _, _, _, _, _, _, _, _, _, rfl⟩
theorem law_true (ns : List Int) (h : ns.length ≤ 63) (hb : ∀ z ∈ ns, PySem.Builtin.Int.intBits z ≤ 1048576) : m_law [.rls (ns.map Dat.int)] = .ok (.bl true) := by
  rw [o_law]
  unfold b_law
  obtain ⟨n, hn⟩ : ∃ n : Nat, (if (if (ns.length : Int) < 5 then (ns.length : Int) else 5) > 1 then (if (ns.length : Int) < 5 then (ns.length : Int) else 5) else 1) = (n : Int) ∧ n ≤ 5 := by
    refine ⟨(if (if (ns.length : Int) < 5 then (ns.length : Int) else 5) > 1 then (if (ns.length : Int) < 5 then (ns.length : Int) else 5) else 1).toNat, ?_⟩
    split <;> split <;> omega
  obtain ⟨ρ', e, I⟩ := forD_inv (p := .nm 1) (b := L2_law) (ds := rangeL 0 (n : Int)) (ρ := [some (.frz (.rls (ns.map Dat.int))), none, none, none, none, none, none, none, none, none, none, none, none, none, none])
    (fun _ ρ => Good (.rls (ns.map Dat.int)) ρ) ⟨_, _, _, _, _, _, _, _, _, _, _, _, _, _, rfl⟩ (fun i d ρ hd hG => by
      obtain ⟨a1, a2, a3, a4, a5, a6, a7, a8, a9, a10, a11, a12, a13, a14, rfl⟩ := hG
      rw [rangeL_get] at hd
      by_cases q : i < ((n : Int) - 0).toNat
      · rw [if_pos q] at hd
        cases hd
        obtain ⟨ρ', e1, e2⟩ := body_ok ns h i a2 a3 a4 a5 a6 a7 a8 a9 a10 a11 a12 a13 a14
        refine ⟨[(1, .int (0 + (i : Int)))], ρ', rfl, ?_, e2⟩
        rw [Int.zero_add]
        exact e1
      · rw [if_neg q] at hd; cases hd)
  have er : iArg rng1D (aCons (eCall maxD (aCons (eC (.int 1)) (aCons (eCall minD (aCons (eC (.int 5)) (aCons (eCall lenD (aCons (eVar 0) aNil)) aNil))) aNil))) aNil) (view [] [some (.frz (.rls (ns.map Dat.int))), none, none, none, none, none, none, none, none, none, none, none, none, none, none]) = .ok (rangeL 0 (n : Int)) := by
    refine iArg_of (ds := [.int (n : Int)]) ?_ (rng1_int (by omega) (by omega))
    have e1 : eCall lenD (aCons (eVar 0) aNil) (view [] [some (.frz (.rls (ns.map Dat.int))), none, none, none, none, none, none, none, none, none, none, none, none, none, none]) = .ok (.int (ns.length : Int)) := by
      refine call1 rfl ?_
      rw [lenD_rls, List.length_map]
    rw [aCons_eq, call2 (m := maxD) rfl (call2 (m := minD) rfl e1 minD_int) maxD_int, Res.bind_ok, aNil_eq, Res.bind_ok, hn.1]
  rw [sSeq_eq, sFor_eq, er, Res.toS_ok, freeze_nil, e]
  rfl
end K10

namespace K10
open PySem PySem.Spec PyProof.Rows L2 VL L2H HotX
def topS (i : Nat) : Stmt := PySem.Challenge.pw_rulemade_k10_whole_draws.main.body.getD i (.Pass ⟨0, 0, 0, 0⟩)
theorem in_nams {c : Str} (h : c ∈ nams) : c = "BadDraw" ∨ c = "BadPlan" ∨ c = "BadTest" ∨ c = "NoCell" := by
  have : c ∈ alls := (show ∀ c ∈ nams, c ∈ alls by decide) c h
  simpa [alls] using this
theorem word_eq (c : Str) (hc : c ∈ nams) (a : Addr) : b_law_word a c (startS 3 [.opq a]) = .ret (.tup [.str "refused", .str c]) := by
  have e : ∀ (b : Bool) (r : List (Option Dat)), eIsE 0 a b (some (.opq a) :: r) = .ok (.bl b) := fun b r => by simp [eIsE]
  rcases in_nams hc with rfl | rfl | rfl | rfl <;>
  · unfold b_law_word sSeq sSet
    show (match (Res.toS ((eLst (aCons (eIsE 0 a _) (aCons (eIsE 0 a _) (aCons (eIsE 0 a _) (aCons (eIsE 0 a _) aNil))))) (some (.opq a) :: [none, none])) _) with | .next ρ' => _ | r => r) = _
    unfold eLst aCons
    simp only [e, Res.bind_ok]
    show (match (sIf [] (bOr (eTest (eBin neD (eCall sumD (aCons (eLc (iLst (eVar 1)) (.nm 2) bYes (eCall VL.intD (aCons (eVar 2) aNil)) [2]) aNil)) (eC (.int 1)))) (bNot (eTest (eIsE 0 a true)))) _ sNext [some (.frz (.opq a)), some (.frz (.lst [.bl _, .bl _, .bl _, .bl _])), none]) with | .next ρ' => _ | r => r) = _
    unfold sIf bOr bNot
    show (match (Res.toS ((Res.ok false).bind fun b => if b = true then _ else (eTest (eIsE 0 a true) (some (.opq a) :: [_, _])).bind _) _) with | .next ρ' => _ | r => r) = _
    unfold eTest
    simp only [e, Res.bind_ok]
    rfl

structure Tx (K : PySem.W.Frag) (mg : Str → Option Value) (g : Glob) : Prop where
  b_ValueError : mg "ValueError" = none
  b_bool : mg "bool" = none
  b_int : mg "int" = none
  b_isinstance : mg "isinstance" = none
  b_len : mg "len" = none
  b_max : mg "max" = none
  b_min : mg "min" = none
  b_range : mg "range" = none
  b_set : mg "set" = none
  b_sum : mg "sum" = none
  c_FIRST : ∃ u, mg "FIRST" = some u ∧ L2.RelV (.int 2147483647) u
  c_MOST_PLACE : ∃ u, mg "MOST_PLACE" = some u ∧ L2.RelV (.int 99) u
  c_MOST_SEED : ∃ u, mg "MOST_SEED" = some u ∧ L2.RelV (.int 999999) u
  c_SECOND : ∃ u, mg "SECOND" = some u ∧ L2.RelV (.int 2147483629) u
  x_BadDraw : ExcT K mg g [.type "ValueError", .type "Exception", .type "BaseException", .type "object"] "BadDraw"
section
variable {P : Program} {w : World} {K : PySem.W.Frag} {mg : Str → Option Value} {base : Heap} {g : Glob}
abbrev s_is_count : Stmt := topS 11
abbrev n_is_count : List Str := ["thing", "low", "high"]
theorem sc_is_count : FnScope n_is_count ["thing", "low", "high"] (defScope s_is_count) := ⟨rfl, rfl, rfl, by decide +kernel, rfl, by decide +kernel, by decide +kernel⟩
theorem v_is_count {f : Addr} {fd : FuncData} (F : Fun K "is_count" "is_count" s_is_count f fd) (hm : mg "is_count" = some (.ref f)) (T : Tx K mg g) : FnOk P w K mg base (L2N.CX P w) 1 f fd ["thing", "low", "high"] (spV K g m_is_count) := by
  refine fn_ok (N := n_is_count) (b := b_is_count) F sc_is_count fun cdv A outer s H E F0 hcv hr => ?_
  have tk : L2N.Takes (cxOf (L2N.CX P w) P w K mg base n_is_count "is_count" (defScope s_is_count) f cdv A outer s H E) (fun cls d _ H' => E cls d H') := L2N.takes_of rfl rfl rfl rfl
  have hp := passes_of (X := cxOf (L2N.CX P w) P w K mg base n_is_count "is_count" (defScope s_is_count) f cdv A outer s H E) rfl
  exact (vss_one (vs_ret [] (ve_and (ve_callB call_isi cd_isi T.b_isinstance (by decide +kernel) (va_cons (ve_var 0) (va_cons (ve_bltn T.b_int (by decide +kernel)) va_nil))) (ve_and (ve_not (ve_callB call_isi cd_isi T.b_isinstance (by decide +kernel) (va_cons (ve_var 0) (va_cons (ve_bltn T.b_bool (by decide +kernel)) va_nil)))) (ve_one (ve_lele (ve_var 1) (ve_var 0) (ve_var 2)))))))
theorem w_is_count {f : Addr} {fd : FuncData} (F : Fun K "is_count" "is_count" s_is_count f fd) (hm : mg "is_count" = some (.ref f)) (T : Tx K mg g) : VFn P w K mg base g 1 "is_count" m_is_count :=
  ⟨f, fd, ["thing", "low", "high"], hm, F.kp, F.binds fun _ _ _ _ _ _ us hl => match us, hl with | [_, _, _], _ => rfl, v_is_count F hm T⟩
abbrev s_need : Stmt := topS 12
abbrev n_need : List Str := ["good"]
theorem sc_need : FnScope n_need ["good"] (defScope s_need) := ⟨rfl, rfl, rfl, by decide +kernel, rfl, by decide +kernel, by decide +kernel⟩
theorem v_need {f : Addr} {fd : FuncData} (F : Fun K "need" "need" s_need f fd) (hm : mg "need" = some (.ref f)) (T : Tx K mg g) : FnOk P w K mg base (L2N.CX P w) 1 f fd ["good"] (spV K g m_need) := by
  refine fn_ok (N := n_need) (b := b_need) F sc_need fun cdv A outer s H E F0 hcv hr => ?_
  have tk : L2N.Takes (cxOf (L2N.CX P w) P w K mg base n_need "need" (defScope s_need) f cdv A outer s H E) (fun cls d _ H' => E cls d H') := L2N.takes_of rfl rfl rfl rfl
  have hp := passes_of (X := cxOf (L2N.CX P w) P w K mg base n_need "need" (defScope s_need) f cdv A outer s H E) rfl
  exact (vss_one (vs_if [] (vt_not (vt_of (ve_var 0))) (vss_one (vs_raise T.x_BadDraw rfl tk)) vss_nil))
theorem w_need {f : Addr} {fd : FuncData} (F : Fun K "need" "need" s_need f fd) (hm : mg "need" = some (.ref f)) (T : Tx K mg g) : VFn P w K mg base g 1 "need" m_need :=
  ⟨f, fd, ["good"], hm, F.kp, F.binds fun _ _ _ _ _ _ us hl => match us, hl with | [_], _ => rfl, v_need F hm T⟩
abbrev s_draw : Stmt := topS 13
abbrev n_draw : List Str := ["seed", "table", "column", "row", "found"]
theorem sc_draw : FnScope n_draw ["seed", "table", "column", "row"] (defScope s_draw) := ⟨rfl, rfl, rfl, by decide +kernel, rfl, by decide +kernel, by decide +kernel⟩
theorem v_draw {f : Addr} {fd : FuncData} (F : Fun K "draw" "draw" s_draw f fd) (hm : mg "draw" = some (.ref f)) (T : Tx K mg g) : FnOk P w K mg base (L2N.CX P w) 1 f fd ["seed", "table", "column", "row"] (spV K g m_draw) := by
  refine fn_ok (N := n_draw) (b := b_draw) F sc_draw fun cdv A outer s H E F0 hcv hr => ?_
  have tk : L2N.Takes (cxOf (L2N.CX P w) P w K mg base n_draw "draw" (defScope s_draw) f cdv A outer s H E) (fun cls d _ H' => E cls d H') := L2N.takes_of rfl rfl rfl rfl
  have hp := passes_of (X := cxOf (L2N.CX P w) P w K mg base n_draw "draw" (defScope s_draw) f cdv A outer s H E) rfl
  exact (vss_cons (vs_set 4 [] sc_draw.nd (ve_mod (ve_mul (ve_add (ve_add (ve_add (ve_add (ve_mul (ve_var 0) ve_int) (ve_mul (ve_var 1) ve_int)) (ve_mul (ve_var 2) ve_int)) (ve_mul (ve_var 3) ve_int)) ve_int) ve_int) (ve_glob T.c_FIRST (fun _ => .int _))))
    (vss_one (vs_ret [] (ve_mod (ve_add (ve_add (ve_mul (ve_var 4) (ve_var 4)) (ve_mul ve_int (ve_var 4))) (ve_var 3)) (ve_glob T.c_SECOND (fun _ => .int _))))))
theorem w_draw {f : Addr} {fd : FuncData} (F : Fun K "draw" "draw" s_draw f fd) (hm : mg "draw" = some (.ref f)) (T : Tx K mg g) : VFn P w K mg base g 1 "draw" m_draw :=
  ⟨f, fd, ["seed", "table", "column", "row"], hm, F.kp, F.binds fun _ _ _ _ _ _ us hl => match us, hl with | [_, _, _, _], _ => rfl, v_draw F hm T⟩
abbrev s_drawn : Stmt := topS 14
abbrev n_drawn : List Str := ["seed", "table", "column", "row"]
theorem sc_drawn : FnScope n_drawn ["seed", "table", "column", "row"] (defScope s_drawn) := ⟨rfl, rfl, rfl, by decide +kernel, rfl, by decide +kernel, by decide +kernel⟩
theorem v_drawn {f : Addr} {fd : FuncData} (F : Fun K "drawn" "drawn" s_drawn f fd) (hm : mg "drawn" = some (.ref f)) (T : Tx K mg g) (f_is_count : VFn P w K mg base g 1 "is_count" m_is_count) (f_need : VFn P w K mg base g 1 "need" m_need) (f_draw : VFn P w K mg base g 1 "draw" m_draw) : FnOk P w K mg base (L2N.CX P w) 2 f fd ["seed", "table", "column", "row"] (spV K g m_drawn) := by
  refine fn_ok (N := n_drawn) (b := b_drawn) F sc_drawn fun cdv A outer s H E F0 hcv hr => ?_
  have tk : L2N.Takes (cxOf (L2N.CX P w) P w K mg base n_drawn "drawn" (defScope s_drawn) f cdv A outer s H E) (fun cls d _ H' => E cls d H') := L2N.takes_of rfl rfl rfl rfl
  have hp := passes_of (X := cxOf (L2N.CX P w) P w K mg base n_drawn "drawn" (defScope s_drawn) f cdv A outer s H E) rfl
  exact (vss_cons (vs_expr [] (ve_call f_need hr (by decide) tk (va_cons (ve_call f_is_count hr (by decide) tk (va_cons (ve_var 0) (va_cons ve_int (va_cons (ve_glob T.c_MOST_SEED (fun _ => .int _)) va_nil)))) va_nil)))
    (vss_cons (vs_expr [] (ve_call f_need hr (by decide) tk (va_cons (ve_and (ve_call f_is_count hr (by decide) tk (va_cons (ve_var 1) (va_cons ve_int (va_cons (ve_glob T.c_MOST_PLACE (fun _ => .int _)) va_nil)))) (ve_and (ve_call f_is_count hr (by decide) tk (va_cons (ve_var 2) (va_cons ve_int (va_cons (ve_glob T.c_MOST_PLACE (fun _ => .int _)) va_nil)))) (ve_one (ve_call f_is_count hr (by decide) tk (va_cons (ve_var 3) (va_cons ve_int (va_cons (ve_glob T.c_MOST_PLACE (fun _ => .int _)) va_nil))))))) va_nil)))
    (vss_one (vs_ret [] (ve_call f_draw hr (by decide) tk (va_cons (ve_var 0) (va_cons (ve_var 1) (va_cons (ve_var 2) (va_cons (ve_var 3) va_nil)))))))))
theorem w_drawn {f : Addr} {fd : FuncData} (F : Fun K "drawn" "drawn" s_drawn f fd) (hm : mg "drawn" = some (.ref f)) (T : Tx K mg g) (f_is_count : VFn P w K mg base g 1 "is_count" m_is_count) (f_need : VFn P w K mg base g 1 "need" m_need) (f_draw : VFn P w K mg base g 1 "draw" m_draw) : VFn P w K mg base g 2 "drawn" m_drawn :=
  ⟨f, fd, ["seed", "table", "column", "row"], hm, F.kp, F.binds fun _ _ _ _ _ _ us hl => match us, hl with | [_, _, _, _], _ => rfl, v_drawn F hm T f_is_count f_need f_draw⟩
abbrev s_word_of : Stmt := topS 15
abbrev n_word_of : List Str := ["number", "low", "high", "many", "found", "turn"]
theorem sc_word_of : FnScope n_word_of ["number", "low", "high"] (defScope s_word_of) := ⟨rfl, rfl, rfl, by decide +kernel, rfl, by decide +kernel, by decide +kernel⟩
theorem v_word_of {f : Addr} {fd : FuncData} (F : Fun K "word_of" "word_of" s_word_of f fd) (hm : mg "word_of" = some (.ref f)) (T : Tx K mg g) : FnOk P w K mg base (L2N.CX P w) 1 f fd ["number", "low", "high"] (spV K g m_word_of) := by
  refine fn_ok (N := n_word_of) (b := b_word_of) F sc_word_of fun cdv A outer s H E F0 hcv hr => ?_
  have tk : L2N.Takes (cxOf (L2N.CX P w) P w K mg base n_word_of "word_of" (defScope s_word_of) f cdv A outer s H E) (fun cls d _ H' => E cls d H') := L2N.takes_of rfl rfl rfl rfl
  have hp := passes_of (X := cxOf (L2N.CX P w) P w K mg base n_word_of "word_of" (defScope s_word_of) f cdv A outer s H E) rfl
  exact (vss_cons (vs_set 3 [] sc_word_of.nd (ve_add (ve_var 1) (ve_mod (ve_var 0) (ve_add (ve_sub (ve_var 2) (ve_var 1)) ve_int))))
    (vss_cons (vs_set 0 [] sc_word_of.nd (ve_fdiv (ve_var 0) (ve_add (ve_sub (ve_var 2) (ve_var 1)) ve_int)))
    (vss_cons (vs_set 4 [] sc_word_of.nd ve_str)
    (vss_cons (vs_for [] hp rfl (vi_range1 T.b_range (va_cons (ve_var 3) va_nil)) (vg_name 5 sc_word_of.nd) (vss_cons (vs_set 4 [] sc_word_of.nd (ve_add (ve_var 4) (ve_sub_ix hr ve_str (ve_mod (ve_var 0) ve_int))))
    (vss_one (vs_set 0 [] sc_word_of.nd (ve_fdiv (ve_var 0) ve_int)))))
    (vss_one (vs_ret [] (ve_var 4)))))))
theorem w_word_of {f : Addr} {fd : FuncData} (F : Fun K "word_of" "word_of" s_word_of f fd) (hm : mg "word_of" = some (.ref f)) (T : Tx K mg g) : VFn P w K mg base g 1 "word_of" m_word_of :=
  ⟨f, fd, ["number", "low", "high"], hm, F.kp, F.binds fun _ _ _ _ _ _ us hl => match us, hl with | [_, _, _], _ => rfl, v_word_of F hm T⟩
abbrev s_shared_of : Stmt := topS 16
abbrev n_shared_of : List Str := ["number", "shares", "left", "at"]
theorem sc_shared_of : FnScope n_shared_of ["number", "shares"] (defScope s_shared_of) := ⟨rfl, rfl, rfl, by decide +kernel, rfl, by decide +kernel, by decide +kernel⟩
theorem v_shared_of {f : Addr} {fd : FuncData} (F : Fun K "shared_of" "shared_of" s_shared_of f fd) (hm : mg "shared_of" = some (.ref f)) (T : Tx K mg g) : FnOk P w K mg base (L2N.CX P w) 1 f fd ["number", "shares"] (spV K g m_shared_of) := by
  refine fn_ok (N := n_shared_of) (b := b_shared_of) F sc_shared_of fun cdv A outer s H E F0 hcv hr => ?_
  have tk : L2N.Takes (cxOf (L2N.CX P w) P w K mg base n_shared_of "shared_of" (defScope s_shared_of) f cdv A outer s H E) (fun cls d _ H' => E cls d H') := L2N.takes_of rfl rfl rfl rfl
  have hp := passes_of (X := cxOf (L2N.CX P w) P w K mg base n_shared_of "shared_of" (defScope s_shared_of) f cdv A outer s H E) rfl
  exact (vss_cons (vs_set 2 [] sc_shared_of.nd (ve_mod (ve_var 0) (ve_callB (cr_sum rfl) cd_sum T.b_sum (by decide +kernel) (va_cons (ve_var 1) va_nil))))
    (vss_cons (vs_set 3 [] sc_shared_of.nd ve_int)
    (vss_cons (vs_while 4096 [] hp (vt_ge (ve_var 2) (ve_sub_ix hr (ve_var 1) (ve_var 3))) (vss_cons (vs_set 2 [] sc_shared_of.nd (ve_sub (ve_var 2) (ve_sub_ix hr (ve_var 1) (ve_var 3))))
    (vss_one (vs_set 3 [] sc_shared_of.nd (ve_add (ve_var 3) ve_int)))))
    (vss_one (vs_ret [] (ve_var 3))))))
theorem w_shared_of {f : Addr} {fd : FuncData} (F : Fun K "shared_of" "shared_of" s_shared_of f fd) (hm : mg "shared_of" = some (.ref f)) (T : Tx K mg g) : VFn P w K mg base g 1 "shared_of" m_shared_of :=
  ⟨f, fd, ["number", "shares"], hm, F.kp, F.binds fun _ _ _ _ _ _ us hl => match us, hl with | [_, _], _ => rfl, v_shared_of F hm T⟩
abbrev s_divides_both : Stmt := topS 17
abbrev n_divides_both : List Str := ["one", "other"]
theorem sc_divides_both : FnScope n_divides_both ["one", "other"] (defScope s_divides_both) := ⟨rfl, rfl, rfl, by decide +kernel, rfl, by decide +kernel, by decide +kernel⟩
theorem v_divides_both {f : Addr} {fd : FuncData} (F : Fun K "divides_both" "divides_both" s_divides_both f fd) (hm : mg "divides_both" = some (.ref f)) (T : Tx K mg g) : FnOk P w K mg base (L2N.CX P w) 1 f fd ["one", "other"] (spV K g m_divides_both) := by
  refine fn_ok (N := n_divides_both) (b := b_divides_both) F sc_divides_both fun cdv A outer s H E F0 hcv hr => ?_
  have tk : L2N.Takes (cxOf (L2N.CX P w) P w K mg base n_divides_both "divides_both" (defScope s_divides_both) f cdv A outer s H E) (fun cls d _ H' => E cls d H') := L2N.takes_of rfl rfl rfl rfl
  have hp := passes_of (X := cxOf (L2N.CX P w) P w K mg base n_divides_both "divides_both" (defScope s_divides_both) f cdv A outer s H E) rfl
  exact (vss_cons (vs_while 4096 [] hp (vt_ne hr (ve_var 1) ve_int) (vss_one (vs_par2 0 1 [] rfl sc_divides_both.nd (va_cons (ve_var 1) (va_cons (ve_mod (ve_var 0) (ve_var 1)) va_nil)))))
    (vss_one (vs_ret [] (ve_var 0))))
theorem w_divides_both {f : Addr} {fd : FuncData} (F : Fun K "divides_both" "divides_both" s_divides_both f fd) (hm : mg "divides_both" = some (.ref f)) (T : Tx K mg g) : VFn P w K mg base g 1 "divides_both" m_divides_both :=
  ⟨f, fd, ["one", "other"], hm, F.kp, F.binds fun _ _ _ _ _ _ us hl => match us, hl with | [_, _], _ => rfl, v_divides_both F hm T⟩
abbrev s_spread_of : Stmt := topS 18
abbrev n_spread_of : List Str := ["number", "row", "size", "step"]
theorem sc_spread_of : FnScope n_spread_of ["number", "row", "size"] (defScope s_spread_of) := ⟨rfl, rfl, rfl, by decide +kernel, rfl, by decide +kernel, by decide +kernel⟩
theorem v_spread_of {f : Addr} {fd : FuncData} (F : Fun K "spread_of" "spread_of" s_spread_of f fd) (hm : mg "spread_of" = some (.ref f)) (T : Tx K mg g) (f_divides_both : VFn P w K mg base g 1 "divides_both" m_divides_both) : FnOk P w K mg base (L2N.CX P w) 2 f fd ["number", "row", "size"] (spV K g m_spread_of) := by
  refine fn_ok (N := n_spread_of) (b := b_spread_of) F sc_spread_of fun cdv A outer s H E F0 hcv hr => ?_
  have tk : L2N.Takes (cxOf (L2N.CX P w) P w K mg base n_spread_of "spread_of" (defScope s_spread_of) f cdv A outer s H E) (fun cls d _ H' => E cls d H') := L2N.takes_of rfl rfl rfl rfl
  have hp := passes_of (X := cxOf (L2N.CX P w) P w K mg base n_spread_of "spread_of" (defScope s_spread_of) f cdv A outer s H E) rfl
  exact (vss_cons (vs_set 3 [] sc_spread_of.nd (ve_add ve_int (ve_mod (ve_fdiv (ve_var 0) (ve_var 2)) (ve_var 2))))
    (vss_cons (vs_while 4096 [] hp (vt_ne hr (ve_call f_divides_both hr (by decide) tk (va_cons (ve_var 3) (va_cons (ve_var 2) va_nil))) ve_int) (vss_one (vs_set 3 [] sc_spread_of.nd (ve_add (ve_var 3) ve_int))))
    (vss_one (vs_ret [] (ve_mod (ve_add (ve_mod (ve_var 0) (ve_var 2)) (ve_mul (ve_var 1) (ve_var 3))) (ve_var 2))))))
theorem w_spread_of {f : Addr} {fd : FuncData} (F : Fun K "spread_of" "spread_of" s_spread_of f fd) (hm : mg "spread_of" = some (.ref f)) (T : Tx K mg g) (f_divides_both : VFn P w K mg base g 1 "divides_both" m_divides_both) : VFn P w K mg base g 2 "spread_of" m_spread_of :=
  ⟨f, fd, ["number", "row", "size"], hm, F.kp, F.binds fun _ _ _ _ _ _ us hl => match us, hl with | [_, _, _], _ => rfl, v_spread_of F hm T f_divides_both⟩
abbrev s_law_cell : Stmt := topS 20
abbrev n_law_cell : List Str := ["script", "k"]
theorem sc_law_cell : FnScope n_law_cell ["script", "k"] (defScope s_law_cell) := ⟨rfl, rfl, rfl, by decide +kernel, rfl, by decide +kernel, by decide +kernel⟩
theorem v_law_cell {f : Addr} {fd : FuncData} (F : Fun K "_law_cell" "_law_cell" s_law_cell f fd) (hm : mg "_law_cell" = some (.ref f)) (T : Tx K mg g) : FnOk P w K mg base (L2N.CX P w) 1 f fd ["script", "k"] (spV K g m_law_cell) := by
  refine fn_ok (N := n_law_cell) (b := b_law_cell) F sc_law_cell fun cdv A outer s H E F0 hcv hr => ?_
  have tk : L2N.Takes (cxOf (L2N.CX P w) P w K mg base n_law_cell "_law_cell" (defScope s_law_cell) f cdv A outer s H E) (fun cls d _ H' => E cls d H') := L2N.takes_of rfl rfl rfl rfl
  have hp := passes_of (X := cxOf (L2N.CX P w) P w K mg base n_law_cell "_law_cell" (defScope s_law_cell) f cdv A outer s H E) rfl
  exact (vss_cons (vs_if [] (vt_eq hr (ve_var 0) (ve_lst va_nil)) (vss_one (vs_ret [] (ve_mul (ve_var 1) ve_int))) vss_nil)
    (vss_one (vs_ret [] (ve_add (ve_sub_ix hr (ve_var 0) (ve_mod (ve_var 1) (ve_callB call_len cd_len T.b_len (by decide +kernel) (va_cons (ve_var 0) va_nil)))) (ve_mul (ve_fdiv (ve_var 1) (ve_callB call_len cd_len T.b_len (by decide +kernel) (va_cons (ve_var 0) va_nil))) ve_int)))))
theorem w_law_cell {f : Addr} {fd : FuncData} (F : Fun K "_law_cell" "_law_cell" s_law_cell f fd) (hm : mg "_law_cell" = some (.ref f)) (T : Tx K mg g) : VFn P w K mg base g 1 "_law_cell" m_law_cell :=
  ⟨f, fd, ["script", "k"], hm, F.kp, F.binds fun _ _ _ _ _ _ us hl => match us, hl with | [_, _], _ => rfl, v_law_cell F hm T⟩
abbrev s_law_drawn : Stmt := topS 21
abbrev n_law_drawn : List Str := ["cell", "k", "more"]
theorem sc_law_drawn : FnScope n_law_drawn ["cell", "k"] (defScope s_law_drawn) := ⟨rfl, rfl, rfl, by decide +kernel, rfl, by decide +kernel, by decide +kernel⟩
theorem v_law_drawn {f : Addr} {fd : FuncData} (F : Fun K "_law_drawn" "_law_drawn" s_law_drawn f fd) (hm : mg "_law_drawn" = some (.ref f)) (T : Tx K mg g) : FnOk P w K mg base (L2N.CX P w) 1 f fd ["cell", "k"] (spV K g m_law_drawn) := by
  refine fn_ok (N := n_law_drawn) (b := b_law_drawn) F sc_law_drawn fun cdv A outer s H E F0 hcv hr => ?_
  have tk : L2N.Takes (cxOf (L2N.CX P w) P w K mg base n_law_drawn "_law_drawn" (defScope s_law_drawn) f cdv A outer s H E) (fun cls d _ H' => E cls d H') := L2N.takes_of rfl rfl rfl rfl
  have hp := passes_of (X := cxOf (L2N.CX P w) P w K mg base n_law_drawn "_law_drawn" (defScope s_law_drawn) f cdv A outer s H E) rfl
  exact (vss_cons (vs_set 2 [] sc_law_drawn.nd (ve_mod (ve_add (ve_mul (ve_var 0) ve_int) (ve_mul (ve_add (ve_var 1) ve_int) ve_int)) ve_int))
    (vss_cons (vs_set 2 [] sc_law_drawn.nd (ve_mod (ve_mul (ve_var 2) (ve_var 2)) ve_int))
    (vss_cons (vs_set 2 [] sc_law_drawn.nd (ve_mul (ve_mul (ve_add (ve_mod (ve_var 2) ve_int) ve_int) (ve_add (ve_fdiv (ve_var 2) ve_int) ve_int)) (ve_var 2)))
    (vss_one (vs_ret [] (ve_mod (ve_var 2) ve_int))))))
theorem w_law_drawn {f : Addr} {fd : FuncData} (F : Fun K "_law_drawn" "_law_drawn" s_law_drawn f fd) (hm : mg "_law_drawn" = some (.ref f)) (T : Tx K mg g) : VFn P w K mg base g 1 "_law_drawn" m_law_drawn :=
  ⟨f, fd, ["cell", "k"], hm, F.kp, F.binds fun _ _ _ _ _ _ us hl => match us, hl with | [_, _], _ => rfl, v_law_drawn F hm T⟩
abbrev s_law_word : Stmt := topS 22
abbrev n_law_word : List Str := ["e", "flags", "flag"]
theorem sc_law_word : FnScope n_law_word ["e"] (defScope s_law_word) := ⟨rfl, rfl, rfl, by decide +kernel, rfl, by decide +kernel, by decide +kernel⟩
theorem v_law_word {f made : Addr} {fd : FuncData} (F : Fun K "_law_word" "_law_word" s_law_word f fd) (T : Tx K mg g) (ET : ErrT K mg g nams alls made) : WordOk P w K mg base g nams 2 f :=
  word_hot (P := P) (w := w) (base := base) (k := 1) (N := n_law_word) (b := b_law_word) F sc_law_word (fun _ _ _ _ _ _ us hl => match us, hl with | [_], _ => rfl) (fun c cdv A outer s H F0 a oe hc hz hf hr hotc => by
    have hpn : (a, oe) ∈ (L2H.cxH L2.CX0 P w K mg base n_law_word "_law_word" (defScope s_law_word) f cdv A outer s H L2.E0 (a, oe)).pn := List.mem_singleton.mpr rfl
    exact (vss_cons (vs_set 1 [] sc_law_word.nd (ve_lst (va_cons (ve_isC 0 ET hc hz hf hpn T.b_isinstance (by decide)) (va_cons (ve_isC 0 ET hc hz hf hpn T.b_isinstance (by decide)) (va_cons (ve_isC 0 ET hc hz hf hpn T.b_isinstance (by decide)) (va_cons (ve_isC 0 ET hc hz hf hpn T.b_isinstance (by decide)) va_nil))))))
    (vss_cons (vs_if [] (vw_pt (vw_or (vt_neH hr (ve_callB (cr_sumH hotc) cd_sum T.b_sum (by decide +kernel) (va_cons (ve_lcH [("flag", 2)] hotc sc_law_word.nd (ve_var 1) (blkOk_by (N := n_law_word) (sc := defScope s_law_word) (by decide +kernel)) (fun _ _ _ _ _ => (vg_name 2 sc_law_word.nd)) (fun _ _ _ _ _ => vts_nil) (fun _ _ _ _ _ => (ve_callTy call_int1 cd_int T.b_int (by decide +kernel) (va_cons (ve_var 2) va_nil)))) va_nil)) ve_int) (vw_or1 (vt_not (vt_of (ve_isV 0 ET hc hz hf hpn T.b_isinstance T.b_ValueError)))))) (vss_one (vs_ret [] (ve_tup (va_cons ve_str (va_cons ve_str va_nil))))) vss_nil)
    (vss_one (vs_ret [] (ve_tup (va_cons ve_str (va_cons (ve_ixH hr (ve_lst (va_cons ve_str (va_cons ve_str (va_cons ve_str (va_cons ve_str va_nil))))) (ve_index (ve_var 1) ve_bl)) va_nil)))))))) word_eq
abbrev s_law_told : Stmt := topS 23
theorem sc_law_told : FnScope ["deed", "e"] ["deed"] (defScope s_law_told) := ⟨rfl, rfl, rfl, by decide +kernel, rfl, by decide +kernel, by decide +kernel⟩
theorem told_mk {gt fW made : Addr} {fd : FuncData} (F : Fun K "_law_told" "_law_told" s_law_told gt fd) (hm : mg "_law_told" = some (.ref gt)) (W : WordOk P w K mg base g nams 2 fW) (kW : PySem.W.keepIn K (.ref fW) = true) (hmW : mg "_law_word" = some (.ref fW)) (hmM : mg "MadeError" = some (.ref made)) (ET : ErrT K mg g nams alls made) : TellT P w K mg base g nams 2 := by
  have b := F.binds (ps := ["deed"]) (fun _ _ _ _ _ _ us hl => match us, hl with | [_], _ => rfl)
  obtain ⟨oc, od, kV, doc, pm, an, cdv, ct, osl, rfl, lk, hcd⟩ := F.ex
  exact ⟨gt, fW, made, defArgs s_law_told, defScope s_law_told, _, _, _, _, _, _, _, _, _, _, _, _, _, _, _, _, _, _, _, _, hm, F.kp, lk, hcd, b, sc_law_told, rfl, .inl rfl, rfl, rfl, hmM, hmW, kW, ET.made, W⟩
abbrev s_law_draw : Stmt := topS 24
abbrev n_law_draw : List Str := ["seed", "table", "column", "row", "plain"]
theorem sc_law_draw : FnScope n_law_draw ["seed", "table", "column", "row"] (defScope s_law_draw) := ⟨rfl, rfl, rfl, by decide +kernel, rfl, by decide +kernel, by decide +kernel⟩
theorem v_law_draw {f : Addr} {fd : FuncData} (F : Fun K "_law_draw" "_law_draw" s_law_draw f fd) (hm : mg "_law_draw" = some (.ref f)) (T : Tx K mg g) : FnOk P w K mg base (L2N.CX P w) 1 f fd ["seed", "table", "column", "row"] (spV K g m_law_draw) := by
  refine fn_ok (N := n_law_draw) (b := b_law_draw) F sc_law_draw fun cdv A outer s H E F0 hcv hr => ?_
  have tk : L2N.Takes (cxOf (L2N.CX P w) P w K mg base n_law_draw "_law_draw" (defScope s_law_draw) f cdv A outer s H E) (fun cls d _ H' => E cls d H') := L2N.takes_of rfl rfl rfl rfl
  have hp := passes_of (X := cxOf (L2N.CX P w) P w K mg base n_law_draw "_law_draw" (defScope s_law_draw) f cdv A outer s H E) rfl
  exact (vss_cons (vs_set 4 [] sc_law_draw.nd (ve_add (ve_add (ve_add (ve_add (ve_mul ve_int (ve_var 0)) (ve_mul ve_int (ve_var 1))) (ve_mul ve_int (ve_var 2))) (ve_mul ve_int (ve_var 3))) ve_int))
    (vss_cons (vs_set 4 [] sc_law_draw.nd (ve_mod (ve_mul (ve_var 4) ve_int) ve_int))
    (vss_one (vs_ret [] (ve_mod (ve_add (ve_mul (ve_var 4) (ve_add (ve_var 4) ve_int)) (ve_var 3)) ve_int)))))
theorem w_law_draw {f : Addr} {fd : FuncData} (F : Fun K "_law_draw" "_law_draw" s_law_draw f fd) (hm : mg "_law_draw" = some (.ref f)) (T : Tx K mg g) : VFn P w K mg base g 1 "_law_draw" m_law_draw :=
  ⟨f, fd, ["seed", "table", "column", "row"], hm, F.kp, F.binds fun _ _ _ _ _ _ us hl => match us, hl with | [_, _, _, _], _ => rfl, v_law_draw F hm T⟩
abbrev s_law_told_word : Stmt := topS 25
abbrev n_law_told_word : List Str := ["number", "low", "high", "lengths", "found", "turn", "many", "left"]
theorem sc_law_told_word : FnScope n_law_told_word ["number", "low", "high"] (defScope s_law_told_word) := ⟨rfl, rfl, rfl, by decide +kernel, rfl, by decide +kernel, by decide +kernel⟩
theorem v_law_told_word {f : Addr} {fd : FuncData} (F : Fun K "_law_told_word" "_law_told_word" s_law_told_word f fd) (hm : mg "_law_told_word" = some (.ref f)) (T : Tx K mg g) : FnOk P w K mg base (L2N.CX P w) 1 f fd ["number", "low", "high"] (spV K g m_law_told_word) := by
  refine fn_ok (N := n_law_told_word) (b := b_law_told_word) F sc_law_told_word fun cdv A outer s H E F0 hcv hr => ?_
  have tk : L2N.Takes (cxOf (L2N.CX P w) P w K mg base n_law_told_word "_law_told_word" (defScope s_law_told_word) f cdv A outer s H E) (fun cls d _ H' => E cls d H') := L2N.takes_of rfl rfl rfl rfl
  have hp := passes_of (X := cxOf (L2N.CX P w) P w K mg base n_law_told_word "_law_told_word" (defScope s_law_told_word) f cdv A outer s H E) rfl
  exact (vss_cons (vs_set 3 [] sc_law_told_word.nd (ve_add (ve_sub (ve_var 2) (ve_var 1)) ve_int))
    (vss_cons (vs_par2 6 7 [] rfl sc_law_told_word.nd (va_cons (ve_add (ve_var 1) (ve_mod (ve_var 0) (ve_var 3))) (va_cons (ve_fdiv (ve_var 0) (ve_var 3)) va_nil)))
    (vss_cons (vs_own 4 [] sc_law_told_word.nd va_nil)
    (vss_cons (vs_for [] hp rfl (vi_range1 T.b_range (va_cons (ve_var 6) va_nil)) (vg_name 5 sc_law_told_word.nd) (vss_cons (vs_app2 4 [] (ve_sub_ix hr ve_str (ve_mod (ve_var 7) ve_int)))
    (vss_one (vs_set 7 [] sc_law_told_word.nd (ve_fdiv (ve_var 7) ve_int)))))
    (vss_one (vs_ret [4] (ve_join ve_str (ve_var 4))))))))
theorem w_law_told_word {f : Addr} {fd : FuncData} (F : Fun K "_law_told_word" "_law_told_word" s_law_told_word f fd) (hm : mg "_law_told_word" = some (.ref f)) (T : Tx K mg g) : VFn P w K mg base g 1 "_law_told_word" m_law_told_word :=
  ⟨f, fd, ["number", "low", "high"], hm, F.kp, F.binds fun _ _ _ _ _ _ us hl => match us, hl with | [_, _, _], _ => rfl, v_law_told_word F hm T⟩
abbrev s_law_shared : Stmt := topS 26
abbrev n_law_shared : List Str := ["number", "shares", "left", "at"]
theorem sc_law_shared : FnScope n_law_shared ["number", "shares"] (defScope s_law_shared) := ⟨rfl, rfl, rfl, by decide +kernel, rfl, by decide +kernel, by decide +kernel⟩
theorem v_law_shared {f : Addr} {fd : FuncData} (F : Fun K "_law_shared" "_law_shared" s_law_shared f fd) (hm : mg "_law_shared" = some (.ref f)) (T : Tx K mg g) : FnOk P w K mg base (L2N.CX P w) 1 f fd ["number", "shares"] (spV K g m_law_shared) := by
  refine fn_ok (N := n_law_shared) (b := b_law_shared) F sc_law_shared fun cdv A outer s H E F0 hcv hr => ?_
  have tk : L2N.Takes (cxOf (L2N.CX P w) P w K mg base n_law_shared "_law_shared" (defScope s_law_shared) f cdv A outer s H E) (fun cls d _ H' => E cls d H') := L2N.takes_of rfl rfl rfl rfl
  have hp := passes_of (X := cxOf (L2N.CX P w) P w K mg base n_law_shared "_law_shared" (defScope s_law_shared) f cdv A outer s H E) rfl
  exact (vss_cons (vs_set 2 [] sc_law_shared.nd (ve_mod (ve_var 0) (ve_callB (cr_sum rfl) cd_sum T.b_sum (by decide +kernel) (va_cons (ve_var 1) va_nil))))
    (vss_one (vs_ret [] (ve_callB call_len cd_len T.b_len (by decide +kernel) (va_cons (ve_lc [("at", 3)] rfl sc_law_shared.nd (vi_range2 T.b_range (va_cons ve_int (va_cons (ve_callB call_len cd_len T.b_len (by decide +kernel) (va_cons (ve_var 1) va_nil)) va_nil))) (blkOk_by (N := n_law_shared) (sc := defScope s_law_shared) (by decide +kernel)) (fun _ _ _ _ _ => (vg_name 3 sc_law_shared.nd)) (fun _ _ _ _ _ => vts_one (vt_ge (ve_var 2) (ve_callB (cr_sum rfl) cd_sum T.b_sum (by decide +kernel) (va_cons (ve_slice (ve_var 1) vo_none (vo_some (ve_var 3))) va_nil)))) (fun _ _ _ _ _ => (ve_var 3))) va_nil)))))
theorem w_law_shared {f : Addr} {fd : FuncData} (F : Fun K "_law_shared" "_law_shared" s_law_shared f fd) (hm : mg "_law_shared" = some (.ref f)) (T : Tx K mg g) : VFn P w K mg base g 1 "_law_shared" m_law_shared :=
  ⟨f, fd, ["number", "shares"], hm, F.kp, F.binds fun _ _ _ _ _ _ us hl => match us, hl with | [_, _], _ => rfl, v_law_shared F hm T⟩
abbrev s_law_spread : Stmt := topS 27
abbrev n_law_spread : List Str := ["number", "row", "size", "step", "by"]
theorem sc_law_spread : FnScope n_law_spread ["number", "row", "size"] (defScope s_law_spread) := ⟨rfl, rfl, rfl, by decide +kernel, rfl, by decide +kernel, by decide +kernel⟩
theorem v_law_spread {f : Addr} {fd : FuncData} (F : Fun K "_law_spread" "_law_spread" s_law_spread f fd) (hm : mg "_law_spread" = some (.ref f)) (T : Tx K mg g) : FnOk P w K mg base (L2N.CX P w) 1 f fd ["number", "row", "size"] (spV K g m_law_spread) := by
  refine fn_ok (N := n_law_spread) (b := b_law_spread) F sc_law_spread fun cdv A outer s H E F0 hcv hr => ?_
  have tk : L2N.Takes (cxOf (L2N.CX P w) P w K mg base n_law_spread "_law_spread" (defScope s_law_spread) f cdv A outer s H E) (fun cls d _ H' => E cls d H') := L2N.takes_of rfl rfl rfl rfl
  have hp := passes_of (X := cxOf (L2N.CX P w) P w K mg base n_law_spread "_law_spread" (defScope s_law_spread) f cdv A outer s H E) rfl
  exact (vss_cons (vs_set 3 [] sc_law_spread.nd (ve_add ve_int (ve_mod (ve_fdiv (ve_var 0) (ve_var 2)) (ve_var 2))))
    (vss_cons (vs_while 4096 [] hp (vt_gt (ve_callB call_len cd_len T.b_len (by decide +kernel) (va_cons (ve_lc [("by", 4)] rfl sc_law_spread.nd (vi_range2 T.b_range (va_cons ve_int (va_cons (ve_add (ve_var 2) ve_int) va_nil))) (blkOk_by (N := n_law_spread) (sc := defScope s_law_spread) (by decide +kernel)) (fun _ _ _ _ _ => (vg_name 4 sc_law_spread.nd)) (fun _ _ _ _ _ => vts_one (vw_pt (vw_and (vt_eq hr (ve_mod (ve_var 2) (ve_var 4)) ve_int) (vw_and1 (vt_eq hr (ve_mod (ve_var 3) (ve_var 4)) ve_int))))) (fun _ _ _ _ _ => (ve_var 4))) va_nil)) ve_int) (vss_one (vs_set 3 [] sc_law_spread.nd (ve_add (ve_var 3) ve_int))))
    (vss_one (vs_ret [] (ve_mod (ve_add (ve_mod (ve_var 0) (ve_var 2)) (ve_mul (ve_var 1) (ve_var 3))) (ve_var 2))))))
theorem w_law_spread {f : Addr} {fd : FuncData} (F : Fun K "_law_spread" "_law_spread" s_law_spread f fd) (hm : mg "_law_spread" = some (.ref f)) (T : Tx K mg g) : VFn P w K mg base g 1 "_law_spread" m_law_spread :=
  ⟨f, fd, ["number", "row", "size"], hm, F.kp, F.binds fun _ _ _ _ _ _ us hl => match us, hl with | [_, _, _], _ => rfl, v_law_spread F hm T⟩
abbrev s_law : Stmt := topS 28
abbrev n_law : List Str := ["script", "k", "more", "places", "seed", "number", "shares", "size", "rows", "bad", "low", "high", "some", "j", "row"]
theorem sc_law : FnScope n_law ["script"] (defScope s_law) := ⟨rfl, rfl, rfl, by decide +kernel, rfl, by decide +kernel, by decide +kernel⟩
theorem v_law {f : Addr} {fd : FuncData} (F : Fun K "law" "law" s_law f fd) (hm : mg "law" = some (.ref f)) (T : Tx K mg g) (TT : TellT P w K mg base g nams 2) (LT : LawTab base mg g "law" fd) (f_law_cell : VFn P w K mg base g 1 "_law_cell" m_law_cell) (f_law_drawn : VFn P w K mg base g 1 "_law_drawn" m_law_drawn) (f_law_draw : VFn P w K mg base g 1 "_law_draw" m_law_draw) (f_word_of : VFn P w K mg base g 1 "word_of" m_word_of) (f_law_told_word : VFn P w K mg base g 1 "_law_told_word" m_law_told_word) (f_shared_of : VFn P w K mg base g 1 "shared_of" m_shared_of) (f_law_shared : VFn P w K mg base g 1 "_law_shared" m_law_shared) (f_spread_of : VFn P w K mg base g 2 "spread_of" m_spread_of) (f_law_spread : VFn P w K mg base g 1 "_law_spread" m_law_spread) (f_drawn : VFn P w K mg base g 2 "drawn" m_drawn) : FnOk P w K mg base (L2N.CX P w) 5 f fd ["script"] (spV K g m_law) := by
  refine fn_ok (N := n_law) (b := b_law) F sc_law fun cdv A outer s H E F0 hcv hr => ?_
  have tk : L2N.Takes (cxOf (L2N.CX P w) P w K mg base n_law "law" (defScope s_law) f cdv A outer s H E) (fun cls d _ H' => E cls d H') := L2N.takes_of rfl rfl rfl rfl
  have hp := passes_of (X := cxOf (L2N.CX P w) P w K mg base n_law "law" (defScope s_law) f cdv A outer s H E) rfl
  have LH : LamHere (cxOf (L2N.CX P w) P w K mg base n_law "law" (defScope s_law) f cdv A outer s H E) g := LT.here hcv
  exact (vss_cons (vs_for [] hp rfl (vi_range1 T.b_range (va_cons (ve_callB (call_max2 rfl) cd_max T.b_max (by decide +kernel) (va_cons ve_int (va_cons (ve_callB (call_min2 rfl) cd_min T.b_min (by decide +kernel) (va_cons ve_int (va_cons (ve_callB call_len cd_len T.b_len (by decide +kernel) (va_cons (ve_var 0) va_nil)) va_nil))) va_nil))) va_nil)) (vg_name 1 sc_law.nd) (vss_cons (vs_set 2 [] sc_law.nd (ve_call f_law_drawn hr (by decide) tk (va_cons (ve_call f_law_cell hr (by decide) tk (va_cons (ve_var 0) (va_cons (ve_var 1) va_nil))) (va_cons (ve_var 1) va_nil))))
    (vss_cons (vs_set 3 [] sc_law.nd (ve_lc [("j", 13)] rfl sc_law.nd (vi_range1 T.b_range (va_cons ve_int va_nil)) (blkOk_by (N := n_law) (sc := defScope s_law) (by decide +kernel)) (fun _ _ _ _ _ => (vg_name 13 sc_law.nd)) (fun _ _ _ _ _ => vts_nil) (fun _ _ _ _ _ => (ve_mod (ve_call f_law_drawn hr (by decide) tk0 (va_cons (ve_var 2) (va_cons (ve_var 13) va_nil))) (ve_sub_ix hr (ve_lst (va_cons ve_int (va_cons ve_int (va_cons ve_int va_nil)))) (ve_var 13))))))
    (vss_cons (vs_set 4 [] sc_law.nd (ve_sub_ix hr (ve_lst (va_cons (ve_mod (ve_var 2) ve_int) (va_cons ve_int (va_cons ve_int va_nil)))) (ve_mod (ve_fdiv (ve_var 2) (ve_pow ve_int ve_int)) ve_int)))
    (vss_cons (vs_set 5 [] sc_law.nd (ve_call f_law_draw hr (by decide) tk (va_cons (ve_var 4) (va_cons (ve_sub_ix hr (ve_var 3) ve_int) (va_cons (ve_sub_ix hr (ve_var 3) ve_int) (va_cons (ve_sub_ix hr (ve_var 3) ve_int) va_nil))))))
    (vss_cons (vs_if [] (vt_ne hr (ve_told (k := 2) TT LH hr (by decide) (by decide) (LamX.lamS_by (sc := defScope s_law) (by decide +kernel)) rfl (fun _ _ _ _ _ => rfl) (fun A outer s H E f0 d0 hr tkl => (ve_call f_drawn hr (by decide) tkl (va_cons (ve_var 4) (va_cons (ve_sub_ix hr (ve_var 3) ve_int) (va_cons (ve_sub_ix hr (ve_var 3) ve_int) (va_cons (ve_sub_ix hr (ve_var 3) ve_int) va_nil))))))) (ve_var 5)) (vss_one (vs_ret [] ve_bl)) vss_nil)
    (vss_cons (vs_par2 10 11 [] rfl sc_law.nd (va_cons (ve_add ve_int (ve_mod (ve_var 2) ve_int)) (va_cons (ve_add ve_int (ve_mod (ve_fdiv (ve_var 2) ve_int) ve_int)) va_nil)))
    (vss_cons (vs_if [] (vt_ne hr (ve_call f_word_of hr (by decide) tk (va_cons (ve_var 5) (va_cons (ve_var 10) (va_cons (ve_var 11) va_nil)))) (ve_call f_law_told_word hr (by decide) tk (va_cons (ve_var 5) (va_cons (ve_var 10) (va_cons (ve_var 11) va_nil))))) (vss_one (vs_ret [] ve_bl)) vss_nil)
    (vss_cons (vs_setLc 6 [] [("j", 13)] rfl sc_law.nd (vi_range1 T.b_range (va_cons (ve_add ve_int (ve_mod (ve_fdiv (ve_var 2) ve_int) ve_int)) va_nil)) (blkOk_by (N := n_law) (sc := defScope s_law) (by decide +kernel)) (fun _ _ _ _ _ => (vg_name 13 sc_law.nd)) (fun _ _ _ _ _ => vts_nil) (fun _ _ _ _ _ => (ve_add ve_int (ve_mod (ve_call f_law_drawn hr (by decide) tk0 (va_cons (ve_var 2) (va_cons (ve_add ve_int (ve_var 13)) va_nil))) ve_int))) (sw_true rfl rfl rfl (by decide +kernel)))
    (vss_cons (vs_if [] (vt_ne hr (ve_call f_shared_of hr (by decide) tk (va_cons (ve_var 5) (va_cons (ve_var 6) va_nil))) (ve_call f_law_shared hr (by decide) tk (va_cons (ve_var 5) (va_cons (ve_var 6) va_nil)))) (vss_one (vs_ret [] ve_bl)) vss_nil)
    (vss_cons (vs_set 7 [] sc_law.nd (ve_sub_ix hr (ve_lst (va_cons (ve_add ve_int (ve_mod (ve_fdiv (ve_var 2) ve_int) ve_int)) (va_cons (ve_add ve_int (ve_mod (ve_fdiv (ve_var 2) ve_int) ve_int)) va_nil))) (ve_mod (ve_fdiv (ve_var 2) (ve_pow ve_int ve_int)) ve_int)))
    (vss_cons (vs_setLc 8 [] [("row", 14)] rfl sc_law.nd (vi_range2 T.b_range (va_cons ve_int (va_cons (ve_add (ve_callB (call_min2 rfl) cd_min T.b_min (by decide +kernel) (va_cons (ve_var 7) (va_cons ve_int va_nil))) ve_int) va_nil))) (blkOk_by (N := n_law) (sc := defScope s_law) (by decide +kernel)) (fun _ _ _ _ _ => (vg_name 14 sc_law.nd)) (fun _ _ _ _ _ => vts_nil) (fun _ _ _ _ _ => (ve_call f_spread_of hr (by decide) tk0 (va_cons (ve_var 5) (va_cons (ve_var 14) (va_cons (ve_var 7) va_nil))))) (sw_true rfl rfl rfl (by decide +kernel)))
    (vss_cons (vs_if [] (vt_ne hr (ve_var 8) (ve_lc [("row", 14)] rfl sc_law.nd (vi_range2 T.b_range (va_cons ve_int (va_cons (ve_add (ve_callB (call_min2 rfl) cd_min T.b_min (by decide +kernel) (va_cons (ve_var 7) (va_cons ve_int va_nil))) ve_int) va_nil))) (blkOk_by (N := n_law) (sc := defScope s_law) (by decide +kernel)) (fun _ _ _ _ _ => (vg_name 14 sc_law.nd)) (fun _ _ _ _ _ => vts_nil) (fun _ _ _ _ _ => (ve_call f_law_spread hr (by decide) tk0 (va_cons (ve_var 5) (va_cons (ve_var 14) (va_cons (ve_var 7) va_nil))))))) (vss_one (vs_ret [] ve_bl)) vss_nil)
    (vss_cons (vs_if [] (vt_ne hr (ve_lenSet T.b_len T.b_set (ve_var 8)) (ve_callB call_len cd_len T.b_len (by decide +kernel) (va_cons (ve_var 8) va_nil))) (vss_one (vs_ret [] ve_bl)) vss_nil)
    (vss_cons (vs_for [] hp rfl (vi_seq (ve_lst (va_cons (ve_neg ve_int) (va_cons ve_non (va_cons ve_bl (va_cons ve_str va_nil)))))) (vg_name 9 sc_law.nd) (vss_cons (vs_own 12 [] sc_law.nd (va_cons (ve_told (k := 2) TT LH hr (by decide) (by decide) (LamX.lamS_by (sc := defScope s_law) (by decide +kernel)) rfl (fun _ _ _ _ _ => rfl) (fun A outer s H E f0 d0 hr tkl => (ve_call f_drawn hr (by decide) tkl (va_cons (ve_var 9) (va_cons ve_int (va_cons ve_int (va_cons ve_int va_nil))))))) va_nil))
    (vss_cons (vs_app2 12 [] (ve_told (k := 2) TT LH hr (by decide) (by decide) (LamX.lamS_by (sc := defScope s_law) (by decide +kernel)) rfl (fun _ _ _ _ _ => rfl) (fun A outer s H E f0 d0 hr tkl => (ve_call f_drawn hr (by decide) tkl (va_cons ve_int (va_cons (ve_var 9) (va_cons ve_int (va_cons ve_int va_nil))))))))
    (vss_cons (vs_app2 12 [] (ve_told (k := 2) TT LH hr (by decide) (by decide) (LamX.lamS_by (sc := defScope s_law) (by decide +kernel)) rfl (fun _ _ _ _ _ => rfl) (fun A outer s H E f0 d0 hr tkl => (ve_call f_drawn hr (by decide) tkl (va_cons ve_int (va_cons ve_int (va_cons (ve_var 9) (va_cons ve_int va_nil))))))))
    (vss_cons (vs_app2 12 [] (ve_told (k := 2) TT LH hr (by decide) (by decide) (LamX.lamS_by (sc := defScope s_law) (by decide +kernel)) rfl (fun _ _ _ _ _ => rfl) (fun A outer s H E f0 d0 hr tkl => (ve_call f_drawn hr (by decide) tkl (va_cons ve_int (va_cons ve_int (va_cons ve_int (va_cons (ve_var 9) va_nil))))))))
    (vss_one (vs_if [12] (vt_ne hr (ve_var 12) (ve_mul (ve_lst (va_cons (ve_tup (va_cons ve_str (va_cons ve_str va_nil))) va_nil)) ve_int)) (vss_one (vs_ret [] ve_bl)) vss_nil)))))))
    (vss_cons (vs_if [] (vt_ne hr (ve_told (k := 2) TT LH hr (by decide) (by decide) (LamX.lamS_by (sc := defScope s_law) (by decide +kernel)) rfl (fun _ _ _ _ _ => rfl) (fun A outer s H E f0 d0 hr tkl => (ve_call f_drawn hr (by decide) tkl (va_cons ve_int (va_cons ve_int (va_cons ve_int (va_cons ve_int va_nil))))))) (ve_tup (va_cons ve_str (va_cons ve_str va_nil)))) (vss_one (vs_ret [] ve_bl)) vss_nil)
    (vss_one (vs_if [] (vt_ne hr (ve_told (k := 2) TT LH hr (by decide) (by decide) (LamX.lamS_by (sc := defScope s_law) (by decide +kernel)) rfl (fun _ _ _ _ _ => rfl) (fun A outer s H E f0 d0 hr tkl => (ve_call f_drawn hr (by decide) tkl (va_cons ve_int (va_cons ve_int (va_cons ve_int (va_cons ve_int va_nil))))))) (ve_tup (va_cons ve_str (va_cons ve_str va_nil)))) (vss_one (vs_ret [] ve_bl)) vss_nil))))))))))))))))))
    (vss_one (vs_ret [] ve_bl)))
end
theorem all_mk {l : PySem.W.OpenLaw} {w : World} {K : PySem.W.Frag} {h : Heap} {mg : Str → Option Value} {fa cT PT : Addr} {dT : Option Addr} {vT : Array Value} {slT : Array (Option Value)}
    {a_is_count : Addr} {od_is_count an_is_count : Option Addr} {sl_is_count : Array (Option Value)} {oc_is_count kV_is_count dc_is_count pm_is_count cd_is_count ct_is_count : Value}
    {a_need : Addr} {od_need an_need : Option Addr} {sl_need : Array (Option Value)} {oc_need kV_need dc_need pm_need cd_need ct_need : Value}
    {a_draw : Addr} {od_draw an_draw : Option Addr} {sl_draw : Array (Option Value)} {oc_draw kV_draw dc_draw pm_draw cd_draw ct_draw : Value}
    {a_drawn : Addr} {od_drawn an_drawn : Option Addr} {sl_drawn : Array (Option Value)} {oc_drawn kV_drawn dc_drawn pm_drawn cd_drawn ct_drawn : Value}
    {a_word_of : Addr} {od_word_of an_word_of : Option Addr} {sl_word_of : Array (Option Value)} {oc_word_of kV_word_of dc_word_of pm_word_of cd_word_of ct_word_of : Value}
    {a_shared_of : Addr} {od_shared_of an_shared_of : Option Addr} {sl_shared_of : Array (Option Value)} {oc_shared_of kV_shared_of dc_shared_of pm_shared_of cd_shared_of ct_shared_of : Value}
    {a_divides_both : Addr} {od_divides_both an_divides_both : Option Addr} {sl_divides_both : Array (Option Value)} {oc_divides_both kV_divides_both dc_divides_both pm_divides_both cd_divides_both ct_divides_both : Value}
    {a_spread_of : Addr} {od_spread_of an_spread_of : Option Addr} {sl_spread_of : Array (Option Value)} {oc_spread_of kV_spread_of dc_spread_of pm_spread_of cd_spread_of ct_spread_of : Value}
    {a_law_cell : Addr} {od_law_cell an_law_cell : Option Addr} {sl_law_cell : Array (Option Value)} {oc_law_cell kV_law_cell dc_law_cell pm_law_cell cd_law_cell ct_law_cell : Value}
    {a_law_drawn : Addr} {od_law_drawn an_law_drawn : Option Addr} {sl_law_drawn : Array (Option Value)} {oc_law_drawn kV_law_drawn dc_law_drawn pm_law_drawn cd_law_drawn ct_law_drawn : Value}
    {a_law_word : Addr} {od_law_word an_law_word : Option Addr} {sl_law_word : Array (Option Value)} {oc_law_word kV_law_word dc_law_word pm_law_word cd_law_word ct_law_word : Value}
    {a_law_draw : Addr} {od_law_draw an_law_draw : Option Addr} {sl_law_draw : Array (Option Value)} {oc_law_draw kV_law_draw dc_law_draw pm_law_draw cd_law_draw ct_law_draw : Value}
    {a_law_told_word : Addr} {od_law_told_word an_law_told_word : Option Addr} {sl_law_told_word : Array (Option Value)} {oc_law_told_word kV_law_told_word dc_law_told_word pm_law_told_word cd_law_told_word ct_law_told_word : Value}
    {a_law_shared : Addr} {od_law_shared an_law_shared : Option Addr} {sl_law_shared : Array (Option Value)} {oc_law_shared kV_law_shared dc_law_shared pm_law_shared cd_law_shared ct_law_shared : Value}
    {a_law_spread : Addr} {od_law_spread an_law_spread : Option Addr} {sl_law_spread : Array (Option Value)} {oc_law_spread kV_law_spread dc_law_spread pm_law_spread cd_law_spread ct_law_spread : Value}
    {a_law : Addr} {od_law an_law : Option Addr} {sl_law : Array (Option Value)} {oc_law kV_law dc_law pm_law ct_law : Value}
    {a_law_told : Addr} {od_law_told an_law_told : Option Addr} {sl_law_told : Array (Option Value)} {oc_law_told kV_law_told dc_law_told pm_law_told cd_law_told ct_law_told : Value}
    {t_FIRST : Tok}
    {t_MOST_PLACE : Tok}
    {t_MOST_SEED : Tok}
    {t_SECOND : Tok}
    {C_BadDraw : Addr}
    {C_BadPlan : Addr}
    {C_BadTest : Addr}
    {C_NoCell : Addr}
    {made : Addr}
    (X : K.In h) (G : h.Ns mainGlobals mg) (hfa : mg "law" = some (.ref fa))
    (g_is_count : PySem.W.nsIn K mainGlobals "is_count" = some (some (.ref a_is_count)))
    (l_is_count : K.lookup a_is_count = some ⟨oc_is_count, od_is_count, .func (PySem.W.fnOf "is_count" "is_count" (defArgs s_is_count) (defBody s_is_count) (defScope s_is_count) .none kV_is_count dc_is_count pm_is_count an_is_count cd_is_count ct_is_count), sl_is_count⟩)
    (c_is_count : PySem.W.codeIn K cd_is_count "is_count" = true)
    (k_is_count : PySem.W.keepIn K (.ref a_is_count) = true)
    (g_need : PySem.W.nsIn K mainGlobals "need" = some (some (.ref a_need)))
    (l_need : K.lookup a_need = some ⟨oc_need, od_need, .func (PySem.W.fnOf "need" "need" (defArgs s_need) (defBody s_need) (defScope s_need) .none kV_need dc_need pm_need an_need cd_need ct_need), sl_need⟩)
    (c_need : PySem.W.codeIn K cd_need "need" = true)
    (k_need : PySem.W.keepIn K (.ref a_need) = true)
    (g_draw : PySem.W.nsIn K mainGlobals "draw" = some (some (.ref a_draw)))
    (l_draw : K.lookup a_draw = some ⟨oc_draw, od_draw, .func (PySem.W.fnOf "draw" "draw" (defArgs s_draw) (defBody s_draw) (defScope s_draw) .none kV_draw dc_draw pm_draw an_draw cd_draw ct_draw), sl_draw⟩)
    (c_draw : PySem.W.codeIn K cd_draw "draw" = true)
    (k_draw : PySem.W.keepIn K (.ref a_draw) = true)
    (g_drawn : PySem.W.nsIn K mainGlobals "drawn" = some (some (.ref a_drawn)))
    (l_drawn : K.lookup a_drawn = some ⟨oc_drawn, od_drawn, .func (PySem.W.fnOf "drawn" "drawn" (defArgs s_drawn) (defBody s_drawn) (defScope s_drawn) .none kV_drawn dc_drawn pm_drawn an_drawn cd_drawn ct_drawn), sl_drawn⟩)
    (c_drawn : PySem.W.codeIn K cd_drawn "drawn" = true)
    (k_drawn : PySem.W.keepIn K (.ref a_drawn) = true)
    (g_word_of : PySem.W.nsIn K mainGlobals "word_of" = some (some (.ref a_word_of)))
    (l_word_of : K.lookup a_word_of = some ⟨oc_word_of, od_word_of, .func (PySem.W.fnOf "word_of" "word_of" (defArgs s_word_of) (defBody s_word_of) (defScope s_word_of) .none kV_word_of dc_word_of pm_word_of an_word_of cd_word_of ct_word_of), sl_word_of⟩)
    (c_word_of : PySem.W.codeIn K cd_word_of "word_of" = true)
    (k_word_of : PySem.W.keepIn K (.ref a_word_of) = true)
    (g_shared_of : PySem.W.nsIn K mainGlobals "shared_of" = some (some (.ref a_shared_of)))
    (l_shared_of : K.lookup a_shared_of = some ⟨oc_shared_of, od_shared_of, .func (PySem.W.fnOf "shared_of" "shared_of" (defArgs s_shared_of) (defBody s_shared_of) (defScope s_shared_of) .none kV_shared_of dc_shared_of pm_shared_of an_shared_of cd_shared_of ct_shared_of), sl_shared_of⟩)
    (c_shared_of : PySem.W.codeIn K cd_shared_of "shared_of" = true)
    (k_shared_of : PySem.W.keepIn K (.ref a_shared_of) = true)
    (g_divides_both : PySem.W.nsIn K mainGlobals "divides_both" = some (some (.ref a_divides_both)))
    (l_divides_both : K.lookup a_divides_both = some ⟨oc_divides_both, od_divides_both, .func (PySem.W.fnOf "divides_both" "divides_both" (defArgs s_divides_both) (defBody s_divides_both) (defScope s_divides_both) .none kV_divides_both dc_divides_both pm_divides_both an_divides_both cd_divides_both ct_divides_both), sl_divides_both⟩)
    (c_divides_both : PySem.W.codeIn K cd_divides_both "divides_both" = true)
    (k_divides_both : PySem.W.keepIn K (.ref a_divides_both) = true)
    (g_spread_of : PySem.W.nsIn K mainGlobals "spread_of" = some (some (.ref a_spread_of)))
    (l_spread_of : K.lookup a_spread_of = some ⟨oc_spread_of, od_spread_of, .func (PySem.W.fnOf "spread_of" "spread_of" (defArgs s_spread_of) (defBody s_spread_of) (defScope s_spread_of) .none kV_spread_of dc_spread_of pm_spread_of an_spread_of cd_spread_of ct_spread_of), sl_spread_of⟩)
    (c_spread_of : PySem.W.codeIn K cd_spread_of "spread_of" = true)
    (k_spread_of : PySem.W.keepIn K (.ref a_spread_of) = true)
    (g_law_cell : PySem.W.nsIn K mainGlobals "_law_cell" = some (some (.ref a_law_cell)))
    (l_law_cell : K.lookup a_law_cell = some ⟨oc_law_cell, od_law_cell, .func (PySem.W.fnOf "_law_cell" "_law_cell" (defArgs s_law_cell) (defBody s_law_cell) (defScope s_law_cell) .none kV_law_cell dc_law_cell pm_law_cell an_law_cell cd_law_cell ct_law_cell), sl_law_cell⟩)
    (c_law_cell : PySem.W.codeIn K cd_law_cell "_law_cell" = true)
    (k_law_cell : PySem.W.keepIn K (.ref a_law_cell) = true)
    (g_law_drawn : PySem.W.nsIn K mainGlobals "_law_drawn" = some (some (.ref a_law_drawn)))
    (l_law_drawn : K.lookup a_law_drawn = some ⟨oc_law_drawn, od_law_drawn, .func (PySem.W.fnOf "_law_drawn" "_law_drawn" (defArgs s_law_drawn) (defBody s_law_drawn) (defScope s_law_drawn) .none kV_law_drawn dc_law_drawn pm_law_drawn an_law_drawn cd_law_drawn ct_law_drawn), sl_law_drawn⟩)
    (c_law_drawn : PySem.W.codeIn K cd_law_drawn "_law_drawn" = true)
    (k_law_drawn : PySem.W.keepIn K (.ref a_law_drawn) = true)
    (g_law_word : PySem.W.nsIn K mainGlobals "_law_word" = some (some (.ref a_law_word)))
    (l_law_word : K.lookup a_law_word = some ⟨oc_law_word, od_law_word, .func (PySem.W.fnOf "_law_word" "_law_word" (defArgs s_law_word) (defBody s_law_word) (defScope s_law_word) .none kV_law_word dc_law_word pm_law_word an_law_word cd_law_word ct_law_word), sl_law_word⟩)
    (c_law_word : PySem.W.codeIn K cd_law_word "_law_word" = true)
    (k_law_word : PySem.W.keepIn K (.ref a_law_word) = true)
    (g_law_draw : PySem.W.nsIn K mainGlobals "_law_draw" = some (some (.ref a_law_draw)))
    (l_law_draw : K.lookup a_law_draw = some ⟨oc_law_draw, od_law_draw, .func (PySem.W.fnOf "_law_draw" "_law_draw" (defArgs s_law_draw) (defBody s_law_draw) (defScope s_law_draw) .none kV_law_draw dc_law_draw pm_law_draw an_law_draw cd_law_draw ct_law_draw), sl_law_draw⟩)
    (c_law_draw : PySem.W.codeIn K cd_law_draw "_law_draw" = true)
    (k_law_draw : PySem.W.keepIn K (.ref a_law_draw) = true)
    (g_law_told_word : PySem.W.nsIn K mainGlobals "_law_told_word" = some (some (.ref a_law_told_word)))
    (l_law_told_word : K.lookup a_law_told_word = some ⟨oc_law_told_word, od_law_told_word, .func (PySem.W.fnOf "_law_told_word" "_law_told_word" (defArgs s_law_told_word) (defBody s_law_told_word) (defScope s_law_told_word) .none kV_law_told_word dc_law_told_word pm_law_told_word an_law_told_word cd_law_told_word ct_law_told_word), sl_law_told_word⟩)
    (c_law_told_word : PySem.W.codeIn K cd_law_told_word "_law_told_word" = true)
    (k_law_told_word : PySem.W.keepIn K (.ref a_law_told_word) = true)
    (g_law_shared : PySem.W.nsIn K mainGlobals "_law_shared" = some (some (.ref a_law_shared)))
    (l_law_shared : K.lookup a_law_shared = some ⟨oc_law_shared, od_law_shared, .func (PySem.W.fnOf "_law_shared" "_law_shared" (defArgs s_law_shared) (defBody s_law_shared) (defScope s_law_shared) .none kV_law_shared dc_law_shared pm_law_shared an_law_shared cd_law_shared ct_law_shared), sl_law_shared⟩)
    (c_law_shared : PySem.W.codeIn K cd_law_shared "_law_shared" = true)
    (k_law_shared : PySem.W.keepIn K (.ref a_law_shared) = true)
    (g_law_spread : PySem.W.nsIn K mainGlobals "_law_spread" = some (some (.ref a_law_spread)))
    (l_law_spread : K.lookup a_law_spread = some ⟨oc_law_spread, od_law_spread, .func (PySem.W.fnOf "_law_spread" "_law_spread" (defArgs s_law_spread) (defBody s_law_spread) (defScope s_law_spread) .none kV_law_spread dc_law_spread pm_law_spread an_law_spread cd_law_spread ct_law_spread), sl_law_spread⟩)
    (c_law_spread : PySem.W.codeIn K cd_law_spread "_law_spread" = true)
    (k_law_spread : PySem.W.keepIn K (.ref a_law_spread) = true)
    (g_law : PySem.W.nsIn K mainGlobals "law" = some (some (.ref a_law)))
    (l_law : K.lookup a_law = some ⟨oc_law, od_law, .func (PySem.W.fnOf "law" "law" (defArgs s_law) (defBody s_law) (defScope s_law) .none kV_law dc_law pm_law an_law (.ref cT) ct_law), sl_law⟩)
    (c_law : PySem.W.codeIn K (.ref cT) "law" = true)
    (k_law : PySem.W.keepIn K (.ref a_law) = true)
    (g_law_told : PySem.W.nsIn K mainGlobals "_law_told" = some (some (.ref a_law_told)))
    (l_law_told : K.lookup a_law_told = some ⟨oc_law_told, od_law_told, .func (PySem.W.fnOf "_law_told" "_law_told" (defArgs s_law_told) (defBody s_law_told) (defScope s_law_told) .none kV_law_told dc_law_told pm_law_told an_law_told cd_law_told ct_law_told), sl_law_told⟩)
    (c_law_told : PySem.W.codeIn K cd_law_told "_law_told" = true)
    (k_law_told : PySem.W.keepIn K (.ref a_law_told) = true)
    (hT : K.lookup cT = some ⟨.type "code", dT, .fields vT, slT⟩)
    (pT : (vT[11]? : Option Value) = some (.ref PT))
    (oT : codeTab vT cT PT = true)
    (nT : K.lookup PT = none)
    (z_ValueError : PySem.W.nsIn K mainGlobals "ValueError" = some none)
    (z_bool : PySem.W.nsIn K mainGlobals "bool" = some none)
    (z_int : PySem.W.nsIn K mainGlobals "int" = some none)
    (z_isinstance : PySem.W.nsIn K mainGlobals "isinstance" = some none)
    (z_len : PySem.W.nsIn K mainGlobals "len" = some none)
    (z_max : PySem.W.nsIn K mainGlobals "max" = some none)
    (z_min : PySem.W.nsIn K mainGlobals "min" = some none)
    (z_range : PySem.W.nsIn K mainGlobals "range" = some none)
    (z_set : PySem.W.nsIn K mainGlobals "set" = some none)
    (z_sum : PySem.W.nsIn K mainGlobals "sum" = some none)
    (n_FIRST : PySem.W.nsIn K mainGlobals "FIRST" = some (some (.int 2147483647 t_FIRST)))
    (n_MOST_PLACE : PySem.W.nsIn K mainGlobals "MOST_PLACE" = some (some (.int 99 t_MOST_PLACE)))
    (n_MOST_SEED : PySem.W.nsIn K mainGlobals "MOST_SEED" = some (some (.int 999999 t_MOST_SEED)))
    (n_SECOND : PySem.W.nsIn K mainGlobals "SECOND" = some (some (.int 2147483629 t_SECOND)))
    (g_BadDraw : PySem.W.nsIn K mainGlobals "BadDraw" = some (some (.ref C_BadDraw)))
    (g_BadPlan : PySem.W.nsIn K mainGlobals "BadPlan" = some (some (.ref C_BadPlan)))
    (g_BadTest : PySem.W.nsIn K mainGlobals "BadTest" = some (some (.ref C_BadTest)))
    (g_NoCell : PySem.W.nsIn K mainGlobals "NoCell" = some (some (.ref C_NoCell)))
    (x_BadDraw : PySem.W.excIn K C_BadDraw [.type "ValueError", .type "Exception", .type "BaseException", .type "object"] "ValueError.__new__" = true)
    (kp_BadDraw : PySem.W.keepIn K (.ref C_BadDraw) = true)
    (sb_BadDraw : PySem.W.subIn K (.ref C_BadDraw) (.type "BaseException") = some true)
    (ty_BadDraw : PySem.W.typeIn K (.ref C_BadDraw) = some (.type "type"))
    (g_made : PySem.W.nsIn K mainGlobals "MadeError" = some (some (.ref made)))
    (q1 : PySem.W.specialIn K (.builtin "object.__class__") "__get__" = some (some (.builtin "getset_descriptor.__get__")))
    (q2 : PySem.W.takesIn K (.builtin "object.__class__") = some true)
    (e1_BadDraw : PySem.W.findIn K (.ref C_BadDraw) "__getattribute__" = some (some (.builtin "BaseException.__getattribute__")))
    (e2_BadDraw : PySem.W.findIn K (.ref C_BadDraw) "__getattr__" = some none)
    (e4_BadDraw : PySem.W.hasDictIn K C_BadDraw = true)
    (e5_BadDraw : PySem.W.findIn K (.ref C_BadDraw) "__class__" = some (some (.builtin "object.__class__")))
    (e8_BadDraw : PySem.W.mroIn K C_BadDraw (.type "object") = some true)
    (ne_BadDraw_BadPlan : (C_BadDraw == C_BadPlan) = false)
    (i_BadDraw_BadPlan : PySem.W.subIn K (.ref C_BadDraw) (.ref C_BadPlan) = some false)
    (ne_BadDraw_BadTest : (C_BadDraw == C_BadTest) = false)
    (i_BadDraw_BadTest : PySem.W.subIn K (.ref C_BadDraw) (.ref C_BadTest) = some false)
    (ne_BadDraw_NoCell : (C_BadDraw == C_NoCell) = false)
    (i_BadDraw_NoCell : PySem.W.subIn K (.ref C_BadDraw) (.ref C_NoCell) = some false)
    (v_BadDraw : PySem.W.subIn K (.ref C_BadDraw) (.type "ValueError") = some true)
    (m_BadDraw : PySem.W.subIn K (.ref C_BadDraw) (.ref made) = some true)
    (ic_BadDraw : PySem.W.isClsIn K C_BadDraw = true)
    (ic_BadPlan : PySem.W.isClsIn K C_BadPlan = true)
    (ty_BadPlan : PySem.W.typeIn K (.ref C_BadPlan) = some (.type "type"))
    (ic_BadTest : PySem.W.isClsIn K C_BadTest = true)
    (ty_BadTest : PySem.W.typeIn K (.ref C_BadTest) = some (.type "type"))
    (ic_NoCell : PySem.W.isClsIn K C_NoCell = true)
    (ty_NoCell : PySem.W.typeIn K (.ref C_NoCell) = some (.type "type"))
    (sb_made : PySem.W.subIn K (.ref made) (.type "BaseException") = some true)
    (ic_made : PySem.W.isClsIn K made = true)
    (ty_made : PySem.W.typeIn K (.ref made) = some (.type "type")) :
    ∃ (fd : FuncData) (cls : Str → Addr) (c P : Addr) (o : Obj), K.lookup fa = some o ∧ o.data = .func fd ∧ fd.code = .ref c ∧ PySem.W.codeHdIn K c P = true ∧ K.lookup P = none ∧ (∀ (s : Shared) (u : Value), BindsTo s fd ⟨[u], []⟩ [("script", u)]) ∧
      ∀ base : Heap, K.In base → base.Ns mainGlobals mg → LamX.TabB base mg c P → FnOk l.prog w K mg base (L2N.CX l.prog w) 5 fa fd ["script"] (spV K ⟨cls, [(P, "law" ++ ".<locals>." ++ "<lambda>")]⟩ m_law) := by
  have e := hfa.symm.trans (PySem.W.mg_of X G g_law)
  cases e
  refine ⟨PySem.W.fnOf "law" "law" (defArgs s_law) (defBody s_law) (defScope s_law) .none kV_law dc_law pm_law an_law (.ref cT) ct_law, clsOf [("BadDraw", C_BadDraw), ("BadPlan", C_BadPlan), ("BadTest", C_BadTest), ("NoCell", C_NoCell)], cT, PT, _, l_law, rfl, rfl, code_hd hT oT, nT, fun s v => .of_eq rfl, fun base hK hN hTB => ?_⟩
  generalize hg : (⟨clsOf [("BadDraw", C_BadDraw), ("BadPlan", C_BadPlan), ("BadTest", C_BadTest), ("NoCell", C_NoCell)], [(PT, "law" ++ ".<locals>." ++ "<lambda>")]⟩ : Glob) = g
  have gc_BadDraw : g.cls "BadDraw" = C_BadDraw := by rw [← hg]; rfl
  have gc_BadPlan : g.cls "BadPlan" = C_BadPlan := by rw [← hg]; rfl
  have gc_BadTest : g.cls "BadTest" = C_BadTest := by rw [← hg]; rfl
  have gc_NoCell : g.cls "NoCell" = C_NoCell := by rw [← hg]; rfl
  have T : Tx K mg g := {
    b_ValueError := PySem.W.mg_none_of X G z_ValueError
    b_bool := PySem.W.mg_none_of X G z_bool
    b_int := PySem.W.mg_none_of X G z_int
    b_isinstance := PySem.W.mg_none_of X G z_isinstance
    b_len := PySem.W.mg_none_of X G z_len
    b_max := PySem.W.mg_none_of X G z_max
    b_min := PySem.W.mg_none_of X G z_min
    b_range := PySem.W.mg_none_of X G z_range
    b_set := PySem.W.mg_none_of X G z_set
    b_sum := PySem.W.mg_none_of X G z_sum
    c_FIRST := ⟨_, PySem.W.mg_of X G n_FIRST, ⟨_, rfl⟩⟩
    c_MOST_PLACE := ⟨_, PySem.W.mg_of X G n_MOST_PLACE, ⟨_, rfl⟩⟩
    c_MOST_SEED := ⟨_, PySem.W.mg_of X G n_MOST_SEED, ⟨_, rfl⟩⟩
    c_SECOND := ⟨_, PySem.W.mg_of X G n_SECOND, ⟨_, rfl⟩⟩
    x_BadDraw := ⟨by rw [gc_BadDraw]; exact PySem.W.mg_of X G g_BadDraw, by rw [gc_BadDraw]; exact x_BadDraw, by rw [gc_BadDraw]; exact kp_BadDraw, by rw [gc_BadDraw]; exact sb_BadDraw, by rw [gc_BadDraw]; exact ty_BadDraw⟩
  }
  have LT : LawTab base mg g "law" (PySem.W.fnOf "law" "law" (defArgs s_law) (defBody s_law) (defScope s_law) .none kV_law dc_law pm_law an_law (.ref cT) ct_law) := tabB_law hTB rfl (by rw [← hg])
  have ET : ErrT K mg g nams alls made := {
    mg := (by
      intro c hc
      simp only [alls, List.mem_cons, List.not_mem_nil, or_false] at hc
      rcases hc with rfl | rfl | rfl | rfl
      · rw [gc_BadDraw]; exact PySem.W.mg_of X G g_BadDraw
      · rw [gc_BadPlan]; exact PySem.W.mg_of X G g_BadPlan
      · rw [gc_BadTest]; exact PySem.W.mg_of X G g_BadTest
      · rw [gc_NoCell]; exact PySem.W.mg_of X G g_NoCell)
    exc := (by
      intro c hc
      simp only [nams, List.mem_cons, List.not_mem_nil, or_false] at hc
      subst hc
      · rw [gc_BadDraw]; exact ⟨e1_BadDraw, e2_BadDraw, sb_BadDraw, e4_BadDraw, e5_BadDraw, q1, q2, e8_BadDraw⟩)
    kit := (by
      intro c hc
      simp only [nams, List.mem_cons, List.not_mem_nil, or_false] at hc
      subst hc
      · intro n hn
        simp only [alls, List.mem_cons, List.not_mem_nil, or_false] at hn
        rcases hn with rfl | rfl | rfl | rfl
        · rw [gc_BadDraw]; exact kit_self
        · rw [gc_BadDraw, gc_BadPlan]; exact kit_ref ne_BadDraw_BadPlan ic_BadPlan ty_BadPlan i_BadDraw_BadPlan
        · rw [gc_BadDraw, gc_BadTest]; exact kit_ref ne_BadDraw_BadTest ic_BadTest ty_BadTest i_BadDraw_BadTest
        · rw [gc_BadDraw, gc_NoCell]; exact kit_ref ne_BadDraw_NoCell ic_NoCell ty_NoCell i_BadDraw_NoCell)
    val := (by
      intro c hc
      simp only [nams, List.mem_cons, List.not_mem_nil, or_false] at hc
      subst hc
      · rw [gc_BadDraw]; exact kit_val v_BadDraw)
    made := (by
      intro c hc
      simp only [nams, List.mem_cons, List.not_mem_nil, or_false] at hc
      subst hc
      · rw [gc_BadDraw]; exact exm_ref sb_made ic_made ty_made m_BadDraw)
  }
  have F_law_word := fun_mk (st := s_law_word) l_law_word c_law_word k_law_word
  have W0 : WordOk l.prog w K mg base g nams 2 a_law_word := v_law_word F_law_word T ET
  have F_law_told := fun_mk (st := s_law_told) l_law_told c_law_told k_law_told
  have TT : TellT l.prog w K mg base g nams 2 := told_mk F_law_told (PySem.W.mg_of X G g_law_told) W0 k_law_word (PySem.W.mg_of X G g_law_word) (PySem.W.mg_of X G g_made) ET
  have F_is_count := fun_mk (st := s_is_count) l_is_count c_is_count k_is_count
  have f_is_count : VFn l.prog w K mg base g 1 "is_count" m_is_count := w_is_count F_is_count (PySem.W.mg_of X G g_is_count) T
  have F_need := fun_mk (st := s_need) l_need c_need k_need
  have f_need : VFn l.prog w K mg base g 1 "need" m_need := w_need F_need (PySem.W.mg_of X G g_need) T
  have F_draw := fun_mk (st := s_draw) l_draw c_draw k_draw
  have f_draw : VFn l.prog w K mg base g 1 "draw" m_draw := w_draw F_draw (PySem.W.mg_of X G g_draw) T
  have F_word_of := fun_mk (st := s_word_of) l_word_of c_word_of k_word_of
  have f_word_of : VFn l.prog w K mg base g 1 "word_of" m_word_of := w_word_of F_word_of (PySem.W.mg_of X G g_word_of) T
  have F_shared_of := fun_mk (st := s_shared_of) l_shared_of c_shared_of k_shared_of
  have f_shared_of : VFn l.prog w K mg base g 1 "shared_of" m_shared_of := w_shared_of F_shared_of (PySem.W.mg_of X G g_shared_of) T
  have F_divides_both := fun_mk (st := s_divides_both) l_divides_both c_divides_both k_divides_both
  have f_divides_both : VFn l.prog w K mg base g 1 "divides_both" m_divides_both := w_divides_both F_divides_both (PySem.W.mg_of X G g_divides_both) T
  have F_law_cell := fun_mk (st := s_law_cell) l_law_cell c_law_cell k_law_cell
  have f_law_cell : VFn l.prog w K mg base g 1 "_law_cell" m_law_cell := w_law_cell F_law_cell (PySem.W.mg_of X G g_law_cell) T
  have F_law_drawn := fun_mk (st := s_law_drawn) l_law_drawn c_law_drawn k_law_drawn
  have f_law_drawn : VFn l.prog w K mg base g 1 "_law_drawn" m_law_drawn := w_law_drawn F_law_drawn (PySem.W.mg_of X G g_law_drawn) T
  have F_law_draw := fun_mk (st := s_law_draw) l_law_draw c_law_draw k_law_draw
  have f_law_draw : VFn l.prog w K mg base g 1 "_law_draw" m_law_draw := w_law_draw F_law_draw (PySem.W.mg_of X G g_law_draw) T
  have F_law_told_word := fun_mk (st := s_law_told_word) l_law_told_word c_law_told_word k_law_told_word
  have f_law_told_word : VFn l.prog w K mg base g 1 "_law_told_word" m_law_told_word := w_law_told_word F_law_told_word (PySem.W.mg_of X G g_law_told_word) T
  have F_law_shared := fun_mk (st := s_law_shared) l_law_shared c_law_shared k_law_shared
  have f_law_shared : VFn l.prog w K mg base g 1 "_law_shared" m_law_shared := w_law_shared F_law_shared (PySem.W.mg_of X G g_law_shared) T
  have F_law_spread := fun_mk (st := s_law_spread) l_law_spread c_law_spread k_law_spread
  have f_law_spread : VFn l.prog w K mg base g 1 "_law_spread" m_law_spread := w_law_spread F_law_spread (PySem.W.mg_of X G g_law_spread) T
  have F_drawn := fun_mk (st := s_drawn) l_drawn c_drawn k_drawn
  have f_drawn : VFn l.prog w K mg base g 2 "drawn" m_drawn := w_drawn F_drawn (PySem.W.mg_of X G g_drawn) T f_is_count f_need f_draw
  have F_spread_of := fun_mk (st := s_spread_of) l_spread_of c_spread_of k_spread_of
  have f_spread_of : VFn l.prog w K mg base g 2 "spread_of" m_spread_of := w_spread_of F_spread_of (PySem.W.mg_of X G g_spread_of) T f_divides_both
  exact v_law (fun_mk (st := s_law) l_law c_law k_law) (PySem.W.mg_of X G g_law) T TT LT f_law_cell f_law_drawn f_law_draw f_word_of f_law_told_word f_shared_of f_law_shared f_spread_of f_law_spread f_drawn
end K10

open PySem PySem.W PyProof.Rows in
theorem PySem.Challenge.cw_rulemade_k10_whole_draws_holds : PySem.Challenge.rw_rulemade_k10_whole_draws.Holds := by
  w_on; o_law; k_head; (case hw => w_witness2)
  k_fill
  refine VL.walk_L (l := PySem.Challenge.rw_rulemade_k10_whole_draws) rfl rfl (by decide : 5 ≤ 50) (by rfl) (fun w h Y => PySem.W.km_in_of Y) ?F K10.law_true
  case F =>
    intro w mg fa h KX G hmg
    refine' K10.all_mk KX G hmg ?g_is_count ?l_is_count ?c_is_count ?k_is_count ?g_need ?l_need ?c_need ?k_need ?g_draw ?l_draw ?c_draw ?k_draw ?g_drawn ?l_drawn ?c_drawn ?k_drawn ?g_word_of ?l_word_of ?c_word_of ?k_word_of ?g_shared_of ?l_shared_of ?c_shared_of ?k_shared_of ?g_divides_both ?l_divides_both ?c_divides_both ?k_divides_both ?g_spread_of ?l_spread_of ?c_spread_of ?k_spread_of ?g_law_cell ?l_law_cell ?c_law_cell ?k_law_cell ?g_law_drawn ?l_law_drawn ?c_law_drawn ?k_law_drawn ?g_law_word ?l_law_word ?c_law_word ?k_law_word ?g_law_draw ?l_law_draw ?c_law_draw ?k_law_draw ?g_law_told_word ?l_law_told_word ?c_law_told_word ?k_law_told_word ?g_law_shared ?l_law_shared ?c_law_shared ?k_law_shared ?g_law_spread ?l_law_spread ?c_law_spread ?k_law_spread ?g_law ?l_law ?c_law ?k_law ?g_law_told ?l_law_told ?c_law_told ?k_law_told ?hT ?pT ?oT ?nT ?z_ValueError ?z_bool ?z_int ?z_isinstance ?z_len ?z_max ?z_min ?z_range ?z_set ?z_sum ?n_FIRST ?n_MOST_PLACE ?n_MOST_SEED ?n_SECOND ?g_BadDraw ?g_BadPlan ?g_BadTest ?g_NoCell ?x_BadDraw ?kp_BadDraw ?sb_BadDraw ?ty_BadDraw ?g_made ?q1 ?q2 ?e1_BadDraw ?e2_BadDraw ?e4_BadDraw ?e5_BadDraw ?e8_BadDraw ?ne_BadDraw_BadPlan ?i_BadDraw_BadPlan ?ne_BadDraw_BadTest ?i_BadDraw_BadTest ?ne_BadDraw_NoCell ?i_BadDraw_NoCell ?v_BadDraw ?m_BadDraw ?ic_BadDraw ?ic_BadPlan ?ty_BadPlan ?ic_BadTest ?ty_BadTest ?ic_NoCell ?ty_NoCell ?sb_made ?ic_made ?ty_made
    (case g_is_count => k_is)
    (case l_is_count => k_is)
    (case c_is_count => k_is)
    (case k_is_count => k_is)
    (case g_need => k_is)
    (case l_need => k_is)
    (case c_need => k_is)
    (case k_need => k_is)
    (case g_draw => k_is)
    (case l_draw => k_is)
    (case c_draw => k_is)
    (case k_draw => k_is)
    (case g_drawn => k_is)
    (case l_drawn => k_is)
    (case c_drawn => k_is)
    (case k_drawn => k_is)
    (case g_word_of => k_is)
    (case l_word_of => k_is)
    (case c_word_of => k_is)
    (case k_word_of => k_is)
    (case g_shared_of => k_is)
    (case l_shared_of => k_is)
    (case c_shared_of => k_is)
    (case k_shared_of => k_is)
    (case g_divides_both => k_is)
    (case l_divides_both => k_is)
    (case c_divides_both => k_is)
    (case k_divides_both => k_is)
    (case g_spread_of => k_is)
    (case l_spread_of => k_is)
    (case c_spread_of => k_is)
    (case k_spread_of => k_is)
    (case g_law_cell => k_is)
    (case l_law_cell => k_is)
    (case c_law_cell => k_is)
    (case k_law_cell => k_is)
    (case g_law_drawn => k_is)
    (case l_law_drawn => k_is)
    (case c_law_drawn => k_is)
    (case k_law_drawn => k_is)
    (case g_law_word => k_is)
    (case l_law_word => k_is)
    (case c_law_word => k_is)
    (case k_law_word => k_is)
    (case g_law_draw => k_is)
    (case l_law_draw => k_is)
    (case c_law_draw => k_is)
    (case k_law_draw => k_is)
    (case g_law_told_word => k_is)
    (case l_law_told_word => k_is)
    (case c_law_told_word => k_is)
    (case k_law_told_word => k_is)
    (case g_law_shared => k_is)
    (case l_law_shared => k_is)
    (case c_law_shared => k_is)
    (case k_law_shared => k_is)
    (case g_law_spread => k_is)
    (case l_law_spread => k_is)
    (case c_law_spread => k_is)
    (case k_law_spread => k_is)
    (case g_law => k_is)
    (case l_law => k_is)
    (case c_law => k_is)
    (case k_law => k_is)
    (case g_law_told => k_is)
    (case l_law_told => k_is)
    (case c_law_told => k_is)
    (case k_law_told => k_is)
    (case hT => k_is)
    (case pT => rfl)
    (case oT => rfl)
    (case nT => rfl)
    (case z_ValueError => k_is)
    (case z_bool => k_is)
    (case z_int => k_is)
    (case z_isinstance => k_is)
    (case z_len => k_is)
    (case z_max => k_is)
    (case z_min => k_is)
    (case z_range => k_is)
    (case z_set => k_is)
    (case z_sum => k_is)
    (case n_FIRST => k_is)
    (case n_MOST_PLACE => k_is)
    (case n_MOST_SEED => k_is)
    (case n_SECOND => k_is)
    (case g_BadDraw => k_is)
    (case g_BadPlan => k_is)
    (case g_BadTest => k_is)
    (case g_NoCell => k_is)
    (case x_BadDraw => k_exc)
    (case kp_BadDraw => k_is)
    (case sb_BadDraw => k_is)
    (case ty_BadDraw => k_is)
    (case g_made => k_is)
    (case q1 => k_is)
    (case q2 => k_is)
    (case e1_BadDraw => k_is)
    (case e2_BadDraw => k_is)
    (case e4_BadDraw => k_is)
    (case e5_BadDraw => k_is)
    (case e8_BadDraw => k_is)
    (case ne_BadDraw_BadPlan => rfl)
    (case i_BadDraw_BadPlan => k_is)
    (case ne_BadDraw_BadTest => rfl)
    (case i_BadDraw_BadTest => k_is)
    (case ne_BadDraw_NoCell => rfl)
    (case i_BadDraw_NoCell => k_is)
    (case v_BadDraw => k_is)
    (case m_BadDraw => k_is)
    (case ic_BadDraw => k_is)
    (case ic_BadPlan => k_is)
    (case ty_BadPlan => k_is)
    (case ic_BadTest => k_is)
    (case ty_BadTest => k_is)
    (case ic_NoCell => k_is)
    (case ty_NoCell => k_is)
    (case sb_made => k_is)
    (case ic_made => k_is)
    (case ty_made => k_is)

#print axioms PySem.Challenge.cw_rulemade_k10_whole_draws_holds
