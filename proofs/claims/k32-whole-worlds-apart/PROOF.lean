import PyProof.Rows.All
import Wide.All
import OpenK.AllK
import Wide.FinOn
import HandS.ForMost
import HandS.ForExc
import HandS.Wide
import HandS.Lambda
import HandS.Deep
import HandS.IsInst
import HandS.ExcCtx
import HandS.HotCalls
import HandS.ExcIs
import HandS.EndTab
import HandS.TupAny
import HandS.TupMul
import HandS.Style
import HandS.Zip
import HandS.More
import HandS.DeepEq
import HandS.Finally
import PySem.Challenge.RW_rulemade_k32_whole_worlds_apart
set_option Elab.async false
set_option linter.all false
set_option maxRecDepth 100000
set_option maxHeartbeats 4000000
/-! VL1: a value layer over HandS: plain data, what represents it in a heap, readings by functions upon plain data. -/
namespace VL
open PySem PySem.Spec PyProof.Rows L2

abbrev St := L2.St
inductive Dat where
  | non | bl (b : Bool) | int (i : Int) | str (s : Str) | lst (xs : List Dat) | tup (xs : List Dat) | rls (xs : List Dat)
  | dct (kvs : List (Key × Dat)) | ins (C : Str) (fs : List (Str × Dat)) | ty (n : String) | opq (a : Addr)
  deriving Inhabited

inductive Res (α : Type) where
  | ok (a : α) | exc (c : Str) | stuck

def Res.bind {α β : Type} (r : Res α) (k : α → Res β) : Res β := match r with
  | .ok a => k a
  | .exc c => .exc c
  | .stuck => .stuck
instance : Monad Res where
  pure := .ok
  bind := Res.bind
@[simp] theorem Res.bind_ok {α β : Type} (a : α) (k : α → Res β) : Res.bind (.ok a) k = k a := Eq.trans rfl rfl
@[simp] theorem Res.bind_exc {α β : Type} (c : Str) (k : α → Res β) : Res.bind (.exc c) k = .exc c := Eq.trans rfl rfl
@[simp] theorem Res.bind_stuck {α β : Type} (k : α → Res β) : Res.bind .stuck k = .stuck := Eq.trans rfl rfl
theorem Res.bind_assoc {α β γ : Type} (r : Res α) (k : α → Res β) (l : β → Res γ) : Res.bind (Res.bind r k) l = Res.bind r (fun a => Res.bind (k a) l) := by cases r <;> rfl

/-- the classes by names; the tables of code objects -/
structure Glob where
  cls : Str → Addr
  tabs : List (Addr × Str)

mutual
inductive Rep (K : PySem.W.Frag) (g : Glob) (F : Hp) : V → Dat → Prop
  | non : Rep K g F .non .non
  | bl (b : Bool) : Rep K g F (.bl b) (.bl b)
  | int (i : Int) : Rep K g F (.int i) (.int i)
  | str (x : Str) : Rep K g F (.str x) (.str x)
  | ty (n : String) : Rep K g F (.ty n) (.ty n)
  | opq (a : Addr) : Rep K g F (.ref a) (.opq a)
  | lst {a : Addr} {xs : List V} {ds : List Dat} : F a = some (.lst xs) → Reps K g F xs ds → Rep K g F (.ref a) (.lst ds)
  | rls {a : Addr} {xs : List V} {ds : List Dat} : SqL K F a xs → Reps K g F xs ds → Rep K g F (.ref a) (.rls ds)
  | tup {a : Addr} {xs : List V} {ds : List Dat} : SqT K F a xs → Reps K g F xs ds → Rep K g F (.ref a) (.tup ds)
  | dct {a : Addr} {o : Obj} {kvs : List (Key × V)} {ds : List (Key × Dat)} : F a = some (.frz o (.dK kvs)) → kvs.map Prod.fst = ds.map Prod.fst → Reps K g F (kvs.map Prod.snd) (ds.map Prod.snd) → Rep K g F (.ref a) (.dct ds)
  | ins {a dx : Addr} {C : Str} {fs : List (Str × V)} {ds : List (Str × Dat)} : F a = some (.ins (g.cls C) dx fs) → fs.map Prod.fst = ds.map Prod.fst → Reps K g F (fs.map Prod.snd) (ds.map Prod.snd) → Rep K g F (.ref a) (.ins C ds)
inductive Reps (K : PySem.W.Frag) (g : Glob) (F : Hp) : List V → List Dat → Prop
  | nil : Reps K g F [] []
  | cons {v : V} {vs : List V} {d : Dat} {ds : List Dat} : Rep K g F v d → Reps K g F vs ds → Reps K g F (v :: vs) (d :: ds)
end

section
variable {K : PySem.W.Frag} {g : Glob} {F F' F1 F2 H H' H1 H2 : Hp}

theorem sqT_mono {a : Addr} {xs : List V} (e : Same F F') (h : SqT K F a xs) : SqT K F' a xs := by
  rcases h with (h | ⟨o, h⟩) | h
  · exact .inl (.inl (e _ _ h))
  · exact .inl (.inr ⟨o, e _ _ h⟩)
  · exact .inr h
theorem rd_mono {a : Addr} {u : HO} (e : Same F F') (h : Rd F a u) : Rd F' a u := by
  rcases h with h | ⟨o, h⟩
  · exact .inl (e _ _ h)
  · exact .inr ⟨o, e _ _ h⟩
theorem Rep.mono (e : Same F F') {v : V} {d : Dat} (h : Rep K g F v d) : Rep K g F' v d :=
  Rep.rec (motive_1 := fun v d _ => Rep K g F' v d) (motive_2 := fun vs ds _ => Reps K g F' vs ds)
    .non .bl .int .str .ty .opq (fun h _ r => .lst (e _ _ h) r) (fun h _ r => .rls (e.seq h) r) (fun h _ r => .tup (sqT_mono e h) r) (fun h q _ r => .dct (e _ _ h) q r) (fun h q _ r => .ins (e _ _ h) q r) .nil (fun _ _ a b => .cons a b) h
theorem Reps.mono (e : Same F F') {vs : List V} {ds : List Dat} (h : Reps K g F vs ds) : Reps K g F' vs ds := by
  induction vs generalizing ds with
  | nil => cases h; exact .nil
  | cons v vs ih => cases h with | cons a b => exact .cons (a.mono e) (ih b)
theorem Reps.length {vs : List V} {ds : List Dat} (h : Reps K g F vs ds) : vs.length = ds.length := by
  induction vs generalizing ds with
  | nil => cases h; rfl
  | cons v vs ih => cases h with | cons a b => simp [ih b]
theorem Reps.get {vs : List V} {ds : List Dat} (h : Reps K g F vs ds) : ∀ {i : Nat} {d : Dat}, ds[i]? = some d → ∃ v, vs[i]? = some v ∧ Rep K g F v d := by
  induction vs generalizing ds with
  | nil => cases h; intro i d e; simp at e
  | cons v vs ih =>
    cases h with
    | cons a b =>
      intro i d e
      cases i with
      | zero => simp at e; subst e; exact ⟨v, rfl, a⟩
      | succ i => exact ih b (by simpa using e)
theorem Reps.append {vs ws : List V} {ds es : List Dat} (h : Reps K g F vs ds) (h' : Reps K g F ws es) : Reps K g F (vs ++ ws) (ds ++ es) := by
  induction vs generalizing ds with
  | nil => cases h; exact h'
  | cons v vs ih => cases h with | cons a b => exact .cons a (ih b)
theorem Reps.take {vs : List V} {ds : List Dat} (h : Reps K g F vs ds) : ∀ n, Reps K g F (vs.take n) (ds.take n) := by
  induction vs generalizing ds with
  | nil => cases h; intro n; simp; exact .nil
  | cons v vs ih =>
    cases h with
    | cons a b =>
      intro n
      cases n with
      | zero => exact .nil
      | succ n => exact .cons a (ih b n)
theorem Reps.drop {vs : List V} {ds : List Dat} (h : Reps K g F vs ds) : ∀ n, Reps K g F (vs.drop n) (ds.drop n) := by
  induction vs generalizing ds with
  | nil => cases h; intro n; simp; exact .nil
  | cons v vs ih =>
    cases h with
    | cons a b =>
      intro n
      cases n with
      | zero => exact .cons a b
      | succ n => exact ih b n
theorem Reps.reverse {vs : List V} {ds : List Dat} (h : Reps K g F vs ds) : Reps K g F vs.reverse ds.reverse := by
  induction vs generalizing ds with
  | nil => cases h; exact .nil
  | cons v vs ih => cases h with | cons a b => simp only [List.reverse_cons]; exact (ih b).append (.cons a .nil)
theorem Reps.snoc {vs : List V} {ds : List Dat} {v : V} {d : Dat} (h : Reps K g F vs ds) (r : Rep K g F v d) : Reps K g F (vs ++ [v]) (ds ++ [d]) := h.append (.cons r .nil)
theorem Reps.mem {vs : List V} {ds : List Dat} (h : Reps K g F vs ds) {v : V} (hv : v ∈ vs) : ∃ d ∈ ds, Rep K g F v d := by
  induction vs generalizing ds with
  | nil => cases hv
  | cons w vs ih =>
    cases h with
    | cons a b =>
      rcases List.mem_cons.mp hv with e | e
      · subst e; exact ⟨_, List.mem_cons_self, a⟩
      · obtain ⟨d, h1, h2⟩ := ih b e
        exact ⟨d, List.mem_cons_of_mem _ h1, h2⟩

/-- from (F, H) on to (F', H'): nothing of H is changed but tables grow, what is new in F' is new in H' -/
structure Ext (g : Glob) (F H F' H' : Hp) : Prop where
  keep : ∀ a o, H a = some o → (∀ ps, o ≠ .tbl ps) → H' a = some o
  dom : ∀ a, H a ≠ none → H' a ≠ none
  tabs : LamX.Tabs g.tabs H → LamX.Tabs g.tabs H'
  sub : Same F' H'
  old : ∀ a, H a ≠ none → F' a = F a
  nt : ∀ a ps, F' a = some (.tbl ps) → F a = some (.tbl ps)
theorem Ext.refl (h : Same F H) : Ext g F H F H := ⟨fun _ _ e _ => e, fun _ e => e, fun t => t, h, fun _ _ => rfl, fun _ _ e => e⟩
theorem Ext.trans (x : Ext g F H F1 H1) (y : Ext g F1 H1 F2 H2) : Ext g F H F2 H2 :=
  ⟨fun a o e n => y.keep a o (x.keep a o e n) n, fun a e => y.dom a (x.dom a e), fun t => y.tabs (x.tabs t), y.sub, fun a e => (y.old a (x.dom a e)).trans (x.old a e), fun a ps e => x.nt a ps (y.nt a ps e)⟩
theorem Ext.le (h : Same F H) (x : Ext g F H F' H') : Same F F' := fun a o e => by
  rw [x.old a (by rw [h a o e]; simp)]; exact e
theorem Ext.free (x : Ext g F H F' H') {p : Addr} (h : H' p = none) : H p = none := by
  cases e : H p with
  | none => rfl
  | some o => exact absurd h (x.dom p (by rw [e]; simp))
theorem sub_none (h : Same F H) {p : Addr} (e : H p = none) : F p = none := by
  cases q : F p with
  | none => rfl
  | some o => rw [h p o q] at e; cases e
theorem same_upd {p : Addr} {o : HO} (hp : H p = none) : Same H (upd H p o) := fun a u e => by
  rw [upd_ne (ne_of_none e hp)]; exact e
/-- a new thing, frozen -/
theorem Ext.new {p : Addr} {o : HO} (h : Same F H) (hp : H p = none) (hn : ∀ ps, o ≠ .tbl ps := by intro _ z; cases z) : Ext g F H (upd F p o) (upd H p o) where
  keep := fun a u e _ => by rw [upd_ne (ne_of_none e hp)]; exact e
  dom := fun a e => by
    by_cases q : a = p
    · subst q; rw [upd_same]; simp
    · rw [upd_ne q]; exact e
  tabs := fun t => t.ext (same_upd hp)
  sub := fun a u e => by
    by_cases q : a = p
    · subst q; rw [upd_same] at e ⊢; exact e
    · rw [upd_ne q] at e ⊢; exact h a u e
  old := fun a e => upd_ne fun q => by subst q; exact e hp
  nt := fun a ps e => by
    by_cases q : a = p
    · subst q; rw [upd_same] at e; exact absurd (Option.some.inj e) (hn ps)
    · rw [upd_ne q] at e; exact e
/-- a new thing, not frozen -/
theorem Ext.newO {p : Addr} {o : HO} (h : Same F H) (hp : H p = none) : Ext g F H F (upd H p o) where
  keep := fun a u e _ => by rw [upd_ne (ne_of_none e hp)]; exact e
  dom := fun a e => by
    by_cases q : a = p
    · subst q; rw [upd_same]; simp
    · rw [upd_ne q]; exact e
  tabs := fun t => t.ext (same_upd hp)
  sub := fun a u e => by
    rw [upd_ne (ne_of_none (h a u e) hp)]; exact h a u e
  old := fun a e => rfl
  nt := fun _ _ e => e
end

/-! ### locked behind an end -/
def LockQ (H : Hp) (k : Hp → Prop) : Prop := k H ∨ ∃ b u, H b = some u ∧ Mut (some u) ∧ ∀ od, k (upd H b (.frz od u))
theorem LockQ.out {X : Cx} {pins : List (Addr × Obj)} {σ : St} {H : Hp} {s : Shared} {k : Hp → Prop} (I : Inv X pins σ H s) (h : LockQ H k) : ∃ H', Inv X pins σ H' s ∧ k H' := by
  rcases h with h | ⟨b, u, hb, mu, h⟩
  · exact ⟨H, I, h⟩
  · obtain ⟨od, I1⟩ := I.lock hb mu
    exact ⟨_, I1, h od⟩
def tLkE (t : TE) : TE := fun σ H Q => t σ H fun v H1 => LockQ H1 (Q v)
theorem pe_lk {X : Cx} {e : Expr} {t : TE} (h : PE X e t) : PE X e (tLkE t) := ⟨fun pins s σ H Q I hw => thn (h.run pins s σ H _ I hw) fun u s1 ⟨v, H1, I1, r, q⟩ => let ⟨H2, I2, q2⟩ := LockQ.out I1 q; ⟨v, H2, I2, r, q2⟩⟩
theorem call_lk {X : Cx} {f : Value} {r : List V → Hp → VK → Prop} (h : CallR X f r) : CallR X f (fun xs H Q => r xs H fun v H1 => LockQ H1 (Q v)) := fun pins s σ H xs us Q I hv hw =>
  thn (h pins s σ H xs us _ I hv hw) fun u s1 ⟨v, H1, I1, r, q⟩ => let ⟨H2, I2, q2⟩ := LockQ.out I1 q; ⟨v, H2, I2, r, q2⟩
def tLkS (t : TS) : TS := fun D σ H => t ⟨fun σ' H' => LockQ H' (D.nx σ'), fun v H' => LockQ H' (D.rt v), fun σ' H' => LockQ H' (D.bk σ'), fun σ' H' => LockQ H' (D.ct σ')⟩ σ H
theorem pss_lk {X : Cx} {ss : List Stmt} {t : TS} (h : PSs X ss t) : PSs X ss (tLkS t) := by
  refine ⟨fun pins s σ H D I hw => thn (h.run pins s σ H _ I hw) fun f s1 q => ?_⟩
  cases f with
  | next => obtain ⟨σ', H', I1, q⟩ := q; obtain ⟨H2, I2, q2⟩ := LockQ.out I1 q; exact ⟨σ', H2, I2, q2⟩
  | brk => obtain ⟨σ', H', I1, q⟩ := q; obtain ⟨H2, I2, q2⟩ := LockQ.out I1 q; exact ⟨σ', H2, I2, q2⟩
  | cont => obtain ⟨σ', H', I1, q⟩ := q; obtain ⟨H2, I2, q2⟩ := LockQ.out I1 q; exact ⟨σ', H2, I2, q2⟩
  | ret v => obtain ⟨x, σ', H', I1, r, q⟩ := q; obtain ⟨H2, I2, q2⟩ := LockQ.out I1 q; exact ⟨x, σ', H2, I2, r, q2⟩
/-! ### the environment of an expression -/
abbrev Env := List (Option Dat)
section
variable (K : PySem.W.Frag) (g : Glob)
def REnv (F : Hp) (σ : St) (ρ : Env) : Prop := ∀ (i : Nat) (d : Dat), ρ[i]? = some (some d) → ∃ v, σ[i]? = some (some v) ∧ Rep K g F v d
/-- where an expression starts -/
structure Stt (F H : Hp) (σ : St) (ρ : Env) : Prop where
  sub : Same F H
  tabs : LamX.Tabs g.tabs H
  env : REnv K g F σ ρ
  len : ρ.length = σ.length
  nt : ∀ a ps, F a ≠ some (.tbl ps)
/-- what is asked behind it: R tells how what came represents the result -/
def PostG {α β : Type} (R : Hp → β → α → Prop) (W : WX) (σ : St) (F H : Hp) (r : Res α) (Q : β → Hp → Prop) : Prop := match r with
  | .ok a => ∀ v H' F', Ext g F H F' H' → R F' v a → Q v H'
  | .exc c => ∀ H' F', Ext g F H F' H' → W (.ref (g.cls c)) none σ H'
  | .stuck => False
def tG {α β : Type} (R : Hp → β → α → Prop) (W : WX) (f : Env → Res α) : St → Hp → (β → Hp → Prop) → Prop := fun σ H Q => ∃ ρ F, Stt K g F H σ ρ ∧ PostG g R W σ F H (f ρ) Q
def tV (W : WX) (f : Env → Res Dat) : TE := tG K g (Rep K g) W f
def tVT (W : WX) (f : Env → Res Bool) : TT := tG K g (fun _ b a => b = a) W f
def tVA (W : WX) (f : Env → Res (List Dat)) : TA := tG K g (Reps K g) W f
end
section
variable {K : PySem.W.Frag} {g : Glob} {F F' F1 F2 H H' H1 H2 : Hp} {σ : St} {ρ : Env} {W : WX}
theorem Stt.ext (s : Stt K g F H σ ρ) (x : Ext g F H F' H') : Stt K g F' H' σ ρ :=
  ⟨x.sub, x.tabs s.tabs, fun i d e => let ⟨v, h1, h2⟩ := s.env i d e; ⟨v, h1, h2.mono (x.le s.sub)⟩, s.len, fun a ps e => s.nt a ps (x.nt a ps e)⟩
theorem PostG.ext {α β : Type} {R : Hp → β → α → Prop} {r : Res α} {Q : β → Hp → Prop} (x : Ext g F H F' H') (h : PostG g R W σ F H r Q) : PostG g R W σ F' H' r Q := by
  cases r with
  | ok a => exact fun v H1 F1 y r => h v H1 F1 (x.trans y) r
  | exc c => exact fun H1 F1 y => h H1 F1 (x.trans y)
  | stuck => exact h
theorem PostG.imp {α β : Type} {R : Hp → β → α → Prop} {r : Res α} {Q Q' : β → Hp → Prop} (h : PostG g R W σ F H r Q) (hQ : ∀ v H', Q v H' → Q' v H') : PostG g R W σ F H r Q' := by
  cases r with
  | ok a => exact fun v H1 F1 y r => hQ _ _ (h v H1 F1 y r)
  | exc c => exact h
  | stuck => exact h
/-- one after another: first f, then what follows, at the state behind it -/
theorem PostG.bind {α β γ δ : Type} {R : Hp → β → α → Prop} {R' : Hp → δ → γ → Prop} {r : Res α} {k : α → Res γ} {Q : δ → Hp → Prop} (s : Stt K g F H σ ρ) (h : PostG g R' W σ F H (r.bind k) Q) :
    PostG g R W σ F H r (fun v H1 => ∃ F1 a, Stt K g F1 H1 σ ρ ∧ R F1 v a ∧ Ext g F H F1 H1 ∧ PostG g R' W σ F1 H1 (k a) Q) := by
  cases r with
  | ok a => exact fun v H1 F1 x r => ⟨F1, a, s.ext x, r, x, PostG.ext x h⟩
  | exc c => exact h
  | stuck => exact h
theorem PostG.ret {α β : Type} {R : Hp → β → α → Prop} {a : α} {v : β} {Q : β → Hp → Prop} (x : Ext g F H F' H') (h : PostG g R W σ F H (.ok a) Q) (r : R F' v a) : Q v H' := h v H' F' x r
theorem PostG.here {α β : Type} {R : Hp → β → α → Prop} {a : α} {v : β} {Q : β → Hp → Prop} (s : Same F H) (h : PostG g R W σ F H (.ok a) Q) (r : R F v a) : Q v H := h v H F (Ext.refl s) r
end

/-! ### the judgements -/
section
variable (X : Cx) (g : Glob) (W : WX)
def VE (e : Expr) (f : Env → Res Dat) : Prop := PE X e (tV X.K g W f)
def VT (e : Expr) (f : Env → Res Bool) : Prop := PT X e (tVT X.K g W f)
def VW (e : Expr) (f : Env → Res Bool) : Prop := PW X e (tVT X.K g W f)
def VA (es : List Expr) (f : Env → Res (List Dat)) : Prop := PA X es (tVA X.K g W f)
end
theorem PE.imp {X : Cx} {e : Expr} {t t' : TE} (h : PE X e t) (i : ∀ σ H Q, t' σ H Q → t σ H Q) : PE X e t' := ⟨fun pins s σ H Q I q => h.run pins s σ H Q I (i σ H Q q)⟩
theorem PT.imp {X : Cx} {e : Expr} {t t' : TT} (h : PT X e t) (i : ∀ σ H Q, t' σ H Q → t σ H Q) : PT X e t' := ⟨fun pins s σ H Q I q => h.run pins s σ H Q I (i σ H Q q)⟩
theorem PW.imp {X : Cx} {e : Expr} {t t' : TT} (h : PW X e t) (i : ∀ σ H Q, t' σ H Q → t σ H Q) : PW X e t' := ⟨fun wh pins s σ H Q I q => h.run wh pins s σ H Q I (i σ H Q q)⟩
theorem PA.imp {X : Cx} {e : List Expr} {t t' : TA} (h : PA X e t) (i : ∀ σ H Q, t' σ H Q → t σ H Q) : PA X e t' := ⟨fun pos pins s σ H Q I q => h.run pos pins s σ H Q I (i σ H Q q)⟩
theorem PS.imp {X : Cx} {e : Stmt} {t t' : TS} (h : PS X e t) (i : ∀ D σ H, t' D σ H → t D σ H) : PS X e t' := ⟨fun pins s σ H D I q => h.run pins s σ H D I (i D σ H q)⟩
theorem PSs.imp {X : Cx} {e : List Stmt} {t t' : TS} (h : PSs X e t) (i : ∀ D σ H, t' D σ H → t D σ H) : PSs X e t' := ⟨fun pins s σ H D I q => h.run pins s σ H D I (i D σ H q)⟩
theorem PI.imp {X : Cx} {tg e : Expr} {t t' : TI} (h : PI X tg e t) (i : ∀ σ H R, t' σ H R → t σ H R) : PI X tg e t' := ⟨fun pins s σ H D I q => h.run pins s σ H D I (i σ H D q)⟩

/-! ### expressions -/
def eVar (i : Nat) : Env → Res Dat := fun ρ => match ρ[i]? with
  | some (some d) => .ok d
  | _ => .stuck
def eC (d : Dat) : Env → Res Dat := fun _ => .ok d
def eBin (op : Dat → Dat → Res Dat) (f h : Env → Res Dat) : Env → Res Dat := fun ρ => (f ρ).bind fun a => (h ρ).bind fun b => op a b
def eUn (op : Dat → Res Dat) (f : Env → Res Dat) : Env → Res Dat := fun ρ => (f ρ).bind op
def toB : Dat → Res Bool
  | .bl b => .ok b
  | _ => .stuck
def eTest (f : Env → Res Dat) : Env → Res Bool := fun ρ => (f ρ).bind toB
def eIf (c : Env → Res Bool) (f h : Env → Res Dat) : Env → Res Dat := fun ρ => (c ρ).bind fun b => if b = true then f ρ else h ρ
def eAnd (f h : Env → Res Dat) : Env → Res Dat := fun ρ => (f ρ).bind fun a => (toB a).bind fun b => if b = true then h ρ else .ok (.bl false)
def eOr (f h : Env → Res Dat) : Env → Res Dat := fun ρ => (f ρ).bind fun a => (toB a).bind fun b => if b = true then .ok (.bl true) else h ρ
def eNot (f : Env → Res Dat) : Env → Res Dat := fun ρ => (f ρ).bind fun a => (toB a).bind fun b => .ok (.bl (!b))
def bAnd (f h : Env → Res Bool) : Env → Res Bool := fun ρ => (f ρ).bind fun b => if b = true then h ρ else .ok false
def bOr (f h : Env → Res Bool) : Env → Res Bool := fun ρ => (f ρ).bind fun b => if b = true then .ok true else h ρ
def bNot (f : Env → Res Bool) : Env → Res Bool := fun ρ => (f ρ).bind fun b => .ok (!b)
def aNil : Env → Res (List Dat) := fun _ => .ok []
def aCons (f : Env → Res Dat) (h : Env → Res (List Dat)) : Env → Res (List Dat) := fun ρ => (f ρ).bind fun a => (h ρ).bind fun b => .ok (a :: b)

section
variable {X : Cx} {g : Glob} {W : WX}
theorem ve_var (i : Nat) {x : Str} {pos : Pos} (hN : X.N[i]? = some x := by rfl) (hv : Vis X.env.scope x := by first | exact Or.inl rfl | exact Or.inr (Or.inl rfl) | exact Or.inr (Or.inr rfl)) (hd : (x == ("__debug__" : Str)) = false := by decide)
    (hcd : (x == ("__classdict__" : Str)) = false := by decide) : VE X g W (.Name x pos) (eVar i) := by
  refine PE.imp (pe_var hN hv hd hcd) fun σ H Q h => ?_
  obtain ⟨ρ, F, s, p⟩ := h
  unfold eVar at p
  cases e : ρ[i]? with
  | none => rw [e] at p; exact p.elim
  | some o =>
    cases o with
    | none => rw [e] at p; exact p.elim
    | some d =>
      rw [e] at p
      obtain ⟨v, h1, h2⟩ := s.env i d e
      exact ⟨v, h1, PostG.here s.sub p h2⟩
theorem ve_const {e : Expr} {v : V} {d : Dat} (h : PE X e (tC v)) (r : ∀ F, Rep X.K g F v d) : VE X g W e (eC d) := PE.imp h fun σ H Q ⟨ρ, F, s, p⟩ => PostG.here s.sub p (r F)
theorem ve_int {i j pos} : VE X g W (.Constant (.int i) j pos) (eC (.int i)) := ve_const pe_int fun _ => .int i
theorem ve_bl {b j pos} : VE X g W (.Constant (.bool b) j pos) (eC (.bl b)) := ve_const pe_bl fun _ => .bl b
theorem ve_non {j pos} : VE X g W (.Constant .none j pos) (eC .non) := ve_const pe_non fun _ => .non
theorem ve_str {x j pos} : VE X g W (.Constant (.str x) j pos) (eC (.str x)) := ve_const pe_str fun _ => .str x
/-- a module's constant -/
theorem ve_glob {x : Str} {v : V} {d : Dat} {pos : Pos} (h : ∃ u, X.mg x = some u ∧ RelV v u) (r : ∀ F, Rep X.K g F v d) (hg : Gl X x := by rfl) (hd : (x == ("__debug__" : Str)) = false := by decide) : VE X g W (.Name x pos) (eC d) := by
  obtain ⟨u, h1, h2⟩ := h
  exact ve_const (pe_glob hg h1 h2 hd) r
theorem ve_bltn {x : Str} {n : String} {pos : Pos} (hm : X.mg x = none) (hv : bootBuiltins x = some (.type n)) (hg : Gl X x := by rfl) (hn : x ≠ "__name__" := by decide) (hd : (x == ("__debug__" : Str)) = false := by decide) : VE X g W (.Name x pos) (eC (.ty n)) :=
  ve_const (pe_bltn (v := .ty n) hg hm hv rfl hn hd) fun _ => .ty n

/-- an operator by plain data: r is asked of what represents the data -/
def OpD (X : Cx) (g : Glob) (W : WX) (op : Dat → Dat → Res Dat) (r : R2) : Prop := ∀ {F H : Hp} {σ : St} {ρ : Env} {x y : V} {a b : Dat} {Q : VK}, Stt X.K g F H σ ρ → Rep X.K g F x a → Rep X.K g F y b → PostG g (Rep X.K g) W σ F H (op a b) Q → r x y H Q
theorem tOp_of {f h : Env → Res Dat} {op : Dat → Dat → Res Dat} {r : R2} {σ : St} {H : Hp} {Q : VK} (hd : OpD X g W op r) (q : tV X.K g W (eBin op f h) σ H Q) : tOp r (tV X.K g W f) (tV X.K g W h) σ H Q := by
  obtain ⟨ρ, F, s, p⟩ := q
  refine ⟨ρ, F, s, (PostG.bind s p).imp ?_⟩
  rintro x H1 ⟨F1, a, s1, ra, x1, p1⟩
  refine ⟨ρ, F1, s1, (PostG.bind s1 p1).imp ?_⟩
  rintro y H2 ⟨F2, b, s2, rb, x2, p2⟩
  exact hd s2 (ra.mono (x2.le s1.sub)) rb p2
theorem ve_op {a b : Expr} {op : Operator} {pos : Pos} {opd : Dat → Dat → Res Dat} {r : R2} {f h : Env → Res Dat} (ho : OpR X (binaryOp op) r) (hd : OpD X g W opd r) (ha : VE X g W a f) (hb : VE X g W b h) : VE X g W (.BinOp a op b pos) (eBin opd f h) :=
  PE.imp (pe_op ho ha hb) fun _ _ _ q => tOp_of hd q
theorem ve_cmp {a b : Expr} {op : CmpOp} {pos : Pos} {opd : Dat → Dat → Res Dat} {r : R2} {f h : Env → Res Dat} (ho : OpR X (compareOp op) r) (hd : OpD X g W opd r) (ha : VE X g W a f) (hb : VE X g W b h) (hm : behindInMarks op b = false) : VE X g W (.Compare a [op] [b] pos) (eBin opd f h) :=
  PE.imp (pe_cmpR ho ha hb hm) fun _ _ _ q => tOp_of hd q
theorem ve_ix {a b : Expr} {pos : Pos} {opd : Dat → Dat → Res Dat} {r : R2} {f h : Env → Res Dat} (ho : IxR X r) (hd : OpD X g W opd r) (ha : VE X g W a f) (hb : VE X g W b h) (hs : PlainIx b) : VE X g W (.Subscript a b pos) (eBin opd f h) :=
  PE.imp (pe_ix ho ha hb hs) fun _ _ _ q => tOp_of hd q
def UnD (X : Cx) (g : Glob) (W : WX) (op : Dat → Res Dat) (r : V → Hp → VK → Prop) : Prop := ∀ {F H : Hp} {σ : St} {ρ : Env} {x : V} {a : Dat} {Q : VK}, Stt X.K g F H σ ρ → Rep X.K g F x a → PostG g (Rep X.K g) W σ F H (op a) Q → r x H Q
theorem ve_un {a : Expr} {op : UnaryOp} {pos : Pos} {opd : Dat → Res Dat} {r : V → Hp → VK → Prop} {f : Env → Res Dat} (ho : UnR X (unaryOp op) r) (hd : UnD X g W opd r) (ha : VE X g W a f) : VE X g W (.UnaryOp op a pos) (eUn opd f) :=
  PE.imp (pe_un ho ha) fun σ H Q ⟨ρ, F, s, p⟩ => ⟨ρ, F, s, (PostG.bind s p).imp fun x H1 ⟨F1, a, s1, ra, x1, p1⟩ => hd s1 ra p1⟩

/-! ### tests -/
theorem rep_bool {K : PySem.W.Frag} {F H : Hp} {σ : St} {x : V} {a : Dat} {α β : Type} {R : Hp → β → α → Prop} {k : Bool → Res α} {Q : β → Hp → Prop} (r : Rep K g F x a) (p : PostG g R W σ F H ((toB a).bind k) Q) : ∃ c, x = .bl c ∧ a = .bl c ∧ PostG g R W σ F H (k c) Q := by
  cases r with
  | bl b => exact ⟨b, rfl, rfl, p⟩
  | _ => exact p.elim
theorem bind_toB (r : Res Bool) : r.bind (fun b => .ok b) = r := by cases r <;> rfl
theorem rep_bool' {K : PySem.W.Frag} {F H : Hp} {σ : St} {x : V} {a : Dat} {β : Type} {R : Hp → β → Bool → Prop} {Q : β → Hp → Prop} (r : Rep K g F x a) (p : PostG g R W σ F H (toB a) Q) : ∃ c, x = .bl c ∧ a = .bl c ∧ PostG g R W σ F H (.ok c) Q := rep_bool (k := fun b => .ok b) r (by rw [bind_toB]; exact p)
theorem vt_of {e : Expr} {f : Env → Res Dat} (h : VE X g W e f) (he : ∀ whole, isTrue e X.env whole = (do let v ← whole; standAt e.pos; holding [v] (truthy v)) := by intro _; rfl) : VT X g W e (eTest f) :=
  PT.imp (pt_val h he) fun σ H Q ⟨ρ, F, s, p⟩ => ⟨ρ, F, s, (PostG.bind s p).imp fun x H1 ⟨F1, a, s1, ra, x1, p1⟩ => by
    obtain ⟨c, e1, _, p2⟩ := rep_bool' ra p1
    exact ⟨c, e1, PostG.here s1.sub p2 rfl⟩⟩
theorem vw_pt {e : Expr} {f : Env → Res Bool} (h : VW X g W e f) : VT X g W e f := PW.pt h
theorem vw_and1 {a : Expr} {pos : Pos} {f : Env → Res Bool} (ha : VT X g W a f) : VW X g W (.BoolOp .And [a] pos) f := pw_and1 ha
theorem vw_or1 {a : Expr} {pos : Pos} {f : Env → Res Bool} (ha : VT X g W a f) : VW X g W (.BoolOp .Or [a] pos) f := pw_or1 ha
theorem vw_and {a b : Expr} {rest : List Expr} {pos : Pos} {f h : Env → Res Bool} (ha : VT X g W a f) (hb : VW X g W (.BoolOp .And (b :: rest) pos) h) : VW X g W (.BoolOp .And (a :: b :: rest) pos) (bAnd f h) :=
  PW.imp (pw_and ha hb) fun σ H Q ⟨ρ, F, s, p⟩ => ⟨ρ, F, s, (PostG.bind s p).imp fun c H1 ⟨F1, a, s1, e, x1, p1⟩ => by
    subst e
    cases c with
    | true => rw [if_pos rfl] at p1 ⊢; exact ⟨ρ, F1, s1, p1⟩
    | false => rw [if_neg (by decide)] at p1 ⊢; exact PostG.here s1.sub p1 rfl⟩
theorem vw_or {a b : Expr} {rest : List Expr} {pos : Pos} {f h : Env → Res Bool} (ha : VT X g W a f) (hb : VW X g W (.BoolOp .Or (b :: rest) pos) h) : VW X g W (.BoolOp .Or (a :: b :: rest) pos) (bOr f h) :=
  PW.imp (pw_or ha hb) fun σ H Q ⟨ρ, F, s, p⟩ => ⟨ρ, F, s, (PostG.bind s p).imp fun c H1 ⟨F1, a, s1, e, x1, p1⟩ => by
    subst e
    cases c with
    | true => rw [if_pos rfl] at p1 ⊢; exact PostG.here s1.sub p1 rfl
    | false => rw [if_neg (by decide)] at p1 ⊢; exact ⟨ρ, F1, s1, p1⟩⟩
theorem vt_not {a : Expr} {pos : Pos} {f : Env → Res Bool} (ha : VT X g W a f) : VT X g W (.UnaryOp .Not a pos) (bNot f) :=
  PT.imp (pt_not ha) fun σ H Q ⟨ρ, F, s, p⟩ => ⟨ρ, F, s, (PostG.bind s p).imp fun c H1 ⟨F1, a, s1, e, x1, p1⟩ => by
    subst e
    exact PostG.here s1.sub p1 rfl⟩
theorem ve_one {op} {a : Expr} {pos : Pos} {f : Env → Res Dat} (h : VE X g W a f) : VE X g W (.BoolOp op [a] pos) f := pe_one h
theorem ve_and {a b : Expr} {rest : List Expr} {pos : Pos} {f h : Env → Res Dat} (ha : VE X g W a f) (hb : VE X g W (.BoolOp .And (b :: rest) pos) h) : VE X g W (.BoolOp .And (a :: b :: rest) pos) (eAnd f h) :=
  PE.imp (pe_and ha hb) fun σ H Q ⟨ρ, F, s, p⟩ => ⟨ρ, F, s, (PostG.bind s p).imp fun x H1 ⟨F1, a, s1, ra, x1, p1⟩ => by
    obtain ⟨c, e1, _, p2⟩ := rep_bool ra p1
    refine ⟨c, e1, ?_⟩
    cases c with
    | true => rw [if_pos rfl] at p2 ⊢; exact ⟨ρ, F1, s1, p2⟩
    | false => rw [if_neg (by decide)] at p2 ⊢; exact PostG.here s1.sub p2 (.bl _)⟩
theorem ve_or {a b : Expr} {rest : List Expr} {pos : Pos} {f h : Env → Res Dat} (ha : VE X g W a f) (hb : VE X g W (.BoolOp .Or (b :: rest) pos) h) : VE X g W (.BoolOp .Or (a :: b :: rest) pos) (eOr f h) :=
  PE.imp (pe_or ha hb) fun σ H Q ⟨ρ, F, s, p⟩ => ⟨ρ, F, s, (PostG.bind s p).imp fun x H1 ⟨F1, a, s1, ra, x1, p1⟩ => by
    obtain ⟨c, e1, _, p2⟩ := rep_bool ra p1
    refine ⟨c, e1, ?_⟩
    cases c with
    | true => rw [if_pos rfl] at p2 ⊢; exact PostG.here s1.sub p2 (.bl _)
    | false => rw [if_neg (by decide)] at p2 ⊢; exact ⟨ρ, F1, s1, p2⟩⟩
theorem ve_not {a : Expr} {pos : Pos} {f : Env → Res Dat} (ha : VE X g W a f) : VE X g W (.UnaryOp .Not a pos) (eNot f) :=
  PE.imp (pe_not ha) fun σ H Q ⟨ρ, F, s, p⟩ => ⟨ρ, F, s, (PostG.bind s p).imp fun x H1 ⟨F1, a, s1, ra, x1, p1⟩ => by
    obtain ⟨c, e1, _, p2⟩ := rep_bool ra p1
    exact ⟨c, e1, PostG.here s1.sub p2 (.bl _)⟩⟩
theorem ve_ifExp {c a b : Expr} {pos : Pos} {t : Env → Res Bool} {f h : Env → Res Dat} (hc : VT X g W c t) (ha : VE X g W a f) (hb : VE X g W b h) : VE X g W (.IfExp c a b pos) (eIf t f h) :=
  PE.imp (pe_ifExp hc ha hb) fun σ H Q ⟨ρ, F, s, p⟩ => ⟨ρ, F, s, (PostG.bind s p).imp fun c H1 ⟨F1, a, s1, e, x1, p1⟩ => by
    subst e
    cases c with
    | true => rw [if_pos rfl] at p1 ⊢; exact ⟨ρ, F1, s1, p1⟩
    | false => rw [if_neg (by decide)] at p1 ⊢; exact ⟨ρ, F1, s1, p1⟩⟩

/-! ### arguments -/
theorem va_nil : VA X g W [] aNil := PA.imp pa_nil fun σ H Q ⟨ρ, F, s, p⟩ => PostG.here s.sub p .nil
theorem va_cons {e : Expr} {es : List Expr} {f : Env → Res Dat} {h : Env → Res (List Dat)} (ha : VE X g W e f) (hr : VA X g W es h) (hs : starEach (e :: es) X.env = (false, eval e X.env) :: starEach es X.env := by rfl) : VA X g W (e :: es) (aCons f h) :=
  PA.imp (pa_cons ha hr hs) fun σ H Q ⟨ρ, F, s, p⟩ => ⟨ρ, F, s, (PostG.bind s p).imp fun x H1 ⟨F1, a, s1, ra, x1, p1⟩ => ⟨ρ, F1, s1, (PostG.bind s1 p1).imp fun xs H2 ⟨F2, b, s2, rb, x2, p2⟩ => PostG.here s2.sub p2 (.cons (ra.mono (x2.le s1.sub)) rb)⟩⟩
end
end VL

/-! VL2: operators upon plain data. -/
namespace VL
open PySem PySem.Spec PyProof.Rows L2

def big : Nat := 1000000
theorem big_le : big ≤ sizeLine := by decide

/-! ### arithmetic -/
def addD : Dat → Dat → Res Dat
  | .int i, .int j => .ok (.int (i + j))
  | .str a, .str b => if a.length + b.length ≤ big then .ok (.str (a ++ b)) else .stuck
  | .lst a, .lst b => if a.length + b.length ≤ big then .ok (.lst (a ++ b)) else .stuck
  | .tup a, .tup b => if a.length + b.length ≤ big then .ok (.tup (a ++ b)) else .stuck
  | _, _ => .stuck
def subD : Dat → Dat → Res Dat
  | .int i, .int j => .ok (.int (i - j))
  | _, _ => .stuck
def mulOk (i j : Int) : Bool := (decide (-(2 ^ 64) < i) && decide (i < 2 ^ 64)) || (decide (-(2 ^ 64) < j) && decide (j < 2 ^ 64)) || (decide (i.natAbs < 2 ^ 200) && decide (j.natAbs < 2 ^ 200))
def mulD : Dat → Dat → Res Dat
  | .int i, .int j => if mulOk i j = true then .ok (.int (i * j)) else .stuck
  | .lst a, .int k => if -(2 ^ 31) ≤ k ∧ k < 2 ^ 31 ∧ a.length * k.toNat ≤ big then .ok (.lst (List.replicate k.toNat a).flatten) else .stuck
  | .str a, .int k => if a.length ≤ 1000 ∧ -(2 ^ 31) ≤ k ∧ k ≤ 1000 then .ok (.str (Txt.mul a k)) else .stuck
  | _, _ => .stuck
def fdivD : Dat → Dat → Res Dat
  | .int i, .int j => if 0 < j ∧ j < 2 ^ 200 then .ok (.int (i / j)) else .stuck
  | _, _ => .stuck
def modD : Dat → Dat → Res Dat
  | .int i, .int j => if 0 < j then .ok (.int (i % j)) else .stuck
  | _, _ => .stuck
def powD : Dat → Dat → Res Dat
  | .int i, .int j => if 0 ≤ j ∧ j ≤ 1000 ∧ i.natAbs < 2 ^ 64 then .ok (.int (i ^ j.toNat)) else .stuck
  | _, _ => .stuck
def negD : Dat → Res Dat
  | .int i => .ok (.int (-i))
  | _ => .stuck
theorem mulOk_ok {i j : Int} (h : mulOk i j = true) : CMul i j ∨ CMulW i j := by
  unfold mulOk at h
  simp only [Bool.or_eq_true, Bool.and_eq_true, decide_eq_true_eq] at h
  rcases h with (h | h) | h
  · exact .inl (.inl h)
  · exact .inl (.inr h)
  · exact .inr (wide_mul h.1 h.2 (by decide) (by decide) (by decide))
theorem natAbs_lt {j : Int} {n : Nat} (h0 : 0 < j) (h : j < (n : Int)) : j.natAbs < n := by omega

section
variable {X : Cx} {g : Glob} {W : WX}
def rAddA (K : PySem.W.Frag) : R2 := fun x y H Q => (rI0 fun i j => V.int (i + j)) x y H Q ∨ (∃ i j, x = .str i ∧ y = .str j ∧ i.length + j.length ≤ sizeLine ∧ Q (.str (i ++ j)) H) ∨ rCat x y H Q ∨ rCatA K x y H Q
theorem op_addA : OpR X (binaryOp .Add) (rAddA X.K) := op_add.or (op_add_str.or (op_cat.or op_catA))
theorem opd_add : OpD X g W addD (rAddA X.K) := by
  intro F H σ ρ x y a b Q s ra rb p
  cases ra with
  | int i => cases rb with
    | int j => exact .inl ⟨i, j, rfl, rfl, PostG.here s.sub p (.int _)⟩
    | _ => exact p.elim
  | str i => cases rb with
    | str j =>
      dsimp only [addD] at p
      by_cases h : i.length + j.length ≤ big
      · rw [if_pos h] at p
        exact .inr (.inl ⟨i, j, rfl, rfl, Nat.le_trans h big_le, PostG.here s.sub p (.str _)⟩)
      · rw [if_neg h] at p; exact p.elim
    | _ => exact p.elim
  | lst ha rs => cases rb with
    | @lst bb ys es hb rt =>
      rename_i aa xs ds
      dsimp only [addD] at p
      by_cases h : ds.length + es.length ≤ big
      · rw [if_pos h] at p
        refine .inr (.inr (.inl ⟨aa, bb, xs, ys, rfl, rfl, s.sub _ _ ha, s.sub _ _ hb, by rw [rs.length, rt.length]; exact Nat.le_trans h big_le, fun q hq => ?_⟩))
        have x1 := Ext.new (g := g) (o := .lst (xs ++ ys)) s.sub hq
        exact PostG.ret x1 p (.lst upd_same ((rs.append rt).mono (x1.le s.sub)))
      · rw [if_neg h] at p; exact p.elim
    | _ => exact p.elim
  | tup ha rs => cases rb with
    | @tup bb ys es hb rt =>
      rename_i aa xs ds
      dsimp only [addD] at p
      by_cases h : ds.length + es.length ≤ big
      · rw [if_pos h] at p
        refine .inr (.inr (.inr ⟨aa, bb, xs, ys, rfl, rfl, sqT_mono s.sub ha, sqT_mono s.sub hb, by rw [rs.length, rt.length]; exact Nat.le_trans h big_le, fun e => ?_, fun _ e => ?_, fun _ _ q hq => ?_⟩))
        · subst e
          cases rs
          exact PostG.here s.sub p (.tup hb rt)
        · subst e
          cases rt
          refine PostG.here s.sub p (.tup ha ?_)
          rw [List.append_nil]; exact rs
        · have x1 := Ext.new (g := g) (o := .tup (xs ++ ys)) s.sub hq
          exact PostG.ret x1 p (.tup (SqT.of upd_same) ((rs.append rt).mono (x1.le s.sub)))
      · rw [if_neg h] at p; exact p.elim
    | _ => exact p.elim
  | _ => exact p.elim
theorem ve_add {a b : Expr} {pos : Pos} {f h : Env → Res Dat} (ha : VE X g W a f) (hb : VE X g W b h) : VE X g W (.BinOp a .Add b pos) (eBin addD f h) := ve_op op_addA opd_add ha hb
theorem opd_sub : OpD X g W subD (rI0 fun i j => .int (i - j)) := by
  intro F H σ ρ x y a b Q s ra rb p
  cases ra with
  | int i => cases rb with
    | int j => exact ⟨i, j, rfl, rfl, PostG.here s.sub p (.int _)⟩
    | _ => exact p.elim
  | _ => exact p.elim
theorem ve_sub {a b : Expr} {pos : Pos} {f h : Env → Res Dat} (ha : VE X g W a f) (hb : VE X g W b h) : VE X g W (.BinOp a .Sub b pos) (eBin subD f h) := ve_op op_sub opd_sub ha hb
def rMulS : R2 := fun x y H Q => ∃ a k, x = .str a ∧ y = .int k ∧ a.length ≤ 1000 ∧ -(2 ^ 31) ≤ k ∧ k ≤ 1000 ∧ Q (.str (Txt.mul a k)) H
theorem op_mulS : OpR X (binaryOp .Mult) rMulS := by
  intro pins s σ H x y v u Q I rx ry h
  obtain ⟨a, k, rfl, rfl, h1, h2, h3, q⟩ := h
  obtain ⟨t, rfl⟩ := rx
  obtain ⟨t2, rfl⟩ := ry
  exact SB.mul (mulOk_of 1000 1000 h1 (by omega) (by omega) (by decide) (by decide)) fun t' k' => ⟨.str _, H, I.tok k', ⟨t', rfl⟩, q⟩
def rMulA : R2 := fun x y H Q => (((rI CMul fun i j => V.int (i * j)) x y H Q ∨ (rI CMulW fun i j => V.int (i * j)) x y H Q) ∨ rRep x y H Q) ∨ rMulS x y H Q
theorem op_mulA : OpR X (binaryOp .Mult) rMulA := ((op_mul.or op_mulW).or op_rep).or op_mulS
theorem flatten_reps {K : PySem.W.Frag} {F : Hp} {vs : List V} {ds : List Dat} (h : Reps K g F vs ds) : ∀ n : Nat, Reps K g F (List.replicate n vs).flatten (List.replicate n ds).flatten
  | 0 => .nil
  | n + 1 => by
    rw [List.replicate_succ, List.replicate_succ, List.flatten_cons, List.flatten_cons]
    exact h.append (flatten_reps h n)
theorem opd_mul : OpD X g W mulD rMulA := by
  intro F H σ ρ x y a b Q s ra rb p
  cases ra with
  | int i => cases rb with
    | int j =>
      dsimp only [mulD] at p
      by_cases h : mulOk i j = true
      · rw [if_pos h] at p
        rcases mulOk_ok h with q | q
        · exact .inl (.inl (.inl ⟨i, j, rfl, rfl, q, PostG.here s.sub p (.int _)⟩))
        · exact .inl (.inl (.inr ⟨i, j, rfl, rfl, q, PostG.here s.sub p (.int _)⟩))
      · rw [if_neg h] at p; exact p.elim
    | _ => exact p.elim
  | lst ha rs => cases rb with
    | int k =>
      rename_i aa xs ds
      dsimp only [mulD] at p
      by_cases h : -(2 ^ 31) ≤ k ∧ k < 2 ^ 31 ∧ ds.length * k.toNat ≤ big
      · rw [if_pos h] at p
        refine .inl (.inr ⟨aa, k, xs, rfl, rfl, s.sub _ _ ha, by omega, by omega, by rw [rs.length]; exact Nat.le_trans h.2.2 big_le, fun q hq => ?_⟩)
        have x1 := Ext.new (g := g) (o := .lst (List.replicate k.toNat xs).flatten) s.sub hq
        exact PostG.ret x1 p (.lst upd_same ((flatten_reps rs _).mono (x1.le s.sub)))
      · rw [if_neg h] at p; exact p.elim
    | _ => exact p.elim
  | str a => cases rb with
    | int k =>
      dsimp only [mulD] at p
      by_cases h : a.length ≤ 1000 ∧ -(2 ^ 31) ≤ k ∧ k ≤ 1000
      · rw [if_pos h] at p
        exact .inr ⟨a, k, rfl, rfl, h.1, h.2.1, h.2.2, PostG.here s.sub p (.str _)⟩
      · rw [if_neg h] at p; exact p.elim
    | _ => exact p.elim
  | _ => exact p.elim
theorem ve_mul {a b : Expr} {pos : Pos} {f h : Env → Res Dat} (ha : VE X g W a f) (hb : VE X g W b h) : VE X g W (.BinOp a .Mult b pos) (eBin mulD f h) := ve_op op_mulA opd_mul ha hb
theorem opd_fdiv : OpD X g W fdivD (rI CDivW fun i j => .int (i / j)) := by
  intro F H σ ρ x y a b Q s ra rb p
  cases ra with
  | int i => cases rb with
    | int j =>
      dsimp only [fdivD] at p
      by_cases h : 0 < j ∧ j < 2 ^ 200
      · rw [if_pos h] at p
        exact ⟨i, j, rfl, rfl, wide_div h.1 (natAbs_lt h.1 (by simpa using h.2)) (by decide : 0 < 200) (by decide), PostG.here s.sub p (.int _)⟩
      · rw [if_neg h] at p; exact p.elim
    | _ => exact p.elim
  | _ => exact p.elim
theorem ve_fdiv {a b : Expr} {pos : Pos} {f h : Env → Res Dat} (ha : VE X g W a f) (hb : VE X g W b h) : VE X g W (.BinOp a .FloorDiv b pos) (eBin fdivD f h) := ve_op op_fdivW opd_fdiv ha hb
theorem opd_mod : OpD X g W modD (rI (fun _ j => 0 < j) fun i j => .int (i % j)) := by
  intro F H σ ρ x y a b Q s ra rb p
  cases ra with
  | int i => cases rb with
    | int j =>
      dsimp only [modD] at p
      by_cases h : 0 < j
      · rw [if_pos h] at p
        exact ⟨i, j, rfl, rfl, h, PostG.here s.sub p (.int _)⟩
      · rw [if_neg h] at p; exact p.elim
    | _ => exact p.elim
  | _ => exact p.elim
theorem ve_mod {a b : Expr} {pos : Pos} {f h : Env → Res Dat} (ha : VE X g W a f) (hb : VE X g W b h) : VE X g W (.BinOp a .Mod b pos) (eBin modD f h) := ve_op op_mod opd_mod ha hb
theorem opd_pow : OpD X g W powD (rI CPow fun i j => .int (i ^ j.toNat)) := by
  intro F H σ ρ x y a b Q s ra rb p
  cases ra with
  | int i => cases rb with
    | int j =>
      dsimp only [powD] at p
      by_cases h : 0 ≤ j ∧ j ≤ 1000 ∧ i.natAbs < 2 ^ 64
      · rw [if_pos h] at p
        exact ⟨i, j, rfl, rfl, ⟨h.1, by omega, h.2.2⟩, PostG.here s.sub p (.int _)⟩
      · rw [if_neg h] at p; exact p.elim
    | _ => exact p.elim
  | _ => exact p.elim
theorem ve_pow {a b : Expr} {pos : Pos} {f h : Env → Res Dat} (ha : VE X g W a f) (hb : VE X g W b h) : VE X g W (.BinOp a .Pow b pos) (eBin powD f h) := ve_op op_pow opd_pow ha hb
theorem und_neg : UnD X g W negD (rU fun i => .int (-i)) := by
  intro F H σ ρ x a Q s ra p
  cases ra with
  | int i => exact ⟨i, rfl, PostG.here s.sub p (.int _)⟩
  | _ => exact p.elim
theorem ve_neg {a : Expr} {pos : Pos} {f : Env → Res Dat} (ha : VE X g W a f) : VE X g W (.UnaryOp .USub a pos) (eUn negD f) := ve_un un_neg und_neg ha
end

/-! ### == and != -/
mutual
/-- as the model's plain data -/
def toPy : Dat → Option PyData
  | .non => some .none
  | .bl b => some (.bool b)
  | .int i => some (.int i)
  | .str x => some (.str x)
  | .lst xs => (toPys xs).map .list
  | .rls xs => (toPys xs).map .list
  | .tup xs => (toPys xs).map .tuple
  | .dct _ => none
  | .ins _ _ => none
  | .ty _ => none
  | .opq _ => none
def toPys : List Dat → Option (List PyData)
  | [] => some []
  | d :: ds => match toPy d, toPys ds with
    | some x, some xs => some (x :: xs)
    | _, _ => none
end
section
variable {K : PySem.W.Frag} {g : Glob} {F H : Hp}
theorem reps_dp {vs : List V} {ds : List Dat} (ih : ∀ v d, d ∈ ds → ∀ e, Rep K g F v d → toPy d = some e → Dp K H v e) (h : Reps K g F vs ds) : ∀ es, toPys ds = some es → DpAll K H vs es := by
  induction vs generalizing ds with
  | nil => cases h; intro es e; unfold toPys at e; cases e; exact .nil
  | cons v vs k =>
    cases h with
    | @cons _ _ d ds a b =>
      intro es e
      unfold toPys at e
      cases h1 : toPy d with
      | none => rw [h1] at e; simp at e
      | some x =>
        cases h2 : toPys ds with
        | none => rw [h1, h2] at e; simp at e
        | some xs =>
          rw [h1, h2] at e
          cases e
          exact .cons (ih v d (by simp) x a h1) (k (fun v d hd => ih v d (List.mem_cons_of_mem _ hd)) b xs h2)
theorem rep_dp (s : Same F H) {v : V} {d : Dat} (h : Rep K g F v d) : ∀ e, toPy d = some e → Dp K H v e :=
  Rep.rec (motive_1 := fun v d _ => ∀ e, toPy d = some e → Dp K H v e) (motive_2 := fun vs ds _ => ∀ es, toPys ds = some es → DpAll K H vs es)
    (fun e h => by unfold toPy at h; cases h; exact .non) (fun b e h => by unfold toPy at h; cases h; exact .bl b) (fun b e h => by unfold toPy at h; cases h; exact .int b) (fun b e h => by unfold toPy at h; cases h; exact .str b) (fun b e h => by unfold toPy at h; cases h) (fun b e h => by unfold toPy at h; cases h)
    (fun {a xs ds} h _ r e q => by
      unfold toPy at q
      cases h1 : toPys ds with
      | none => rw [h1] at q; simp at q
      | some es => rw [h1] at q; simp at q; subst q; exact .lst (SqL.of (s _ _ h)) (r es h1))
    (fun {a xs ds} h _ r e q => by
      unfold toPy at q
      cases h1 : toPys ds with
      | none => rw [h1] at q; simp at q
      | some es => rw [h1] at q; simp at q; subst q; exact .lst (s.seq h) (r es h1))
    (fun {a xs ds} h _ r e q => by
      unfold toPy at q
      cases h1 : toPys ds with
      | none => rw [h1] at q; simp at q
      | some es => rw [h1] at q; simp at q; subst q; exact .tup (sqT_mono s h) (r es h1))
    (fun _ _ _ _ e q => by unfold toPy at q; cases q) (fun _ _ _ _ e q => by unfold toPy at q; cases q)
    (fun es e => by unfold toPys at e; cases e; exact .nil)
    (fun {v vs d ds} _ _ a b es e => by
      unfold toPys at e
      cases h1 : toPy d with
      | none => rw [h1] at e; simp at e
      | some x =>
        cases h2 : toPys ds with
        | none => rw [h1, h2] at e; simp at e
        | some xs => rw [h1, h2] at e; cases e; exact .cons (a x h1) (b xs h2)) h
end
/-- the answer of ==, where the layer knows it -/
def eqPy (a b : Dat) : Option Bool := match toPy a, toPy b with
  | some x, some y => if SeqAt.shaped x && SeqAt.shaped y then some (PyData.eqv x y) else none
  | _, _ => none
def eqB (a b : Dat) : Option Bool := match a, b with
  | .str x, .str y => some (decide (x = y))
  | a, b => eqPy a b
def eqD (a b : Dat) : Res Dat := match eqB a b with
  | some c => .ok (.bl c)
  | none => .stuck
def neD (a b : Dat) : Res Dat := match eqB a b with
  | some c => .ok (.bl (!c))
  | none => .stuck
section
variable {X : Cx} {g : Glob} {W : WX}
theorem eqPy_of {a b : Dat} {c : Bool} (h : eqPy a b = some c) : ∃ x y, toPy a = some x ∧ toPy b = some y ∧ SeqAt.shaped x = true ∧ SeqAt.shaped y = true ∧ c = PyData.eqv x y := by
  unfold eqPy at h
  cases h1 : toPy a with
  | none => rw [h1] at h; simp at h
  | some x =>
    cases h2 : toPy b with
    | none => rw [h1, h2] at h; simp at h
    | some y =>
      rw [h1, h2] at h
      by_cases q : (SeqAt.shaped x && SeqAt.shaped y) = true
      · simp only [q, if_true] at h
        have q' := Bool.and_eq_true_iff.mp q
        exact ⟨x, y, rfl, rfl, q'.1, q'.2, (Option.some.inj h).symm⟩
      · simp [q] at h
theorem eqB_of {a b : Dat} {c : Bool} (h : eqB a b = some c) : (∃ x y, a = .str x ∧ b = .str y ∧ c = decide (x = y)) ∨ ∃ x y, toPy a = some x ∧ toPy b = some y ∧ SeqAt.shaped x = true ∧ SeqAt.shaped y = true ∧ c = PyData.eqv x y := by
  unfold eqB at h
  split at h
  · exact .inl ⟨_, _, rfl, rfl, (Option.some.inj h).symm⟩
  · exact .inr (eqPy_of h)
def rEqA (K : PySem.W.Frag) : R2 := fun x y H Q => rEq x y H Q ∨ rEqD K x y H Q
def rNeA (K : PySem.W.Frag) : R2 := fun x y H Q => rNe x y H Q ∨ rNeD K x y H Q
theorem op_eqA (hu : X.A.units + 64 < cLine) : OpR X (compareOp .Eq) (rEqA X.K) := op_eq.or (op_eqD hu)
theorem op_neA (hu : X.A.units + 64 < cLine) : OpR X (compareOp .NotEq) (rNeA X.K) := op_ne.or (op_neD hu)
theorem dec_strV (x y : Str) : decide (V.str x = V.str y) = decide (x = y) := by simp
theorem opd_eq : OpD X g W eqD (rEqA X.K) := by
  intro F H σ ρ x y a b Q s ra rb p
  unfold eqD at p
  cases e : eqB a b with
  | none => rw [e] at p; exact p.elim
  | some c =>
    rw [e] at p
    rcases eqB_of e with ⟨u, v, rfl, rfl, rfl⟩ | ⟨u, v, h1, h2, h3, h4, rfl⟩
    · cases ra; cases rb
      exact .inl ⟨rfl, by rw [dec_strV]; exact PostG.here s.sub p (.bl _)⟩
    · exact .inr ⟨u, v, rep_dp s.sub ra u h1, rep_dp s.sub rb v h2, h3, h4, PostG.here s.sub p (.bl _)⟩
theorem opd_ne : OpD X g W neD (rNeA X.K) := by
  intro F H σ ρ x y a b Q s ra rb p
  unfold neD at p
  cases e : eqB a b with
  | none => rw [e] at p; exact p.elim
  | some c =>
    rw [e] at p
    rcases eqB_of e with ⟨u, v, rfl, rfl, rfl⟩ | ⟨u, v, h1, h2, h3, h4, rfl⟩
    · cases ra; cases rb
      exact .inl ⟨rfl, by rw [dec_strV]; exact PostG.here s.sub p (.bl _)⟩
    · exact .inr ⟨u, v, rep_dp s.sub ra u h1, rep_dp s.sub rb v h2, h3, h4, PostG.here s.sub p (.bl _)⟩
theorem ve_eq {k : Nat} {a b : Expr} {pos : Pos} {f h : Env → Res Dat} (hr : Room k X.A) (ha : VE X g W a f) (hb : VE X g W b h) : VE X g W (.Compare a [.Eq] [b] pos) (eBin eqD f h) := ve_cmp (op_eqA hr.units) opd_eq ha hb (nomark _)
theorem ve_ne {k : Nat} {a b : Expr} {pos : Pos} {f h : Env → Res Dat} (hr : Room k X.A) (ha : VE X g W a f) (hb : VE X g W b h) : VE X g W (.Compare a [.NotEq] [b] pos) (eBin neD f h) := ve_cmp (op_neA hr.units) opd_ne ha hb (nomark _)
end

/-! ### the order of ints and of texts -/
def ltD : Dat → Dat → Res Dat
  | .int i, .int j => .ok (.bl (decide (i < j)))
  | .str a, .str b => .ok (.bl (decide (a.cps.toList < b.cps.toList)))
  | _, _ => .stuck
def leD : Dat → Dat → Res Dat
  | .int i, .int j => .ok (.bl (decide (i ≤ j)))
  | .str a, .str b => .ok (.bl (!decide (b.cps.toList < a.cps.toList)))
  | _, _ => .stuck
def gtD : Dat → Dat → Res Dat
  | .int i, .int j => .ok (.bl (decide (j < i)))
  | _, _ => .stuck
def geD : Dat → Dat → Res Dat
  | .int i, .int j => .ok (.bl (decide (j ≤ i)))
  | _, _ => .stuck
section
variable {X : Cx} {g : Glob} {W : WX}
def rLtA : R2 := fun x y H Q => (rI0 fun i j => V.bl (decide (i < j))) x y H Q ∨ (∃ i j, x = .str i ∧ y = .str j ∧ Q (.bl (decide (i.cps.toList < j.cps.toList))) H)
theorem op_ltA : OpR X (compareOp .Lt) rLtA := op_lt.or op_lt_str
theorem opd_lt : OpD X g W ltD rLtA := by
  intro F H σ ρ x y a b Q s ra rb p
  cases ra with
  | int i => cases rb with
    | int j => exact .inl ⟨i, j, rfl, rfl, PostG.here s.sub p (.bl _)⟩
    | _ => exact p.elim
  | str i => cases rb with
    | str j => exact .inr ⟨i, j, rfl, rfl, PostG.here s.sub p (.bl _)⟩
    | _ => exact p.elim
  | _ => exact p.elim
def rLeA : R2 := fun x y H Q => (rI0 fun i j => V.bl (decide (i ≤ j))) x y H Q ∨ (∃ i j, x = .str i ∧ y = .str j ∧ Q (.bl (!decide (j.cps.toList < i.cps.toList))) H)
theorem op_leA : OpR X (compareOp .LtE) rLeA := op_le.or op_le_str
theorem opd_le : OpD X g W leD rLeA := by
  intro F H σ ρ x y a b Q s ra rb p
  cases ra with
  | int i => cases rb with
    | int j => exact .inl ⟨i, j, rfl, rfl, PostG.here s.sub p (.bl _)⟩
    | _ => exact p.elim
  | str i => cases rb with
    | str j => exact .inr ⟨i, j, rfl, rfl, PostG.here s.sub p (.bl _)⟩
    | _ => exact p.elim
  | _ => exact p.elim
theorem opd_gt : OpD X g W gtD (rI0 fun i j => .bl (decide (j < i))) := by
  intro F H σ ρ x y a b Q s ra rb p
  cases ra with
  | int i => cases rb with
    | int j => exact ⟨i, j, rfl, rfl, PostG.here s.sub p (.bl _)⟩
    | _ => exact p.elim
  | _ => exact p.elim
theorem opd_ge : OpD X g W geD (rI0 fun i j => .bl (decide (j ≤ i))) := by
  intro F H σ ρ x y a b Q s ra rb p
  cases ra with
  | int i => cases rb with
    | int j => exact ⟨i, j, rfl, rfl, PostG.here s.sub p (.bl _)⟩
    | _ => exact p.elim
  | _ => exact p.elim
theorem ve_lt {a b : Expr} {pos : Pos} {f h : Env → Res Dat} (ha : VE X g W a f) (hb : VE X g W b h) : VE X g W (.Compare a [.Lt] [b] pos) (eBin ltD f h) := ve_cmp op_ltA opd_lt ha hb (nomark _)
theorem ve_le {a b : Expr} {pos : Pos} {f h : Env → Res Dat} (ha : VE X g W a f) (hb : VE X g W b h) : VE X g W (.Compare a [.LtE] [b] pos) (eBin leD f h) := ve_cmp op_leA opd_le ha hb (nomark _)
theorem ve_gt {a b : Expr} {pos : Pos} {f h : Env → Res Dat} (ha : VE X g W a f) (hb : VE X g W b h) : VE X g W (.Compare a [.Gt] [b] pos) (eBin gtD f h) := ve_cmp op_gt opd_gt ha hb (nomark _)
theorem ve_ge {a b : Expr} {pos : Pos} {f h : Env → Res Dat} (ha : VE X g W a f) (hb : VE X g W b h) : VE X g W (.Compare a [.GtE] [b] pos) (eBin geD f h) := ve_cmp op_ge opd_ge ha hb (nomark _)
/-- a < b < c -/
def eChain (o1 o2 : Dat → Dat → Res Dat) (f h l : Env → Res Dat) : Env → Res Dat := fun ρ => (f ρ).bind fun a => (h ρ).bind fun b => (o1 a b).bind fun z => (toB z).bind fun k => if k = true then (l ρ).bind fun c => o2 b c else .ok (.bl false)
theorem tChain_of {o1 o2 : Dat → Dat → Res Dat} {r r' : R2} {f h l : Env → Res Dat} {σ : St} {H : Hp} {Q : VK} (h1 : OpD X g W o1 r) (h2 : OpD X g W o2 r') (q : tV X.K g W (eChain o1 o2 f h l) σ H Q) : tChain r r' (tV X.K g W f) (tV X.K g W h) (tV X.K g W l) σ H Q := by
  obtain ⟨ρ, F, s, p⟩ := q
  refine ⟨ρ, F, s, (PostG.bind s p).imp ?_⟩
  rintro x H1 ⟨F1, a, s1, ra, x1, p1⟩
  refine ⟨ρ, F1, s1, (PostG.bind s1 p1).imp ?_⟩
  rintro y H2 ⟨F2, b, s2, rb, x2, p2⟩
  refine h1 s2 (ra.mono (x2.le s1.sub)) rb ((PostG.bind (R := Rep X.K g) s2 p2).imp ?_)
  rintro z H3 ⟨F3, c, s3, rc, x3, p3⟩
  obtain ⟨k, e1, _, p4⟩ := rep_bool rc p3
  refine ⟨k, e1, ?_⟩
  cases k with
  | true =>
    rw [if_pos rfl] at p4 ⊢
    refine ⟨ρ, F3, s3, (PostG.bind s3 p4).imp ?_⟩
    rintro w H4 ⟨F4, d, s4, rd, x4, p5⟩
    exact h2 s4 (rb.mono (Same.trans (x3.le s2.sub) (x4.le s3.sub))) rd p5
  | false => rw [if_neg (by decide)] at p4 ⊢; exact PostG.here s3.sub p4 (.bl _)
theorem ve_lele {a b c : Expr} {pos : Pos} {f h l : Env → Res Dat} (ha : VE X g W a f) (hb : VE X g W b h) (hc : VE X g W c l) (hm : lastMarks [.LtE, .LtE] [b, c] = false := by with_unfolding_all rfl) : VE X g W (.Compare a [.LtE, .LtE] [b, c] pos) (eChain leD leD f h l) :=
  PE.imp (pe_chain op_leA op_leA ha hb hc hm) fun _ _ _ q => tChain_of opd_le opd_le q
end
end VL

/-! VL3: displays, subscripts, slices, membership, builtins, calls. -/
namespace VL
open PySem PySem.Spec PyProof.Rows L2

/-! ### displays -/
def eTup (f : Env → Res (List Dat)) : Env → Res Dat := fun ρ => (f ρ).bind fun ds => if ds.length ≤ big then .ok (.tup ds) else .stuck
def eLst (f : Env → Res (List Dat)) : Env → Res Dat := fun ρ => (f ρ).bind fun ds => if ds.length ≤ big then .ok (.lst ds) else .stuck
section
variable {X : Cx} {g : Glob} {W : WX}
theorem ve_tup {es : List Expr} {x1} {pos : Pos} {f : Env → Res (List Dat)} (h : VA X g W es f) : VE X g W (.Tuple es x1 pos) (eTup f) :=
  PE.imp (pe_tup h) fun σ H Q ⟨ρ, F, s, p⟩ => ⟨ρ, F, s, (PostG.bind s p).imp fun xs H1 ⟨F1, ds, s1, rs, x1, p1⟩ => by
    by_cases h : ds.length ≤ big
    · rw [if_pos h] at p1
      refine ⟨by rw [rs.length]; exact Nat.le_trans h big_le, fun q hq => ?_⟩
      have x2 := Ext.new (g := g) (o := .tup xs) s1.sub hq
      exact PostG.ret x2 p1 (.tup (SqT.of upd_same) (rs.mono (x2.le s1.sub)))
    · rw [if_neg h] at p1; exact p1.elim⟩
theorem ve_lst {es : List Expr} {pos : Pos} {f : Env → Res (List Dat)} (h : VA X g W es f) : VE X g W (.List es pos) (eLst f) :=
  PE.imp (pe_lst h) fun σ H Q ⟨ρ, F, s, p⟩ => ⟨ρ, F, s, (PostG.bind s p).imp fun xs H1 ⟨F1, ds, s1, rs, x1, p1⟩ => by
    by_cases h : ds.length ≤ big
    · rw [if_pos h] at p1
      refine ⟨by rw [rs.length]; exact Nat.le_trans h big_le, fun q hq => ?_⟩
      have x2 := Ext.new (g := g) (o := .lst xs) s1.sub hq
      exact PostG.ret x2 p1 (.lst upd_same (rs.mono (x2.le s1.sub)))
    · rw [if_neg h] at p1; exact p1.elim⟩
end

/-! ### keys and dicts -/
def keyOf : Dat → Option Key
  | .int i => some (.inl i)
  | .str x => some (.inr x)
  | _ => none
def dLook (kvs : List (Key × Dat)) (k : Key) : Option Dat := (kvs.find? fun kv => decide (kv.1 = k)).map (·.2)
section
variable {K : PySem.W.Frag} {g : Glob} {F : Hp}
theorem rep_key {v : V} {d : Dat} {k : Key} (r : Rep K g F v d) (h : keyOf d = some k) : v = kV k := by
  cases r with
  | int i => cases h; rfl
  | str x => cases h; rfl
  | _ => cases h
theorem look_rep : ∀ {kvs : List (Key × V)} {ds : List (Key × Dat)} (k : Key), kvs.map Prod.fst = ds.map Prod.fst → Reps K g F (kvs.map Prod.snd) (ds.map Prod.snd) →
    (dLook ds k = none ∧ valV kvs k = none) ∨ ∃ d v, dLook ds k = some d ∧ valV kvs k = some v ∧ Rep K g F v d := by
  intro kvs
  induction kvs with
  | nil =>
    intro ds k e r
    cases ds with
    | nil => exact .inl ⟨rfl, rfl⟩
    | cons _ _ => simp at e
  | cons p kvs ih =>
    intro ds k e r
    cases ds with
    | nil => simp at e
    | cons q ds =>
      simp only [List.map_cons, List.cons.injEq] at e
      simp only [List.map_cons] at r
      cases r with
      | cons a b =>
        by_cases h : p.1 = k
        · have h' : q.1 = k := by rw [← e.1]; exact h
          refine .inr ⟨q.2, p.2, ?_, ?_, a⟩
          · unfold dLook; simp [List.find?_cons, h']
          · unfold valV; simp [List.find?_cons, h]
        · have h' : ¬ q.1 = k := by rw [← e.1]; exact h
          have e1 : dLook (q :: ds) k = dLook ds k := by unfold dLook; simp [List.find?_cons, h']
          have e2 : valV (p :: kvs) k = valV kvs k := by unfold valV; simp [List.find?_cons, h]
          rw [e1, e2]
          exact ih k e.2 b
end

/-! ### x[i] -/
def rIxDk : R2 := fun x y H Q => ∃ a v, x = .ref a ∧ DGet H a y (some v) ∧ Q v H
def ixD : Dat → Dat → Res Dat
  | .lst xs, .int i => match atI xs i with
    | some d => .ok d
    | none => .stuck
  | .rls xs, .int i => match atI xs i with
    | some d => .ok d
    | none => .stuck
  | .tup xs, .int i => match atI xs i with
    | some d => .ok d
    | none => .stuck
  | .str z, .int i => if z.length ≤ big then match atI z.cps.toList i with
      | some c => .ok (.str ⟨#[c]⟩)
      | none => .stuck
    else .stuck
  | .dct kvs, k => match keyOf k with
    | some k => match dLook kvs k with
      | some d => .ok d
      | none => .stuck
    | none => .stuck
  | _, _ => .stuck
theorem reps_atI {K : PySem.W.Frag} {g : Glob} {F : Hp} {vs : List V} {ds : List Dat} {i : Int} {d : Dat} (h : Reps K g F vs ds) (e : atI ds i = some d) : ∃ v, atI vs i = some v ∧ Rep K g F v d := by
  unfold atI at e ⊢
  rw [h.length]
  cases q : ixN ds.length i with
  | none => rw [q] at e; cases e
  | some j => rw [q] at e; exact h.get e
section
variable {X : Cx} {g : Glob} {W : WX}
theorem ix_dict (hu : X.A.units + 1 < cLine) : IxR X rIxDk := by
  intro value slice pins s σ H x y v u Q I rx ry h hs
  obtain ⟨a, w, rfl, gt, q⟩ := h
  cases rx
  exact tail_any (dict_typeIs I gt) PySem.F.slot_dict_getitem.lookup (d_getItem hu I gt ry fun w' s3 I3 rw' => ⟨w, H, I3, rw', q⟩) hs
def rIxA (K : PySem.W.Frag) : R2 := fun x y H Q => rIx K x y H Q ∨ rIxDk x y H Q
theorem ix_any (hu : X.A.units + 1 < cLine) : IxR X (rIxA X.K) := ix_seq.or (ix_dict hu)
theorem opd_ix : OpD X g W ixD (rIxA X.K) := by
  intro F H σ ρ x y a b Q s ra rb p
  cases ra with
  | lst ha rs =>
    rename_i aa xs ds
    cases rb with
    | int i =>
      cases e : atI ds i with
      | none => simp only [ixD, e] at p; exact p.elim
      | some d =>
        simp only [ixD, e] at p
        obtain ⟨v, h1, h2⟩ := reps_atI rs e
        exact .inl (.inl ⟨aa, xs, i, v, rfl, rfl, SqL.of (s.sub _ _ ha), h1, PostG.here s.sub p h2⟩)
    | _ => exact p.elim
  | rls ha rs =>
    rename_i aa xs ds
    cases rb with
    | int i =>
      cases e : atI ds i with
      | none => simp only [ixD, e] at p; exact p.elim
      | some d =>
        simp only [ixD, e] at p
        obtain ⟨v, h1, h2⟩ := reps_atI rs e
        exact .inl (.inl ⟨aa, xs, i, v, rfl, rfl, s.sub.seq ha, h1, PostG.here s.sub p h2⟩)
    | _ => exact p.elim
  | tup ha rs =>
    rename_i aa xs ds
    cases rb with
    | int i =>
      cases e : atI ds i with
      | none => simp only [ixD, e] at p; exact p.elim
      | some d =>
        simp only [ixD, e] at p
        obtain ⟨v, h1, h2⟩ := reps_atI rs e
        exact .inl (.inr (.inl ⟨aa, xs, i, v, rfl, rfl, sqT_mono s.sub ha, h1, PostG.here s.sub p h2⟩))
    | _ => exact p.elim
  | str z =>
    cases rb with
    | int i =>
      by_cases hz : z.length ≤ big
      · cases e : atI z.cps.toList i with
        | none => simp only [ixD, if_pos hz, e] at p; exact p.elim
        | some c =>
          simp only [ixD, if_pos hz, e] at p
          exact .inl (.inr (.inr ⟨z, i, c, rfl, rfl, Nat.le_trans hz big_le, e, PostG.here s.sub p (.str _)⟩))
      · simp only [ixD, if_neg hz] at p; exact p.elim
    | _ => exact p.elim
  | dct ha hk rs =>
    rename_i aa od kvs ds
    cases e : keyOf b with
    | none => simp only [ixD, e] at p; exact p.elim
    | some k =>
      have hy := rep_key rb e
      subst hy
      rcases look_rep k hk rs with ⟨h1, h2⟩ | ⟨d, v, h1, h2, h3⟩
      · simp only [ixD, e, h1] at p; exact p.elim
      · simp only [ixD, e, h1] at p
        exact .inr ⟨aa, v, rfl, .inl ⟨kvs, k, .inr ⟨_, s.sub _ _ ha⟩, rfl, h2.symm⟩, PostG.here s.sub p h3⟩
  | _ => exact p.elim
theorem ve_sub_ix {k : Nat} {a b : Expr} {pos : Pos} {f h : Env → Res Dat} (hr : Room k X.A) (ha : VE X g W a f) (hb : VE X g W b h) (hs : PlainIx b := by exact fun _ _ => rfl) : VE X g W (.Subscript a b pos) (eBin ixD f h) := ve_ix (ix_any (hu_of hr)) opd_ix ha hb hs
end

/-! ### x[lo:hi] -/
def cutD (xs : List Dat) (lo hi : Option Int) : List Dat := (xs.drop (HT.sIx xs.length 0 lo)).take (HT.sIx xs.length xs.length hi - HT.sIx xs.length 0 lo)
def slD : Dat → Option Int → Option Int → Res Dat
  | .lst xs, lo, hi => .ok (.lst (cutD xs lo hi))
  | .tup xs, lo, hi => .ok (.tup (cutD xs lo hi))
  | .str z, lo, hi => if z.length ≤ big then .ok (.str (cutS z lo hi)) else .stuck
  | _, _, _ => .stuck
def toI : Dat → Res (Option Int)
  | .int i => .ok (some i)
  | _ => .stuck
def oNone : Env → Res (Option Int) := fun _ => .ok none
def oSome (f : Env → Res Dat) : Env → Res (Option Int) := fun ρ => (f ρ).bind toI
def eSl (f : Env → Res Dat) (l u : Env → Res (Option Int)) : Env → Res Dat := fun ρ => (f ρ).bind fun a => (l ρ).bind fun lo => (u ρ).bind fun hi => slD a lo hi
theorem reps_cut {K : PySem.W.Frag} {g : Glob} {F : Hp} {vs : List V} {ds : List Dat} (h : Reps K g F vs ds) (lo hi : Option Int) : Reps K g F (cutV vs lo hi) (cutD ds lo hi) := by
  unfold cutV cutD
  rw [h.length]
  exact (h.drop _).take _
section
variable (X : Cx) (g : Glob) (W : WX)
def VO (e : Option Expr) (f : Env → Res (Option Int)) : Prop := PO X e (tG X.K g (fun _ (o : Option Int) a => o = a) W f)
end
theorem PO.imp {X : Cx} {e : Option Expr} {t t' : TO} (h : PO X e t) (i : ∀ σ H Q, t' σ H Q → t σ H Q) : PO X e t' := ⟨fun pins s σ H Q I q => h.run pins s σ H Q I (i σ H Q q)⟩
section
variable {X : Cx} {g : Glob} {W : WX}
theorem vo_none : VO X g W none oNone := PO.imp po_none fun σ H Q ⟨ρ, F, s, p⟩ => PostG.here s.sub p rfl
theorem vo_some {e : Expr} {f : Env → Res Dat} (h : VE X g W e f) : VO X g W (some e) (oSome f) := PO.imp (po_some h) fun σ H Q ⟨ρ, F, s, p⟩ => ⟨ρ, F, s, (PostG.bind s p).imp fun x H1 ⟨F1, a, s1, ra, x1, p1⟩ => by
  cases ra with
  | int i => exact ⟨i, rfl, PostG.here s1.sub p1 rfl⟩
  | _ => exact p1.elim⟩
def rSlAll (K : PySem.W.Frag) : V → Option Int → Option Int → Hp → VK → Prop := fun x lo hi H Q => rSlL K x lo hi H Q ∨ rSlA K x lo hi H Q ∨ rSlS x lo hi H Q
theorem sl_all : SlR X (rSlAll X.K) := sl_list.or (sl_tupA.or sl_str)
theorem whole_cut (ds : List Dat) (lo hi : Option Int) (h : HT.sIx ds.length 0 lo = 0 ∧ HT.sIx ds.length ds.length hi = ds.length) : cutD ds lo hi = ds := by
  unfold cutD; rw [h.1, h.2]; simp
theorem sld_ok {F H : Hp} {σ : St} {ρ : Env} {x : V} {a : Dat} {lo hi : Option Int} {Q : VK} (s : Stt X.K g F H σ ρ) (ra : Rep X.K g F x a) (p : PostG g (Rep X.K g) W σ F H (slD a lo hi) Q) : rSlAll X.K x lo hi H Q := by
  cases ra with
  | lst ha rs =>
    rename_i aa xs ds
    refine .inl ⟨aa, xs, rfl, SqL.of (s.sub _ _ ha), fun q hq => ?_⟩
    have x2 := Ext.new (g := g) (o := .lst (cutV xs lo hi)) s.sub hq
    exact PostG.ret x2 p (.lst upd_same ((reps_cut rs lo hi).mono (x2.le s.sub)))
  | tup ha rs =>
    rename_i aa xs ds
    refine .inr (.inl ⟨aa, xs, rfl, sqT_mono s.sub ha, fun hw => ?_, fun _ q hq => ?_⟩)
    · rw [rs.length] at hw
      refine PostG.here s.sub p (.tup ha ?_)
      rw [whole_cut ds lo hi hw]; exact rs
    · have x2 := Ext.new (g := g) (o := .tup (cutV xs lo hi)) s.sub hq
      exact PostG.ret x2 p (.tup (SqT.of upd_same) ((reps_cut rs lo hi).mono (x2.le s.sub)))
  | str z =>
    dsimp only [slD] at p
    by_cases hz : z.length ≤ big
    · rw [if_pos hz] at p
      exact .inr (.inr ⟨z, rfl, Nat.le_trans hz big_le, PostG.here s.sub p (.str _)⟩)
    · rw [if_neg hz] at p; exact p.elim
  | _ => exact p.elim
theorem ve_slice {e : Expr} {lo hi : Option Expr} {p2 pos : Pos} {f : Env → Res Dat} {l u : Env → Res (Option Int)} (he : VE X g W e f) (hl : VO X g W lo l) (hu : VO X g W hi u) : VE X g W (.Subscript e (.Slice lo hi none p2) pos) (eSl f l u) :=
  PE.imp (pe_slice sl_all he hl hu) fun σ H Q ⟨ρ, F, s, p⟩ => ⟨ρ, F, s, (PostG.bind s p).imp fun x H1 ⟨F1, a, s1, ra, x1, p1⟩ => ⟨ρ, F1, s1, (PostG.bind s1 p1).imp fun lo H2 ⟨F2, b, s2, rb, x2, p2⟩ => ⟨ρ, F2, s2, (PostG.bind s2 p2).imp fun hi H3 ⟨F3, c, s3, rc, x3, p3⟩ => by
    subst rb rc
    exact sld_ok s3 (ra.mono (Same.trans (x2.le s1.sub) (x3.le s2.sub))) p3⟩⟩⟩
end

/-! ### is None -/
def isND : Dat → Res Dat
  | .non => .ok (.bl true)
  | _ => .ok (.bl false)
def notND : Dat → Res Dat
  | .non => .ok (.bl false)
  | _ => .ok (.bl true)
section
variable {X : Cx} {g : Glob} {W : WX}
theorem ve_isN {a : Expr} {j} {pos pos' : Pos} {f : Env → Res Dat} (ha : VE X g W a f) : VE X g W (.Compare a [.Is] [.Constant .none j pos'] pos) (eUn isND f) :=
  PE.imp (pe_cmp (pc_isN ha)) fun σ H Q ⟨ρ, F, s, p⟩ => ⟨ρ, F, s, (PostG.bind s p).imp fun x H1 ⟨F1, a, s1, ra, x1, p1⟩ => by
    cases ra <;> exact PostG.here s1.sub p1 (.bl _)⟩
theorem ve_notN {a : Expr} {j} {pos pos' : Pos} {f : Env → Res Dat} (ha : VE X g W a f) : VE X g W (.Compare a [.IsNot] [.Constant .none j pos'] pos) (eUn notND f) :=
  PE.imp (pe_cmp (pc_notN ha)) fun σ H Q ⟨ρ, F, s, p⟩ => ⟨ρ, F, s, (PostG.bind s p).imp fun x H1 ⟨F1, a, s1, ra, x1, p1⟩ => by
    cases ra <;> exact PostG.here s1.sub p1 (.bl _)⟩
end

/-! ### in, not in -/
/-- x in the items ds, all plain data -/
def inL (d : Dat) (ds : List Dat) : Option Bool := match toPy d, toPys ds with
  | some x, some xs => if SeqAt.shaped x && SeqAt.shaped (.list xs) then some (xs.any fun z => PyData.eqv z x) else none
  | _, _ => none
def flatD : Dat → Bool
  | .non => true
  | .bl _ => true
  | .int _ => true
  | .str _ => true
  | _ => false
def vOf : Dat → V
  | .bl b => .bl b
  | .int i => .int i
  | .str x => .str x
  | _ => .non
def inB : Dat → Dat → Option Bool
  | d, .lst ds => inL d ds
  | d, .tup ds => if flatD d && ds.all flatD then some (inV (vOf d) (ds.map vOf)) else none
  | .str x, .str z => match x.cps.toList with
    | [c] => some (decide (c ∈ z.cps.toList))
    | _ => none
  | d, .dct kvs => match keyOf d with
    | some k => some (dLook kvs k).isSome
    | none => none
  | _, _ => none
def inD (a b : Dat) : Res Dat := match inB a b with
  | some c => .ok (.bl c)
  | none => .stuck
def notInD (a b : Dat) : Res Dat := match inB a b with
  | some c => .ok (.bl (!c))
  | none => .stuck
section
variable {K : PySem.W.Frag} {g : Glob} {F H : Hp}
theorem rep_flat {v : V} {d : Dat} (r : Rep K g F v d) (h : flatD d = true) : v = vOf d ∧ flatV v = true := by
  cases r with
  | non => exact ⟨rfl, rfl⟩
  | bl b => exact ⟨rfl, rfl⟩
  | int b => exact ⟨rfl, rfl⟩
  | str b => exact ⟨rfl, rfl⟩
  | _ => exact absurd h (by simp [flatD])
theorem reps_flat {vs : List V} {ds : List Dat} (r : Reps K g F vs ds) (h : ds.all flatD = true) : vs = ds.map vOf ∧ vs.all flatV = true := by
  induction vs generalizing ds with
  | nil => cases r; exact ⟨rfl, rfl⟩
  | cons v vs ih =>
    cases r with
    | cons a b =>
      rw [List.all_cons, Bool.and_eq_true] at h
      obtain ⟨e1, f1⟩ := rep_flat a h.1
      obtain ⟨e2, f2⟩ := ih b h.2
      refine ⟨by rw [List.map_cons, ← e1, ← e2], ?_⟩
      rw [List.all_cons, f1, f2]; rfl
end
section
variable {X : Cx} {g : Glob} {W : WX}
def rInA (K : PySem.W.Frag) : R2 := fun x y H Q => rInD K x y H Q ∨ rIn K false x y H Q ∨ (∃ (c : Nat) (z : Str), x = .str ⟨#[c]⟩ ∧ y = .str z ∧ Q (.bl (decide (c ∈ z.cps.toList))) H) ∨ (∃ a o, y = .ref a ∧ DGet H a x o ∧ Q (.bl o.isSome) H)
def rNotInA (K : PySem.W.Frag) : R2 := fun x y H Q => rNotInD K x y H Q ∨ rIn K true x y H Q ∨ (∃ (c : Nat) (z : Str), x = .str ⟨#[c]⟩ ∧ y = .str z ∧ Q (.bl (!decide (c ∈ z.cps.toList))) H) ∨ (∃ a o, y = .ref a ∧ DGet H a x o ∧ Q (.bl (!o.isSome)) H)
theorem op_inDk (hu : X.A.units + 1 < cLine) : OpR X (compareOp .In) (fun x y H Q => ∃ a o, y = .ref a ∧ DGet H a x o ∧ Q (.bl o.isSome) H) := by
  intro pins s σ H x y v u Q I rx ry h
  obtain ⟨a, o, rfl, gt, q⟩ := h
  cases ry
  exact d_in hu I gt rx fun s3 I3 => ⟨.bl o.isSome, H, I3, rfl, q⟩
theorem op_notInDk (hu : X.A.units + 1 < cLine) : OpR X (compareOp .NotIn) (fun x y H Q => ∃ a o, y = .ref a ∧ DGet H a x o ∧ Q (.bl (!o.isSome)) H) := by
  intro pins s σ H x y v u Q I rx ry h
  obtain ⟨a, o, rfl, gt, q⟩ := h
  cases ry
  exact d_notIn hu I gt rx fun s3 I3 => ⟨.bl (!o.isSome), H, I3, rfl, q⟩
theorem op_inA {k : Nat} (hr : Room k X.A) : OpR X (compareOp .In) (rInA X.K) := (op_inD (by have := hr.un; omega)).or (op_in_seq.or (op_in_sign.or (op_inDk (hu_of hr))))
theorem op_notInA {k : Nat} (hr : Room k X.A) : OpR X (compareOp .NotIn) (rNotInA X.K) := (op_notInD (by have := hr.un; omega)).or (op_notIn_seq.or (op_notIn_sign.or (op_notInDk (hu_of hr))))
theorem inL_of {d : Dat} {ds : List Dat} {c : Bool} (h : inL d ds = some c) : ∃ x xs, toPy d = some x ∧ toPys ds = some xs ∧ SeqAt.shaped x = true ∧ SeqAt.shaped (.list xs) = true ∧ c = xs.any fun z => PyData.eqv z x := by
  unfold inL at h
  cases h1 : toPy d with
  | none => rw [h1] at h; simp at h
  | some x =>
    cases h2 : toPys ds with
    | none => rw [h1, h2] at h; simp at h
    | some y =>
      rw [h1, h2] at h
      by_cases q : (SeqAt.shaped x && SeqAt.shaped (.list y)) = true
      · simp only [q, if_true] at h
        have q' := Bool.and_eq_true_iff.mp q
        exact ⟨x, y, rfl, rfl, q'.1, q'.2, (Option.some.inj h).symm⟩
      · simp [q] at h
theorem in_cases {F H : Hp} {σ : St} {ρ : Env} {x y : V} {a b : Dat} {c : Bool} (s : Stt X.K g F H σ ρ) (ra : Rep X.K g F x a) (rb : Rep X.K g F y b) (h : inB a b = some c) :
    (∃ d ds, Dp X.K H x d ∧ Dp X.K H y (.list ds) ∧ SeqAt.shaped d = true ∧ SeqAt.shaped (.list ds) = true ∧ c = ds.any fun z => PyData.eqv z d) ∨
    (∃ p xs, y = .ref p ∧ (SqL X.K H p xs ∨ SqT X.K H p xs) ∧ flatV x = true ∧ xs.all flatV = true ∧ c = inV x xs) ∨
    (∃ (k : Nat) (z : Str), x = .str ⟨#[k]⟩ ∧ y = .str z ∧ c = decide (k ∈ z.cps.toList)) ∨ (∃ p o, y = .ref p ∧ DGet H p x o ∧ c = o.isSome) := by
  cases rb with
  | lst hb rs =>
    rename_i bb ys es
    have h' : inL a es = some c := by cases a <;> exact h
    obtain ⟨u, us, h1, h2, h3, h4, h5⟩ := inL_of h'
    refine .inl ⟨u, us, rep_dp s.sub ra u h1, ?_, h3, h4, h5⟩
    refine rep_dp s.sub (.lst hb rs) _ ?_
    unfold toPy; rw [h2]; rfl
  | tup hb rs =>
    rename_i bb ys es
    have h' : (if (flatD a && es.all flatD) = true then some (inV (vOf a) (es.map vOf)) else none) = some c := by cases a <;> exact h
    by_cases q : (flatD a && es.all flatD) = true
    · rw [if_pos q] at h'
      have q' := Bool.and_eq_true_iff.mp q
      obtain ⟨e1, f1⟩ := rep_flat ra q'.1
      obtain ⟨e2, f2⟩ := reps_flat rs q'.2
      refine .inr (.inl ⟨bb, ys, rfl, .inr (sqT_mono s.sub hb), f1, f2, ?_⟩)
      rw [e1, e2]; exact (Option.some.inj h').symm
    · rw [if_neg q] at h'; cases h'
  | str z =>
    cases ra with
    | str w =>
      dsimp only [inB] at h
      cases e : w.cps.toList with
      | nil => rw [e] at h; cases h
      | cons k r =>
        cases r with
        | nil =>
          rw [e] at h
          have ew : w = ⟨#[k]⟩ := by
            cases w with
            | mk cps =>
              have e' : cps.toList = [k] := e
              congr 1
              apply Array.toList_inj.mp
              rw [e']
          subst ew
          exact .inr (.inr (.inl ⟨k, z, rfl, rfl, (Option.some.inj h).symm⟩))
        | cons _ _ => rw [e] at h; cases h
    | _ => cases h
  | dct hb hk rs =>
    rename_i bb od kvs es
    have h' : (match keyOf a with | some k => some (dLook es k).isSome | none => none) = some c := by cases a <;> exact h
    cases e : keyOf a with
    | none => rw [e] at h'; cases h'
    | some k =>
      rw [e] at h'
      have hx := rep_key ra e
      subst hx
      refine .inr (.inr (.inr ⟨bb, valV kvs k, rfl, .inl ⟨kvs, k, .inr ⟨_, s.sub _ _ hb⟩, rfl, rfl⟩, ?_⟩))
      have h'' := (Option.some.inj h').symm
      rcases look_rep k hk rs with ⟨h1, h2⟩ | ⟨d, v, h1, h2, h3⟩
      · rw [h1] at h''; rw [h2]; exact h''
      · rw [h1] at h''; rw [h2]; exact h''
  | _ => cases a <;> cases h
theorem opd_in : OpD X g W inD (rInA X.K) := by
  intro F H σ ρ x y a b Q s ra rb p
  unfold inD at p
  cases e : inB a b with
  | none => rw [e] at p; exact p.elim
  | some c =>
    rw [e] at p
    have q := PostG.here s.sub p (.bl c)
    rcases in_cases s ra rb e with ⟨d, ds, h1, h2, h3, h4, rfl⟩ | ⟨pp, xs, h1, h2, h3, h4, rfl⟩ | ⟨k, z, h1, h2, rfl⟩ | ⟨pp, o, h1, h2, rfl⟩
    · exact .inl ⟨d, ds, h1, h2, h3, h4, q⟩
    · exact .inr (.inl ⟨pp, xs, h1, h2, h3, h4, q⟩)
    · exact .inr (.inr (.inl ⟨k, z, h1, h2, q⟩))
    · exact .inr (.inr (.inr ⟨pp, o, h1, h2, q⟩))
theorem opd_notIn : OpD X g W notInD (rNotInA X.K) := by
  intro F H σ ρ x y a b Q s ra rb p
  unfold notInD at p
  cases e : inB a b with
  | none => rw [e] at p; exact p.elim
  | some c =>
    rw [e] at p
    have q := PostG.here s.sub p (.bl (!c))
    rcases in_cases s ra rb e with ⟨d, ds, h1, h2, h3, h4, rfl⟩ | ⟨pp, xs, h1, h2, h3, h4, rfl⟩ | ⟨k, z, h1, h2, rfl⟩ | ⟨pp, o, h1, h2, rfl⟩
    · exact .inl ⟨d, ds, h1, h2, h3, h4, q⟩
    · exact .inr (.inl ⟨pp, xs, h1, h2, h3, h4, q⟩)
    · exact .inr (.inr (.inl ⟨k, z, h1, h2, q⟩))
    · exact .inr (.inr (.inr ⟨pp, o, h1, h2, q⟩))
theorem ve_in {k : Nat} {a b : Expr} {pos : Pos} {f h : Env → Res Dat} (hr : Room k X.A) (ha : VE X g W a f) (hb : VE X g W b h) (hm : behindInMarks .In b = false := by rfl) : VE X g W (.Compare a [.In] [b] pos) (eBin inD f h) := ve_cmp (op_inA hr) opd_in ha hb hm
theorem ve_notIn {k : Nat} {a b : Expr} {pos : Pos} {f h : Env → Res Dat} (hr : Room k X.A) (ha : VE X g W a f) (hb : VE X g W b h) (hm : behindInMarks .NotIn b = false := by rfl) : VE X g W (.Compare a [.NotIn] [b] pos) (eBin notInD f h) := ve_cmp (op_notInA hr) opd_notIn ha hb hm
end
end VL

/-! VL4: builtins, calls of the program's own defs, what is walked, comprehensions. -/
namespace VL
open PySem PySem.Spec PyProof.Rows L2

def eCall (m : List Dat → Res Dat) (f : Env → Res (List Dat)) : Env → Res Dat := fun ρ => (f ρ).bind m
def CallD (X : Cx) (g : Glob) (W : WX) (m : List Dat → Res Dat) (r : List V → Hp → VK → Prop) : Prop := ∀ {F H : Hp} {σ : St} {ρ : Env} {xs : List V} {ds : List Dat} {Q : VK}, Stt X.K g F H σ ρ → Reps X.K g F xs ds → PostG g (Rep X.K g) W σ F H (m ds) Q → r xs H Q
section
variable {X : Cx} {g : Glob} {W : WX}
theorem ve_callB {id : String} {x : Str} {e : Expr} {es : List Expr} {p pos : Pos} {r : List V → Hp → VK → Prop} {m : List Dat → Res Dat} {f : Env → Res (List Dat)} (hc : CallR X (.builtin id) r) (hd : CallD X g W m r) (hm : X.mg x = none) (hv : bootBuiltins x = some (.builtin id)) (ha : VA X g W (e :: es) f)
    (hg : Gl X x := by rfl) (hn : x ≠ "__name__" := by decide) (hdb : (x == ("__debug__" : Str)) = false := by decide) (he : starEach (e :: es) X.env = (false, eval e X.env) :: starEach es X.env := by rfl) (hpl : (backTo pos (starEach es X.env)).any (·.1) = false := by rfl) : VE X g W (.Call (.Name x p) (e :: es) [] pos) (eCall m f) :=
  PE.imp (pe_callB hc hg hm hv ha hn hdb he hpl) fun σ H Q ⟨ρ, F, s, p⟩ => ⟨ρ, F, s, (PostG.bind s p).imp fun xs H1 ⟨F1, ds, s1, rs, x1, p1⟩ => hd s1 rs p1⟩
theorem ve_callTy {T : String} {x : Str} {e : Expr} {es : List Expr} {p pos : Pos} {r : List V → Hp → VK → Prop} {m : List Dat → Res Dat} {f : Env → Res (List Dat)} (hc : CallR X (.type T) r) (hd : CallD X g W m r) (hm : X.mg x = none) (hv : bootBuiltins x = some (.type T)) (ha : VA X g W (e :: es) f)
    (hg : Gl X x := by rfl) (hn : x ≠ "__name__" := by decide) (hdb : (x == ("__debug__" : Str)) = false := by decide) (he : starEach (e :: es) X.env = (false, eval e X.env) :: starEach es X.env := by rfl) (hpl : (backTo pos (starEach es X.env)).any (·.1) = false := by rfl) : VE X g W (.Call (.Name x p) (e :: es) [] pos) (eCall m f) :=
  PE.imp (pe_callTy hc hg hm hv ha hn hdb he hpl) fun σ H Q ⟨ρ, F, s, p⟩ => ⟨ρ, F, s, (PostG.bind s p).imp fun xs H1 ⟨F1, ds, s1, rs, x1, p1⟩ => hd s1 rs p1⟩
end

/-! ### isinstance, len -/
def tname : Dat → Option String
  | .non => some "NoneType"
  | .bl _ => some "bool"
  | .int _ => some "int"
  | .str _ => some "str"
  | .lst _ => some "list"
  | .tup _ => some "tuple"
  | .dct _ => some "dict"
  | _ => none
def kinds : List String := ["int", "bool", "str", "list", "tuple", "dict"]
def isK (t c : String) : Bool := decide (t = c) || (decide (t = "bool") && decide (c = "int"))
def isiD : List Dat → Res Dat
  | [d, .ty c] => match tname d with
    | some t => if c ∈ kinds then .ok (.bl (isK t c)) else .stuck
    | none => .stuck
  | _ => .stuck
theorem kit_kinds : ∀ c ∈ kinds, ∀ t ∈ ["NoneType", "bool", "int", "str", "list", "tuple", "dict"], kitB t c = some (isK t c) := by decide +kernel
theorem tname_mem {d : Dat} {t : String} (h : tname d = some t) : t ∈ ["NoneType", "bool", "int", "str", "list", "tuple", "dict"] := by
  cases d <;> simp [tname] at h <;> subst h <;> decide
theorem tyX_of {K : PySem.W.Frag} {g : Glob} {F H : Hp} {v : V} {d : Dat} {t : String} (s : Same F H) (r : Rep K g F v d) (h : tname d = some t) : TyX K H v (.type t) := by
  cases r with
  | non => cases h; exact .base .non
  | bl b => cases h; exact .base (.bl b)
  | int b => cases h; exact .base (.int b)
  | str b => cases h; exact .base (.str b)
  | lst ha _ => cases h; exact .base (.lst (s _ _ ha))
  | tup ha _ =>
    cases h
    rcases ha with (ha | ⟨o, ha⟩) | ⟨o, its, n, h1, h2, _⟩
    · exact .base (.tup (s _ _ ha))
    · exact .fTuple (s _ _ ha)
    · exact .kTuple h1 h2
  | dct ha _ _ =>
    cases h
    exact .fDict (s _ _ ha)
  | _ => cases h
def lenD : List Dat → Res Dat
  | [.str z] => if z.length ≤ big then .ok (.int z.length) else .stuck
  | [.lst xs] => .ok (.int xs.length)
  | [.rls xs] => .ok (.int xs.length)
  | [.tup xs] => .ok (.int xs.length)
  | _ => .stuck
section
variable {X : Cx} {g : Glob} {W : WX}
theorem cd_isi : CallD X g W isiD (rIsi X.K) := by
  intro F H σ ρ xs ds Q s rs p
  unfold isiD at p
  split at p
  · rename_i d c
    cases rs with
    | cons ra rb =>
      cases rb with
      | cons rc rd =>
        cases rd
        cases rc
        cases e : tname d with
        | none => rw [e] at p; exact p.elim
        | some t =>
          rw [e] at p
          by_cases hc : c ∈ kinds
          · simp only [if_pos hc] at p
            exact ⟨_, .ty c, .type t, .type c, _, rfl, .ty c, tyX_of s.sub ra e, kit_ty (kit_kinds c hc t (tname_mem e)), PostG.here s.sub p (.bl _)⟩
          · simp only [if_neg hc] at p; exact p.elim
  · exact p.elim
theorem cd_len : CallD X g W lenD (fun xs H Q => ∃ x n, xs = [x] ∧ LenV X.K x H n ∧ Q (.int n) H) := by
  intro F H σ ρ xs ds Q s rs p
  cases rs with
  | nil => exact p.elim
  | cons ra rb =>
    cases rb with
    | cons _ _ =>
      cases ra <;> exact p.elim
    | nil =>
      cases ra with
      | str z =>
        dsimp only [lenD] at p
        by_cases hz : z.length ≤ big
        · rw [if_pos hz] at p
          exact ⟨_, z.length, rfl, ⟨Nat.le_trans hz big_le, rfl⟩, PostG.here s.sub p (.int _)⟩
        · rw [if_neg hz] at p; exact p.elim
      | lst ha r => exact ⟨_, _, rfl, .inl ⟨_, SqL.of (s.sub _ _ ha), rfl⟩, by rw [r.length]; exact PostG.here s.sub p (.int _)⟩
      | rls ha r => exact ⟨_, _, rfl, .inl ⟨_, s.sub.seq ha, rfl⟩, by rw [r.length]; exact PostG.here s.sub p (.int _)⟩
      | tup ha r => exact ⟨_, _, rfl, .inr ⟨_, sqT_mono s.sub ha, rfl⟩, by rw [r.length]; exact PostG.here s.sub p (.int _)⟩
      | _ => exact p.elim
end

/-! ### min, max, sum, all, any, int, str, tuple, list -/
def minD : List Dat → Res Dat
  | [.int i, .int j] => .ok (.int (if j < i then j else i))
  | _ => .stuck
def maxD : List Dat → Res Dat
  | [.int i, .int j] => .ok (.int (if j > i then j else i))
  | _ => .stuck
def intsD : List Dat → Option (List Int)
  | [] => some []
  | .int i :: r => (intsD r).map (i :: ·)
  | _ => none
def boolsD : List Dat → Option (List Bool)
  | [] => some []
  | .bl i :: r => (boolsD r).map (i :: ·)
  | _ => none
def strsD : List Dat → Option (List Str)
  | [] => some []
  | .str i :: r => (strsD r).map (i :: ·)
  | _ => none
section
variable {K : PySem.W.Frag} {g : Glob} {F : Hp}
theorem reps_ints : ∀ {vs : List V} {ds : List Dat} {ns : List Int}, Reps K g F vs ds → intsD ds = some ns → vs = ns.map V.int := by
  intro vs
  induction vs with
  | nil => intro ds ns r h; cases r; cases h; rfl
  | cons v vs ih =>
    intro ds ns r h
    cases r with
    | @cons _ _ d ds a b =>
      cases a with
      | int i =>
        simp only [intsD] at h
        cases e : intsD ds with
        | none => rw [e] at h; cases h
        | some ms => rw [e] at h; cases h; rw [List.map_cons, ← ih b e]
      | _ => cases h
theorem reps_bools : ∀ {vs : List V} {ds : List Dat} {ns : List Bool}, Reps K g F vs ds → boolsD ds = some ns → vs = ns.map V.bl := by
  intro vs
  induction vs with
  | nil => intro ds ns r h; cases r; cases h; rfl
  | cons v vs ih =>
    intro ds ns r h
    cases r with
    | @cons _ _ d ds a b =>
      cases a with
      | bl i =>
        simp only [boolsD] at h
        cases e : boolsD ds with
        | none => rw [e] at h; cases h
        | some ms => rw [e] at h; cases h; rw [List.map_cons, ← ih b e]
      | _ => cases h
theorem reps_strs : ∀ {vs : List V} {ds : List Dat} {ns : List Str}, Reps K g F vs ds → strsD ds = some ns → vs = ns.map V.str := by
  intro vs
  induction vs with
  | nil => intro ds ns r h; cases r; cases h; rfl
  | cons v vs ih =>
    intro ds ns r h
    cases r with
    | @cons _ _ d ds a b =>
      cases a with
      | str i =>
        simp only [strsD] at h
        cases e : strsD ds with
        | none => rw [e] at h; cases h
        | some ms => rw [e] at h; cases h; rw [List.map_cons, ← ih b e]
      | _ => cases h
end
def sumD : List Dat → Res Dat
  | [.lst xs] => match intsD xs with
    | some ns => .ok (.int ns.sum)
    | none => .stuck
  | _ => .stuck
def allD : List Dat → Res Dat
  | [.lst xs] => match boolsD xs with
    | some bs => .ok (.bl (bs.all id))
    | none => .stuck
  | _ => .stuck
def anyD : List Dat → Res Dat
  | [.lst xs] => match boolsD xs with
    | some bs => .ok (.bl (bs.any id))
    | none => .stuck
  | _ => .stuck
def intD : List Dat → Res Dat
  | [.int i] => .ok (.int i)
  | [.bl k] => .ok (.int (if k then 1 else 0))
  | _ => .stuck
def strD : List Dat → Res Dat
  | [.int i] => if i.natAbs < 2 ^ 64 then .ok (.str (toString i)) else .stuck
  | _ => .stuck
def tupleD : List Dat → Res Dat
  | [.lst xs] => .ok (.tup xs)
  | [.tup xs] => .ok (.tup xs)
  | _ => .stuck
def listD : List Dat → Res Dat
  | [.lst xs] => .ok (.lst xs)
  | [.tup xs] => .ok (.lst xs)
  | _ => .stuck
section
variable {X : Cx} {g : Glob} {W : WX}
theorem cd_min : CallD X g W minD (fun xs H Q => ∃ i j, xs = [.int i, .int j] ∧ Q (.int (if j < i then j else i)) H) := by
  intro F H σ ρ xs ds Q s rs p
  unfold minD at p
  split at p
  · cases rs with
    | cons ra rb =>
      cases rb with
      | cons rc rd =>
        cases rd
        cases rc
        cases ra
        exact ⟨_, _, rfl, PostG.here s.sub p (.int _)⟩
  · exact p.elim
theorem cd_max : CallD X g W maxD (fun xs H Q => ∃ i j, xs = [.int i, .int j] ∧ Q (.int (if j > i then j else i)) H) := by
  intro F H σ ρ xs ds Q s rs p
  unfold maxD at p
  split at p
  · cases rs with
    | cons ra rb =>
      cases rb with
      | cons rc rd =>
        cases rd
        cases rc
        cases ra
        exact ⟨_, _, rfl, PostG.here s.sub p (.int _)⟩
  · exact p.elim
theorem cd_sum : CallD X g W sumD (rSum X.K) := by
  intro F H σ ρ xs ds Q s rs p
  unfold sumD at p
  split at p
  · rename_i ys
    cases rs with
    | cons ra rb =>
      cases rb
      cases ra with
      | lst ha r =>
        cases e : intsD ys with
        | none => rw [e] at p; exact p.elim
        | some ns =>
          rw [e] at p
          have e2 := reps_ints r e
          subst e2
          exact ⟨_, ns, rfl, SqL.of (s.sub _ _ ha), PostG.here s.sub p (.int _)⟩
  · exact p.elim
theorem cd_all : CallD X g W allD (rAll X.K) := by
  intro F H σ ρ xs ds Q s rs p
  unfold allD at p
  split at p
  · rename_i ys
    cases rs with
    | cons ra rb =>
      cases rb
      cases ra with
      | lst ha r =>
        cases e : boolsD ys with
        | none => rw [e] at p; exact p.elim
        | some ns =>
          rw [e] at p
          have e2 := reps_bools r e
          subst e2
          exact ⟨_, ns, rfl, SqL.of (s.sub _ _ ha), PostG.here s.sub p (.bl _)⟩
  · exact p.elim
theorem cd_any : CallD X g W anyD (rAny X.K) := by
  intro F H σ ρ xs ds Q s rs p
  unfold anyD at p
  split at p
  · rename_i ys
    cases rs with
    | cons ra rb =>
      cases rb
      cases ra with
      | lst ha r =>
        cases e : boolsD ys with
        | none => rw [e] at p; exact p.elim
        | some ns =>
          rw [e] at p
          have e2 := reps_bools r e
          subst e2
          exact ⟨_, ns, rfl, SqL.of (s.sub _ _ ha), PostG.here s.sub p (.bl _)⟩
  · exact p.elim
theorem cd_int : CallD X g W intD (fun xs H Q => (∃ i, xs = [.int i] ∧ Q (.int i) H) ∨ ∃ k, xs = [.bl k] ∧ Q (.int (if k then 1 else 0)) H) := by
  intro F H σ ρ xs ds Q s rs p
  unfold intD at p
  split at p
  · cases rs with
    | cons ra rb => cases rb; cases ra; exact .inl ⟨_, rfl, PostG.here s.sub p (.int _)⟩
  · cases rs with
    | cons ra rb => cases rb; cases ra; exact .inr ⟨_, rfl, PostG.here s.sub p (.int _)⟩
  · exact p.elim
theorem cd_str : CallD X g W strD (fun xs H Q => ∃ i, xs = [.int i] ∧ i.natAbs.log2 < 1920 ∧ Q (.str (toString i)) H) := by
  intro F H σ ρ xs ds Q s rs p
  unfold strD at p
  split at p
  · rename_i i
    cases rs with
    | cons ra rb =>
      cases rb
      cases ra
      by_cases h : i.natAbs < 2 ^ 64
      · rw [if_pos h] at p
        exact ⟨i, rfl, Nat.lt_of_lt_of_le (PySem.Flt.log2_lt_of (by decide : 0 < 64) h) (by decide), PostG.here s.sub p (.str _)⟩
      · rw [if_neg h] at p; exact p.elim
  · exact p.elim
theorem cd_tuple : CallD X g W tupleD (fun xs H Q => ∃ p ys, xs = [.ref p] ∧ ((SqL X.K H p ys ∧ ∀ l, H l = none → Q (.ref l) (upd H l (.tup ys))) ∨ (SqT X.K H p ys ∧ Q (.ref p) H))) := by
  intro F H σ ρ xs ds Q s rs p
  unfold tupleD at p
  split at p
  · cases rs with
    | cons ra rb =>
      cases rb
      cases ra with
      | @lst a zs _ ha r =>
        refine ⟨_, zs, rfl, .inl ⟨SqL.of (s.sub _ _ ha), fun l hl => ?_⟩⟩
        have x2 := Ext.new (g := g) (o := .tup zs) s.sub hl
        exact PostG.ret x2 p (.tup (SqT.of upd_same) (r.mono (x2.le s.sub)))
  · cases rs with
    | cons ra rb =>
      cases rb
      cases ra with
      | @tup a zs _ ha r => exact ⟨_, zs, rfl, .inr ⟨sqT_mono s.sub ha, PostG.here s.sub p (.tup ha r)⟩⟩
  · exact p.elim
theorem cd_list : CallD X g W listD (fun xs H Q => ∃ p ys, xs = [.ref p] ∧ (SqL X.K H p ys ∨ SqT X.K H p ys) ∧ ∀ l, H l = none → Q (.ref l) (upd H l (.lst ys))) := by
  intro F H σ ρ xs ds Q s rs p
  unfold listD at p
  split at p
  · cases rs with
    | cons ra rb =>
      cases rb
      cases ra with
      | @lst a zs _ ha r =>
        refine ⟨_, zs, rfl, .inl (SqL.of (s.sub _ _ ha)), fun l hl => ?_⟩
        have x2 := Ext.new (g := g) (o := .lst zs) s.sub hl
        exact PostG.ret x2 p (.lst upd_same (r.mono (x2.le s.sub)))
  · cases rs with
    | cons ra rb =>
      cases rb
      cases ra with
      | @tup a zs _ ha r =>
        refine ⟨_, zs, rfl, .inr (sqT_mono s.sub ha), fun l hl => ?_⟩
        have x2 := Ext.new (g := g) (o := .lst zs) s.sub hl
        exact PostG.ret x2 p (.lst upd_same (r.mono (x2.le s.sub)))
  · exact p.elim
end

/-! ### calls of the program's own defs -/
/-- a def that computes m of its arguments -/
def spV (K : PySem.W.Frag) (g : Glob) (m : List Dat → Res Dat) : Sp := fun vs H Q E => ∃ F ds, Same F H ∧ LamX.Tabs g.tabs H ∧ (∀ a ps, F a ≠ some (.tbl ps)) ∧ Reps K g F vs ds ∧ PostG g (Rep K g) (fun cls d _ H' => E cls d H') [] F H (m ds) Q
structure VFn (P : Program) (w : World) (K : PySem.W.Frag) (mg : Str → Option Value) (base : Heap) (g : Glob) (k : Nat) (x : Str) (m : List Dat → Res Dat) : Prop where
  ex : ∃ f fd ps, mg x = some (.ref f) ∧ PySem.W.keepIn K (.ref f) = true ∧ Binds K fd ps [] ∧ FnOk P w K mg base (L2N.CX P w) k f fd ps (spV K g m)
section
variable {X : Cx} {g : Glob} {W : WX}
theorem ve_call {k j : Nat} {x : Str} {e : Expr} {es : List Expr} {p pos : Pos} {m : List Dat → Res Dat} {f : Env → Res (List Dat)} (F : VFn X.prog X.w X.K X.mg X.base g k x m) (hr : Room j X.A) (hk : k ≤ j) (tk : L2N.Takes X W) (ha : VA X g W (e :: es) f)
    (hg : Gl X x := by rfl) (hdb : (x == ("__debug__" : Str)) = false := by decide) (he : starEach (e :: es) X.env = (false, eval e X.env) :: starEach es X.env := by rfl) (hpl : (backTo pos (starEach es X.env)).any (·.1) = false := by rfl) : VE X g W (.Call (.Name x p) (e :: es) [] pos) (eCall m f) := by
  obtain ⟨fa, fd, ps, h1, h2, h3, h5⟩ := F.ex
  refine PE.imp (pe_callS h5 (hr.mono hk) hg h1 h2 h3 (fun σ => L2N.passAt tk σ) ha hdb he hpl) fun σ H Q ⟨ρ, F, s, p⟩ => ⟨ρ, F, s, (PostG.bind s p).imp ?_⟩
  rintro vs H1 ⟨F1, ds, s1, rs, x1, p1⟩
  refine ⟨F1, ds, s1.sub, s1.tabs, s1.nt, rs, ?_⟩
  cases e2 : m ds with
  | stuck => rw [e2] at p1; exact p1.elim
  | exc c => rw [e2] at p1; exact p1
  | ok d => rw [e2] at p1; exact p1
end
end VL

/-! VL5: targets, what is walked, comprehensions. -/
namespace VL
open PySem PySem.Spec PyProof.Rows L2

/-! ### targets -/
inductive Pat where
  | nm (i : Nat) | tp (ps : List Pat)
mutual
def bindU : Pat → Dat → Option (List (Nat × Dat))
  | .nm i, d => some [(i, d)]
  | .tp ps, .tup ds => bindUs ps ds
  | .tp _, _ => none
def bindUs : List Pat → List Dat → Option (List (Nat × Dat))
  | [], [] => some []
  | p :: ps, d :: ds => match bindU p d, bindUs ps ds with
    | some a, some b => some (a ++ b)
    | _, _ => none
  | _, _ => none
end
theorem bindUs_len : ∀ (ps : List Pat) (ds : List Dat) (us : List (Nat × Dat)), bindUs ps ds = some us → ds.length = ps.length
  | [], [], us, h => rfl
  | [], _ :: _, us, h => by unfold bindUs at h; cases h
  | _ :: _, [], us, h => by unfold bindUs at h; cases h
  | p :: ps, d :: ds, us, h => by
    unfold bindUs at h
    cases h1 : bindU p d with
    | none => rw [h1] at h; simp at h
    | some a =>
      cases h2 : bindUs ps ds with
      | none => rw [h1, h2] at h; simp at h
      | some b => simp [bindUs_len ps ds b h2]
mutual
def patIx : Pat → List Nat
  | .nm i => [i]
  | .tp ps => patIxs ps
def patIxs : List Pat → List Nat
  | [] => []
  | p :: ps => patIx p ++ patIxs ps
end
mutual
theorem bindU_ix : ∀ (p : Pat) (d : Dat) (us : List (Nat × Dat)), bindU p d = some us → us.map Prod.fst = patIx p
  | .nm i, d, us, h => by unfold bindU at h; cases h; rfl
  | .tp ps, .tup ds, us, h => by unfold bindU at h; unfold patIx; exact bindUs_ix ps ds us h
  | .tp ps, .non, us, h => by unfold bindU at h; cases h
  | .tp ps, .bl _, us, h => by unfold bindU at h; cases h
  | .tp ps, .int _, us, h => by unfold bindU at h; cases h
  | .tp ps, .str _, us, h => by unfold bindU at h; cases h
  | .tp ps, .lst _, us, h => by unfold bindU at h; cases h
  | .tp ps, .rls _, us, h => by unfold bindU at h; cases h
  | .tp ps, .dct _, us, h => by unfold bindU at h; cases h
  | .tp ps, .ins _ _, us, h => by unfold bindU at h; cases h
  | .tp ps, .ty _, us, h => by unfold bindU at h; cases h
  | .tp ps, .opq _, us, h => by unfold bindU at h; cases h
theorem bindUs_ix : ∀ (ps : List Pat) (ds : List Dat) (us : List (Nat × Dat)), bindUs ps ds = some us → us.map Prod.fst = patIxs ps
  | [], [], us, h => by unfold bindUs at h; cases h; rfl
  | [], _ :: _, us, h => by unfold bindUs at h; cases h
  | _ :: _, [], us, h => by unfold bindUs at h; cases h
  | p :: ps, d :: ds, us, h => by
    unfold bindUs at h
    cases h1 : bindU p d with
    | none => rw [h1] at h; simp at h
    | some a =>
      cases h2 : bindUs ps ds with
      | none => rw [h1, h2] at h; simp at h
      | some b =>
        rw [h1, h2] at h
        cases h
        unfold patIxs
        rw [List.map_append, bindU_ix p d a h1, bindUs_ix ps ds b h2]
end
def setV (σ : St) : List (Nat × V) → St
  | [] => σ
  | (i, v) :: r => setV (σ.set i (some v)) r
def setE (ρ : Env) : List (Nat × Dat) → Env
  | [] => ρ
  | (i, d) :: r => setE (ρ.set i (some d)) r
theorem setV_append (σ : St) (a b : List (Nat × V)) : setV σ (a ++ b) = setV (setV σ a) b := by
  induction a generalizing σ with
  | nil => rfl
  | cons p a ih => exact ih _
theorem setV_length (σ : St) (a : List (Nat × V)) : (setV σ a).length = σ.length := by
  induction a generalizing σ with
  | nil => rfl
  | cons p a ih => show (setV (σ.set p.1 (some p.2)) a).length = _; rw [ih]; simp
theorem setE_length (ρ : Env) (a : List (Nat × Dat)) : (setE ρ a).length = ρ.length := by
  induction a generalizing ρ with
  | nil => rfl
  | cons p a ih => show (setE (ρ.set p.1 (some p.2)) a).length = _; rw [ih]; simp
section
variable {K : PySem.W.Frag} {g : Glob} {F H : Hp}
theorem renv_set {σ : St} {ρ : Env} {i : Nat} {v : V} {d : Dat} (h : REnv K g F σ ρ) (hl : ρ.length = σ.length) (r : Rep K g F v d) : REnv K g F (σ.set i (some v)) (ρ.set i (some d)) := by
  intro j e hj
  by_cases q : i = j
  · subst q
    by_cases hi : i < ρ.length
    · rw [List.getElem?_set_self hi] at hj
      cases hj
      exact ⟨v, by rw [List.getElem?_set_self (hl ▸ hi)], r⟩
    · rw [List.getElem?_eq_none (by simpa using hi)] at hj; cases hj
  · rw [List.getElem?_set_ne q] at hj ⊢
    exact h j e hj
theorem renv_sets {ws : List (Nat × V)} : ∀ {us : List (Nat × Dat)} {σ : St} {ρ : Env}, REnv K g F σ ρ → ρ.length = σ.length → ws.map Prod.fst = us.map Prod.fst → Reps K g F (ws.map Prod.snd) (us.map Prod.snd) → REnv K g F (setV σ ws) (setE ρ us) := by
  induction ws with
  | nil =>
    intro us σ ρ h hl e r
    cases us with
    | nil => exact h
    | cons _ _ => simp at e
  | cons w ws ih =>
    intro us σ ρ h hl e r
    cases us with
    | nil => simp at e
    | cons u us =>
      simp only [List.map_cons, List.cons.injEq] at e
      simp only [List.map_cons] at r
      cases r with
      | cons a b =>
        show REnv K g F (setV (σ.set w.1 (some w.2)) ws) (setE (ρ.set u.1 (some u.2)) us)
        rw [e.1]
        exact ih (renv_set h hl a) (by simp [hl]) e.2 b
end
section
variable (K : PySem.W.Frag) (g : Glob)
def gP (p : Pat) : TG := fun v σ H Q => ∃ F d us, Same F H ∧ Rep K g F v d ∧ bindU p d = some us ∧ ∀ ws : List (Nat × V), ws.map Prod.fst = us.map Prod.fst → Reps K g F (ws.map Prod.snd) (us.map Prod.snd) → Q (setV σ ws) H
def gPs (ps : List Pat) : TGs := fun vs σ H Q => ∃ F ds us, Same F H ∧ Reps K g F vs ds ∧ bindUs ps ds = some us ∧ ∀ ws : List (Nat × V), ws.map Prod.fst = us.map Prod.fst → Reps K g F (ws.map Prod.snd) (us.map Prod.snd) → Q (setV σ ws) H
end
def VG (X : Cx) (g : Glob) (tg : Expr) (p : Pat) : Prop := PG X tg (gP X.K g p)
def VGs (X : Cx) (g : Glob) (es : List Expr) (p : List Pat) : Prop := PGs X es (gPs X.K g p)
theorem PG.imp {X : Cx} {e : Expr} {t t' : TG} (h : PG X e t) (i : ∀ v σ H Q, t' v σ H Q → t v σ H Q) : PG X e t' := ⟨fun pins s σ H v u Q I r q => h.run pins s σ H v u Q I r (i v σ H Q q)⟩
theorem PGs.imp {X : Cx} {e : List Expr} {t t' : TGs} (h : PGs X e t) (i : ∀ v σ H Q, t' v σ H Q → t v σ H Q) : PGs X e t' := ⟨fun pins s σ H v u Q I r q => h.run pins s σ H v u Q I r (i v σ H Q q)⟩
section
variable {X : Cx} {g : Glob}
theorem vg_name (i : Nat) {x : Str} {pos : Pos} (hN : X.N.Nodup) (hi : X.N[i]? = some x := by rfl) (hx : Loc X.env.scope x := by first | exact Or.inl rfl | exact Or.inr rfl) (hf : X.fn x = true ∨ X.env.scope.names.lookup x = some .local := by first | exact .inl rfl | exact .inr rfl | assumption) : VG X g (.Name x pos) (.nm i) :=
  PG.imp (pg_name hN hi hx hf) fun v σ H Q ⟨F, d, us, s, r, e, q⟩ => by
    unfold bindU at e
    cases e
    exact q [(i, v)] rfl (.cons r .nil)
theorem vgs_nil : VGs X g [] [] := PGs.imp pgs_nil fun v σ H Q ⟨F, ds, us, s, r, e, q⟩ => by
  cases ds with
  | nil => cases r; unfold bindUs at e; cases e; exact ⟨rfl, q [] rfl .nil⟩
  | cons _ _ => unfold bindUs at e; cases e
theorem split_ws : ∀ {a b : List (Nat × Dat)} {wa wb : List (Nat × V)} {K : PySem.W.Frag} {F : Hp}, wa.map Prod.fst = a.map Prod.fst → wb.map Prod.fst = b.map Prod.fst → Reps K g F (wa.map Prod.snd) (a.map Prod.snd) → Reps K g F (wb.map Prod.snd) (b.map Prod.snd) →
    (wa ++ wb).map Prod.fst = (a ++ b).map Prod.fst ∧ Reps K g F ((wa ++ wb).map Prod.snd) ((a ++ b).map Prod.snd) := by
  intro a b wa wb K F h1 h2 h3 h4
  rw [List.map_append, List.map_append, List.map_append, List.map_append]
  exact ⟨by rw [h1, h2], h3.append h4⟩
theorem vgs_cons {e : Expr} {es : List Expr} {p : Pat} {ps : List Pat} (h1 : VG X g e p) (h2 : VGs X g es ps) (hs : (assignEach (e :: es) X.env).map (·.2) = assign e X.env :: (assignEach es X.env).map (·.2) := by rfl) : VGs X g (e :: es) (p :: ps) :=
  PGs.imp (pgs_cons h1 h2 hs) fun vs σ H Q ⟨F, ds, us, s, r, e, q⟩ => by
    cases ds with
    | nil => unfold bindUs at e; cases e
    | cons d ds =>
      cases r with
      | cons ra rb =>
        unfold bindUs at e
        cases e1 : bindU p d with
        | none => rw [e1] at e; simp at e
        | some a =>
          cases e2 : bindUs ps ds with
          | none => rw [e1, e2] at e; simp at e
          | some b =>
            rw [e1, e2] at e
            cases e
            refine ⟨_, _, rfl, F, d, a, s, ra, e1, fun wa k1 k2 => ⟨F, ds, b, s, rb, e2, fun wb k3 k4 => ?_⟩⟩
            obtain ⟨z1, z2⟩ := split_ws k1 k3 k2 k4
            have := q (wa ++ wb) z1 z2
            rw [setV_append] at this
            exact this
theorem vg_tup {es : List Expr} {k : Nat} {pos : Pos} {ps : List Pat} (hc : X.calm = true) (h : VGs X g es ps) (hn : (assignEach es X.env).length = ps.length := by rfl) (hst : (assignEach es X.env).findIdx? (·.1) = none := by rfl) : VG X g (.Tuple es k pos) (.tp ps) :=
  PG.imp (pg_tup hc h hn hst) fun v σ H Q ⟨F, d, us, s, r, e, q⟩ => by
    cases r with
    | @tup aa xs ds ha rs =>
      unfold bindU at e
      refine ⟨aa, xs, rfl, sqT_mono s ha, ?_, F, ds, us, s, rs, e, q⟩
      rw [rs.length]
      exact bindUs_len ps ds us e
    | _ => unfold bindU at e; cases e
end

/-! ### what is walked -/
def Iters (K : PySem.W.Frag) (g : Glob) (F1 : Hp) (J : It) (ds : List Dat) : Prop := ∀ (i : Nat) (F H : Hp), Same F1 F → Same F H →
  (∀ d, ds[i]? = some d → J.go i H ∧ ∀ x H', J.yld i H x H' → ∃ F', Ext g F H F' H' ∧ Rep K g F' x d) ∧ (ds.length ≤ i → J.stop i H)
def VI (X : Cx) (g : Glob) (W : WX) (tg iter : Expr) (f : Env → Res (List Dat)) : Prop := PI X tg iter (tG X.K g (Iters X.K g) W f)
def rangeL (a b : Int) : List Dat := (List.range (b - a).toNat).map fun i => Dat.int (a + (i : Nat))
def kD : Key → Dat
  | .inl i => .int i
  | .inr x => .str x
def seqD : Dat → Res (List Dat)
  | .lst xs => .ok xs
  | .rls xs => .ok xs
  | .tup xs => .ok xs
  | .str z => .ok (z.cps.toList.map fun c => Dat.str ⟨#[c]⟩)
  | .dct kvs => .ok (kvs.map fun kv => kD kv.1)
  | _ => .stuck
def iSeq (f : Env → Res Dat) : Env → Res (List Dat) := fun ρ => (f ρ).bind seqD
def rng1D : List Dat → Res (List Dat)
  | [.int j] => if -(2 ^ 62) ≤ j ∧ j < 2 ^ 62 then .ok (rangeL 0 j) else .stuck
  | _ => .stuck
def rng2D : List Dat → Res (List Dat)
  | [.int i, .int j] => if -(2 ^ 62) ≤ i ∧ i < 2 ^ 62 ∧ -(2 ^ 62) ≤ j ∧ j < 2 ^ 62 then .ok (rangeL i j) else .stuck
  | _ => .stuck
def iArg (k : List Dat → Res (List Dat)) (f : Env → Res (List Dat)) : Env → Res (List Dat) := fun ρ => (f ρ).bind k
def enumL : Nat → List Dat → List Dat
  | _, [] => []
  | n, d :: r => .tup [.int (n : Nat), d] :: enumL (n + 1) r
def enumD : List Dat → Res (List Dat)
  | [.lst xs] => .ok (enumL 0 xs)
  | _ => .stuck
theorem enumL_get : ∀ (xs : List Dat) (n i : Nat), (enumL n xs)[i]? = (xs[i]?).map fun d => Dat.tup [.int ((n + i : Nat) : Int), d]
  | [], n, i => by simp [enumL]
  | x :: xs, n, 0 => by simp [enumL]
  | x :: xs, n, i + 1 => by
    show (enumL (n + 1) xs)[i]? = _
    rw [enumL_get xs (n + 1) i]
    have e : n + 1 + i = n + (i + 1) := by omega
    rw [e]; rfl
theorem enumL_length : ∀ (xs : List Dat) (n : Nat), (enumL n xs).length = xs.length
  | [], _ => rfl
  | _ :: xs, n => by simp [enumL, enumL_length xs]
theorem rangeL_get (a b : Int) (i : Nat) : (rangeL a b)[i]? = if i < (b - a).toNat then some (.int (a + (i : Nat))) else none := by
  unfold rangeL
  rw [List.getElem?_map]
  by_cases h : i < (b - a).toNat
  · rw [List.getElem?_range h, if_pos h]; rfl
  · rw [List.getElem?_eq_none (by simpa using h), if_neg h]; rfl
theorem rangeL_length (a b : Int) : (rangeL a b).length = (b - a).toNat := by unfold rangeL; simp
section
variable {K : PySem.W.Frag} {g : Glob} {F : Hp}
theorem iters_list' {a : Addr} {xs : List V} {ds : List Dat} (ha : SqL K F a xs) (r : Reps K g F xs ds) : Iters K g F (Itl K a) ds := by
  intro i F' H s1 s2
  refine ⟨fun d e => ?_, fun h => ⟨xs, (s1.trans s2).seq ha, by rw [r.length]; exact h⟩⟩
  obtain ⟨v, h1, h2⟩ := r.get e
  refine ⟨⟨xs, v, (s1.trans s2).seq ha, h1⟩, fun x H' ⟨e1, e2⟩ => ?_⟩
  subst e1
  have := e2 xs ((s1.trans s2).seq ha)
  rw [h1] at this
  cases this
  exact ⟨F', Ext.refl s2, h2.mono s1⟩
theorem iters_tup {a : Addr} {xs : List V} {ds : List Dat} (ha : SqT K F a xs) (r : Reps K g F xs ds) : Iters K g F (Itt K a) ds := by
  intro i F' H s1 s2
  refine ⟨fun d e => ?_, fun h => ⟨xs, sqT_mono (s1.trans s2) ha, by rw [r.length]; exact h⟩⟩
  obtain ⟨v, h1, h2⟩ := r.get e
  refine ⟨⟨xs, v, sqT_mono (s1.trans s2) ha, h1⟩, fun x H' ⟨e1, e2⟩ => ?_⟩
  subst e1
  have := e2 xs (sqT_mono (s1.trans s2) ha)
  rw [h1] at this
  cases this
  exact ⟨F', Ext.refl s2, h2.mono s1⟩
theorem iters_str (z : Str) : Iters K g F (Its z) (z.cps.toList.map fun c => Dat.str ⟨#[c]⟩) := by
  intro i F' H s1 s2
  refine ⟨fun d e => ?_, fun h => ?_⟩
  · rw [List.getElem?_map] at e
    cases q : z.cps.toList[i]? with
    | none => rw [q] at e; cases e
    | some c =>
      rw [q] at e
      cases e
      have hi : i < z.cps.size := by
        have := (List.getElem?_eq_some_iff.mp q).1
        simpa using this
      refine ⟨hi, fun x H' ⟨e1, c', e2, e3⟩ => ?_⟩
      subst e1 e3
      have e4 : z.cps.toList[i]? = z.cps[i]? := by simp
      rw [← e4, q] at e2
      cases e2
      exact ⟨F', Ext.refl s2, .str _⟩
  · show z.cps.size ≤ i
    simpa using h
theorem iters_range (a b : Int) : Iters K g F (Itr a (b - a).toNat) (rangeL a b) := by
  intro i F' H s1 s2
  refine ⟨fun d e => ?_, fun h => ?_⟩
  · rw [rangeL_get] at e
    by_cases h : i < (b - a).toNat
    · rw [if_pos h] at e
      cases e
      refine ⟨h, fun x H' ⟨e1, e2⟩ => ?_⟩
      subst e1 e2
      exact ⟨F', Ext.refl s2, .int _⟩
    · rw [if_neg h] at e; cases e
  · rw [rangeL_length] at h; exact h
theorem iters_keys {a : Addr} {o : Obj} {kvs : List (Key × V)} {ds : List (Key × Dat)} (ha : F a = some (.frz o (.dK kvs))) (hk : kvs.map Prod.fst = ds.map Prod.fst) : Iters K g F (Itk a o kvs) (ds.map fun kv => kD kv.1) := by
  intro i F' H s1 s2
  have hH : H a = some (.frz o (.dK kvs)) := s2 _ _ (s1 _ _ ha)
  have hl : kvs.length = ds.length := by simpa using congrArg List.length hk
  have hi : ∀ j : Nat, (kvs[j]?).map Prod.fst = (ds[j]?).map Prod.fst := fun j => by rw [← List.getElem?_map, ← List.getElem?_map, hk]
  refine ⟨fun d e => ?_, fun h => ⟨hH, by simp at h; omega⟩⟩
  rw [List.getElem?_map] at e
  cases q : ds[i]? with
  | none => rw [q] at e; cases e
  | some kv =>
    rw [q] at e
    cases e
    have lt : i < ds.length := (List.getElem?_eq_some_iff.mp q).1
    refine ⟨⟨hH, by omega⟩, fun x H' ⟨e1, k, v, e2, e3⟩ => ?_⟩
    subst e1 e3
    have := hi i
    rw [e2, q] at this
    have ek : k = kv.1 := Option.some.inj this
    refine ⟨F', Ext.refl s2, ?_⟩
    subst ek
    obtain ⟨kk, vv⟩ := kv
    cases kk with
    | inl n => exact .int n
    | inr x => exact .str x
theorem iters_enum {a : Addr} {xs : List V} {ds : List Dat} (ha : SqL K F a xs) (r : Reps K g F xs ds) : Iters K g F (Ite K a) (enumL 0 ds) := by
  intro i F' H s1 s2
  refine ⟨fun d e => ?_, fun h => ⟨xs, (s1.trans s2).seq ha, by rw [r.length]; rw [enumL_length] at h; exact h⟩⟩
  rw [enumL_get] at e
  cases q : ds[i]? with
  | none => rw [q] at e; cases e
  | some d' =>
    rw [q] at e
    cases e
    obtain ⟨v, h1, h2⟩ := r.get q
    refine ⟨⟨xs, v, (s1.trans s2).seq ha, h1⟩, fun x H' ⟨T, y, e1, e2, e3, e4⟩ => ?_⟩
    subst e1 e3
    have := e4 xs ((s1.trans s2).seq ha)
    rw [h1] at this
    cases this
    have x1 := Ext.new (g := g) (o := .tup [.int (i : Nat), v]) s2 e2
    refine ⟨_, x1, .tup (SqT.of upd_same) (.cons ?_ (.cons ((h2.mono s1).mono (x1.le s2)) .nil))⟩
    rw [Nat.zero_add]
    exact .int _
end
section
variable {X : Cx} {g : Glob} {W : WX} {tg : Expr}
/-- a list, a tuple, a text, by what the value is -/
def iAny (K : PySem.W.Frag) (te : TE) : TI := fun σ H R => te σ H fun x H1 => (∃ a, x = .ref a ∧ (∃ xs, SqL K H1 a xs) ∧ R (Itl K a) H1) ∨ (∃ a, x = .ref a ∧ (∃ xs, SqT K H1 a xs) ∧ R (Itt K a) H1) ∨ (∃ z, x = .str z ∧ R (Its z) H1)
theorem pi_any {e : Expr} {te : TE} (he : PE X e te) : PI X tg e (iAny X.K te) := by
  refine ⟨fun pins s σ H R I h => ?_⟩
  refine thn (he.run pins s σ H _ I h) fun v s1 ⟨x, H1, I1, r1, q1⟩ => ?_
  rcases q1 with ⟨a, e, ⟨xs, hq⟩, q⟩ | ⟨a, e, ⟨xs, hq⟩, q⟩ | ⟨z, e, q⟩
  · subst e
    cases r1
    obtain ⟨its, rv, p, hz⟩ := I1.list hq
    refine wpAny_pyIter_list p.isList ?_
    refine ⟨s1.heap.objs.size, [s1.heap.objs.size], _, _, H1, rfl, I1.kept (t' := s1.toks) fun b o e => Heap.get?_push_of_some _ e, turn_list a _, ⟨_, Heap.get?_push_size _ rfl, rfl, rfl⟩, fun b hb => ?_, q⟩
    have e : b = s1.heap.objs.size := by simpa using hb
    subst e
    exact I1.fpOk (Nat.le_refl _) (I1.hok.fresh (Nat.le_refl _))
  · subst e
    cases r1
    obtain ⟨its, rv, p, hz⟩ := I1.tuple hq
    refine wpAny_pyIter_tuple (show s1.heap.IsTuple a its.toArray from p) ?_
    refine ⟨s1.heap.objs.size, [s1.heap.objs.size], _, _, H1, rfl, I1.kept (t' := s1.toks) fun b o e => Heap.get?_push_of_some _ e, turn_tuple a _, ⟨_, Heap.get?_push_size _ rfl, rfl, rfl⟩, fun b hb => ?_, q⟩
    have e : b = s1.heap.objs.size := by simpa using hb
    subst e
    exact I1.fpOk (Nat.le_refl _) (I1.hok.fresh (Nat.le_refl _))
  · subst e
    obtain ⟨t, rfl⟩ := r1
    cases ha : z.cps.all (· < 128)
    · exact wpAny_pyIter_wide ha (pi_one (tk := s1.toks) I1 _ (turn_str _ z t "str_iterator" (.inr rfl)) ⟨_, Heap.get?_push_size _ rfl, rfl, rfl⟩ q)
    · exact wpAny_pyIter_ascii ha (pi_one (tk := s1.toks) I1 _ (turn_str _ z t "str_ascii_iterator" (.inl rfl)) ⟨_, Heap.get?_push_size _ rfl, rfl, rfl⟩ q)
theorem PI.or {e : Expr} {t1 t2 : TI} (h1 : PI X tg e t1) (h2 : PI X tg e t2) : PI X tg e (fun σ H R => t1 σ H R ∨ t2 σ H R) := ⟨fun pins s σ H R I h => h.elim (h1.run pins s σ H R I) (h2.run pins s σ H R I)⟩
theorem vi_seq {e : Expr} {f : Env → Res Dat} (h : VE X g W e f) : VI X g W tg e (iSeq f) :=
  PI.imp (PI.or (pi_any h) (pi_keys h)) fun σ H R ⟨ρ, F, s, p⟩ => by
    cases e : f ρ with
    | stuck => unfold iSeq at p; rw [e] at p; exact p.elim
    | exc c => unfold iSeq at p; rw [e] at p; exact .inl ⟨ρ, F, s, by rw [e]; exact p⟩
    | ok d =>
      unfold iSeq at p
      rw [e] at p
      have p0 : PostG g (Iters X.K g) W σ F H (seqD d) R := p
      by_cases hd : ∃ ks, d = .dct ks
      · obtain ⟨ks, rfl⟩ := hd
        refine .inr ⟨ρ, F, s, ?_⟩
        rw [e]
        intro v H1 F1 x1 r1
        cases r1 with
        | @dct a o kvs ds ha hk rs => exact ⟨a, o, rfl, .inl ⟨kvs, x1.sub _ _ ha, PostG.ret x1 p0 (iters_keys ha hk)⟩⟩
      · refine .inl ⟨ρ, F, s, ?_⟩
        rw [e]
        intro v H1 F1 x1 r1
        have s1 := s.ext x1
        have p1 := PostG.ext x1 p0
        cases r1 with
        | lst ha rs => exact .inl ⟨_, rfl, ⟨_, SqL.of (s1.sub _ _ ha)⟩, PostG.here s1.sub p1 (iters_list' (SqL.of ha) rs)⟩
        | rls ha rs => exact .inl ⟨_, rfl, ⟨_, s1.sub.seq ha⟩, PostG.here s1.sub p1 (iters_list' ha rs)⟩
        | tup ha rs => exact .inr (.inl ⟨_, rfl, ⟨_, sqT_mono s1.sub ha⟩, PostG.here s1.sub p1 (iters_tup ha rs)⟩)
        | str z => exact .inr (.inr ⟨z, rfl, PostG.here s1.sub p1 (iters_str z)⟩)
        | dct _ _ _ => exact absurd ⟨_, rfl⟩ hd
        | _ => exact p1.elim
theorem vi_range1 {a : Expr} {p pos : Pos} {f : Env → Res (List Dat)} (hm : X.mg "range" = none) (ha : VA X g W [a] f) (hg : Gl X "range" := by rfl) (hs : starEach [a] X.env = [(false, eval a X.env)] := by rfl) : VI X g W tg (.Call (.Name "range" p) [a] [] pos) (iArg rng1D f) :=
  PI.imp (pi_range1 hg hm ha hs) fun σ H R ⟨ρ, F, s, p⟩ => ⟨ρ, F, s, (PostG.bind s p).imp fun xs H1 ⟨F1, ds, s1, rs, x1, p1⟩ => by
    unfold rng1D at p1
    split at p1
    · rename_i j
      cases rs with
      | cons ra rb =>
        cases rb
        cases ra
        by_cases h : -(2 ^ 62) ≤ j ∧ j < 2 ^ 62
        · rw [if_pos h] at p1
          refine ⟨j, rfl, h.1, h.2, PostG.here s1.sub p1 ?_⟩
          have := iters_range (K := X.K) (g := g) (F := F1) 0 j
          rw [Int.sub_zero] at this
          exact this
        · rw [if_neg h] at p1; exact p1.elim
    · exact p1.elim⟩
theorem vi_range2 {a b : Expr} {p pos : Pos} {f : Env → Res (List Dat)} (hm : X.mg "range" = none) (ha : VA X g W [a, b] f) (hg : Gl X "range" := by rfl) (hs : starEach [a, b] X.env = [(false, eval a X.env), (false, eval b X.env)] := by rfl) (hs2 : starEach [b] X.env = [(false, eval b X.env)] := by rfl) : VI X g W tg (.Call (.Name "range" p) [a, b] [] pos) (iArg rng2D f) :=
  PI.imp (pi_range2 hg hm ha hs hs2) fun σ H R ⟨ρ, F, s, p⟩ => ⟨ρ, F, s, (PostG.bind s p).imp fun xs H1 ⟨F1, ds, s1, rs, x1, p1⟩ => by
    unfold rng2D at p1
    split at p1
    · rename_i i j
      cases rs with
      | cons ra rb =>
        cases rb with
        | cons rc rd =>
          cases rd
          cases rc
          cases ra
          by_cases h : -(2 ^ 62) ≤ i ∧ i < 2 ^ 62 ∧ -(2 ^ 62) ≤ j ∧ j < 2 ^ 62
          · rw [if_pos h] at p1
            exact ⟨i, j, rfl, h, PostG.here s1.sub p1 (iters_range i j)⟩
          · rw [if_neg h] at p1; exact p1.elim
    · exact p1.elim⟩
theorem vi_enum {e : Expr} {p pos tpos : Pos} {elts : List Expr} {kk : Nat} {f : Env → Res (List Dat)} (hm : X.mg "enumerate" = none) (ha : VA X g W [e] f) (hg : Gl X "enumerate" := by rfl) (hs : starEach [e] X.env = [(false, eval e X.env)] := by rfl) : VI X g W (.Tuple elts kk tpos) (.Call (.Name "enumerate" p) [e] [] pos) (iArg enumD f) :=
  PI.imp (pi_enum hg hm ha hs) fun σ H R ⟨ρ, F, s, p⟩ => ⟨ρ, F, s, (PostG.bind s p).imp fun xs H1 ⟨F1, ds, s1, rs, x1, p1⟩ => by
    unfold enumD at p1
    split at p1
    · cases rs with
      | cons ra rb =>
        cases rb
        cases ra with
        | @lst a zs _ hz r => exact ⟨a, zs, rfl, SqL.of (s1.sub _ _ hz), PostG.here s1.sub p1 (iters_enum (SqL.of hz) r)⟩
    · exact p1.elim⟩
end

/-! ### list comprehensions -/
def wipeE (ρ : Env) : List Nat → Env
  | [] => ρ
  | v :: vs => (wipeE ρ vs).set v none
/-- nothing raised -/
def nx {α : Type} : Res α → Res α
  | .exc _ => .stuck
  | r => r
def lcD (p : Pat) (t : Env → Res Bool) (f : Env → Res Dat) (ρ : Env) : List Dat → Res (List Dat)
  | [] => .ok []
  | d :: r => match bindU p d with
    | none => .stuck
    | some us => (nx (t (setE ρ us))).bind fun b => if b = true then (nx (f (setE ρ us))).bind fun y => (lcD p t f ρ r).bind fun ys => .ok (y :: ys) else lcD p t f ρ r
def eLc (fi : Env → Res (List Dat)) (p : Pat) (t : Env → Res Bool) (f : Env → Res Dat) (vs : List Nat) : Env → Res Dat := fun ρ => (fi ρ).bind fun ds => if ds.length ≤ big then (lcD p t f (wipeE ρ vs) ds).bind fun ys => .ok (.lst ys) else .stuck
def bYes : Env → Res Bool := fun _ => .ok true
def VTs (X : Cx) (g : Glob) (W : WX) (ifs : List Expr) (f : Env → Res Bool) : Prop := PTs X ifs (tVT X.K g W f)
theorem wipe_get (σ : St) : ∀ (vs : List Nat) (j : Nat), (wipe σ vs)[j]? = if j ∈ vs ∧ j < σ.length then some none else σ[j]?
  | [], j => by simp [wipe]
  | v :: vs, j => by
    unfold wipe
    by_cases e : v = j
    · subst e
      by_cases h : v < σ.length
      · rw [List.getElem?_set_self (by rw [wipe_length]; exact h), if_pos ⟨by simp, h⟩]
      · rw [List.getElem?_eq_none (by rw [List.length_set, wipe_length]; omega), if_neg (fun q => h q.2), List.getElem?_eq_none (by omega)]
    · rw [List.getElem?_set_ne e, wipe_get σ vs j]
      by_cases h : j ∈ vs ∧ j < σ.length
      · rw [if_pos h, if_pos ⟨List.mem_cons_of_mem _ h.1, h.2⟩]
      · rw [if_neg h, if_neg]
        rintro ⟨h1, h2⟩
        rcases List.mem_cons.mp h1 with q | q
        · exact e q.symm
        · exact h ⟨q, h2⟩
theorem wipeE_length (ρ : Env) : ∀ vs : List Nat, (wipeE ρ vs).length = ρ.length
  | [] => rfl
  | v :: vs => by unfold wipeE; rw [List.length_set, wipeE_length ρ vs]
theorem wipeE_some {ρ : Env} {j : Nat} {d : Dat} : ∀ {vs : List Nat}, (wipeE ρ vs)[j]? = some (some d) → ρ[j]? = some (some d) ∧ j ∉ vs
  | [], h => ⟨h, by simp⟩
  | v :: vs, h => by
    unfold wipeE at h
    by_cases hi : v = j
    · subst hi
      by_cases hv : v < (wipeE ρ vs).length
      · rw [List.getElem?_set_self hv] at h; cases h
      · rw [List.getElem?_eq_none (by simpa using hv)] at h; cases h
    · rw [List.getElem?_set_ne hi] at h
      obtain ⟨h1, h2⟩ := wipeE_some h
      exact ⟨h1, by simp only [List.mem_cons, not_or]; exact ⟨fun e => hi e.symm, h2⟩⟩
theorem wipe_wipe (σ : St) (vs : List Nat) : wipe (wipe σ vs) vs = wipe σ vs := by
  apply List.ext_getElem?
  intro j
  rw [wipe_get, wipe_length, wipe_get]
  by_cases h : j ∈ vs ∧ j < σ.length
  · rw [if_pos h, if_pos h]
  · rw [if_neg h]
theorem wipe_set (σ : St) (vs : List Nat) (i : Nat) (x : Option V) (h : i ∈ vs) : wipe (σ.set i x) vs = wipe σ vs := by
  apply List.ext_getElem?
  intro j
  rw [wipe_get, wipe_get, List.length_set]
  by_cases q : j ∈ vs ∧ j < σ.length
  · rw [if_pos q, if_pos q]
  · rw [if_neg q, if_neg q]
    by_cases e : i = j
    · subst e
      have : ¬ i < σ.length := fun z => q ⟨h, z⟩
      rw [List.getElem?_eq_none (by rw [List.length_set]; omega), List.getElem?_eq_none (by omega)]
    · rw [List.getElem?_set_ne e]
theorem wipe_sets (vs : List Nat) : ∀ (ws : List (Nat × V)) (σ : St), (∀ i ∈ ws.map Prod.fst, i ∈ vs) → wipe (setV σ ws) vs = wipe σ vs
  | [], _, _ => rfl
  | w :: ws, σ, h => by
    show wipe (setV (σ.set w.1 (some w.2)) ws) vs = _
    rw [wipe_sets vs ws _ (fun i hi => h i (List.mem_cons_of_mem _ hi)), wipe_set _ _ _ _ (h w.1 (by simp))]
theorem renv_wipe {K : PySem.W.Frag} {g : Glob} {F : Hp} {σ : St} {ρ : Env} (vs : List Nat) (h : REnv K g F σ ρ) : REnv K g F (wipe σ vs) (wipeE ρ vs) := by
  intro j d e
  obtain ⟨h1, h2⟩ := wipeE_some e
  obtain ⟨v, h3, h4⟩ := h j d h1
  exact ⟨v, by rw [wipe_get, if_neg (fun q => h2 q.1)]; exact h3, h4⟩
theorem tabs_upd {T : List (Addr × Str)} {H : Hp} {p : Addr} {xs ys : List V} (t : LamX.Tabs T H) (h : H p = some (.lst xs)) : LamX.Tabs T (upd H p (.lst ys)) := by
  intro q hq
  obtain ⟨ps, h1, h2, h3⟩ := t q hq
  refine ⟨ps, ?_, h2, fun pos cv hc => ?_⟩
  · rw [upd_ne (ne_of h1 h (by intro z; cases z))]; exact h1
  · obtain ⟨c, e1, e2⟩ := h3 pos cv hc
    refine ⟨c, e1, ?_⟩
    rw [upd_ne (ne_of e2 h (by intro z; unfold LamX.CodeO at z; cases z))]; exact e2
/-- a list that is not frozen, new since (F, H), is changed -/
theorem Ext.put {g : Glob} {F H F' H' : Hp} {p : Addr} {xs ys : List V} (x : Ext g F H F' H') (h0 : H p = none) (hF : F' p = none) (h : H' p = some (.lst xs)) : Ext g F H F' (upd H' p (.lst ys)) where
  keep := fun a o e n => by rw [upd_ne (ne_of_none e h0)]; exact x.keep a o e n
  dom := fun a e => by
    by_cases q : a = p
    · subst q; rw [upd_same]; simp
    · rw [upd_ne q]; exact x.dom a e
  tabs := fun t => tabs_upd (x.tabs t) h
  sub := fun a o e => by
    by_cases q : a = p
    · subst q; rw [hF] at e; cases e
    · rw [upd_ne q]; exact x.sub a o e
  old := x.old
  nt := x.nt
def W0 : WX := fun _ _ _ _ => False
section
variable {X : Cx} {g : Glob} {W : WX}
theorem vts_nil {X' : Cx} : VTs X' g W [] bYes := by
  refine ⟨fun pins s σ H Q I h => ?_⟩
  obtain ⟨ρ, F, s', p⟩ := h
  exact (pts_nil (X := X')).run pins s σ H Q I (PostG.here s'.sub p rfl)
theorem vts_one {X' : Cx} {c : Expr} {f : Env → Res Bool} (h : VT X' g W c f) : VTs X' g W [c] f := pts_one h
theorem nx_post {α β : Type} {R : Hp → β → α → Prop} {σ : St} {F H : Hp} {r : Res α} {Q : β → Hp → Prop} {W' : WX} (h : PostG g R W' σ F H (nx r) Q) : PostG g R W0 σ F H r Q := by
  cases r with
  | ok a => exact h
  | exc c => exact h.elim
  | stuck => exact h
theorem lc_main {fi : Env → Res (List Dat)} {p : Pat} {t : Env → Res Bool} {f : Env → Res Dat} {vs : List Nat} {K : PySem.W.Frag} {σ : St} {H : Hp} {Q : VK} (hp : ∀ i ∈ patIx p, i ∈ vs) (h : tV K g W (eLc fi p t f vs) σ H Q) :
    tLc (tG K g (Iters K g) W fi) (gP K g p) (tVT K g W0 t) (tV K g W0 f) vs σ H Q := by
  obtain ⟨ρ, F, s, q⟩ := h
  refine ⟨ρ, F, s, (PostG.bind s q).imp ?_⟩
  rintro J H1 ⟨F1, ds, s1, it, x1, p1⟩ D hD
  by_cases hlen : ds.length ≤ big
  case neg => rw [if_neg hlen] at p1; exact p1.elim
  rw [if_pos hlen] at p1
  cases hout : lcD p t f (wipeE ρ vs) ds with
  | exc c =>
    -- no exception comes out of lcD
    exfalso
    have : ∀ l c, lcD p t f (wipeE ρ vs) l ≠ .exc c := by
      intro l
      induction l with
      | nil => intro c e; cases e
      | cons d r ih =>
        intro c e
        unfold lcD at e
        cases e1 : bindU p d with
        | none => rw [e1] at e; cases e
        | some us =>
          rw [e1] at e
          dsimp only at e
          cases e2 : t (setE (wipeE ρ vs) us) with
          | stuck => rw [e2] at e; cases e
          | exc c' => rw [e2] at e; cases e
          | ok b =>
            rw [e2] at e
            cases b with
            | false => exact ih c e
            | true =>
              cases e3 : f (setE (wipeE ρ vs) us) with
              | stuck => rw [e3] at e; cases e
              | exc c' => rw [e3] at e; cases e
              | ok y =>
                rw [e3] at e
                cases e4 : lcD p t f (wipeE ρ vs) r with
                | stuck => simp [nx, e4] at e
                | exc c' => exact ih c' e4
                | ok ys => simp [nx, e4] at e
    exact this ds c hout
  | stuck => rw [hout] at p1; exact p1.elim
  | ok out =>
    rw [hout] at p1
    refine ⟨fun i m H => m = ds.length - i ∧ i ≤ ds.length ∧ ∃ F acc ads rest, Ext g F1 H1 F H ∧ H D = some (.lst acc) ∧ F D = none ∧ Reps K g F acc ads ∧ acc.length ≤ i ∧ lcD p t f (wipeE ρ vs) (ds.drop i) = .ok rest ∧ out = ads ++ rest, ⟨ds.length, by simp, Nat.zero_le _, F1, [], [], out, Ext.newO s1.sub hD, upd_same, sub_none s1.sub hD, .nil, Nat.zero_le _, hout, rfl⟩, ?_⟩
    rintro i m H ⟨rfl, hi, F2, acc, ads, rest, x2, hH, hFD, ra, hal, hrest, ho⟩
    obtain ⟨go, stop⟩ := it i F2 H (x2.le s1.sub) x2.sub
    by_cases hlt : i < ds.length
    · right
      obtain ⟨d, hd⟩ : ∃ d, ds[i]? = some d := ⟨ds[i], by simp [hlt]⟩
      obtain ⟨g1, g2⟩ := go d hd
      have hdrop : ds.drop i = d :: ds.drop (i + 1) := by
        rw [List.drop_eq_getElem_cons hlt]
        congr 1
        have := List.getElem?_eq_getElem hlt
        rw [this] at hd
        exact Option.some.inj hd
      rw [hdrop] at hrest
      unfold lcD at hrest
      cases eb : bindU p d with
      | none => rw [eb] at hrest; cases hrest
      | some us =>
        rw [eb] at hrest
        dsimp only at hrest
        refine ⟨g1, fun H' => i + 1 ≤ ds.length ∧ ∃ F acc ads rest, Ext g F1 H1 F H' ∧ H' D = some (.lst acc) ∧ F D = none ∧ Reps K g F acc ads ∧ acc.length ≤ i + 1 ∧ lcD p t f (wipeE ρ vs) (ds.drop (i + 1)) = .ok rest ∧ out = ads ++ rest, fun H' hn => ⟨ds.length - (i + 1), by omega, rfl, hn.1, hn.2⟩, fun x H' y => ?_⟩
        obtain ⟨F3, x3, rx⟩ := g2 x H' y
        have hD3 : H' D = some (.lst acc) := x3.keep D _ hH (by intro ps z; cases z)
        have hF3 : F3 D = none := by rw [x3.old D (by rw [hH]; simp)]; exact hFD
        refine ⟨F3, d, us, x3.sub, rx, eb, fun ws k1 k2 => ?_⟩
        have hix : ∀ i ∈ ws.map Prod.fst, i ∈ vs := fun i hi => hp i (by rw [k1, bindU_ix p d us eb] at hi; exact hi)
        refine ⟨by rw [wipe_sets vs ws _ hix, wipe_wipe], ?_⟩
        have s3 : Stt K g F3 H' (setV (wipe σ vs) ws) (setE (wipeE ρ vs) us) := by
          have env0 : REnv K g F3 σ ρ := fun j e h => by
            obtain ⟨v, h1, h2⟩ := s1.env j e h
            exact ⟨v, h1, h2.mono ((x2.le s1.sub).trans (x3.le x2.sub))⟩
          exact ⟨x3.sub, x3.tabs (x2.tabs s1.tabs), renv_sets (renv_wipe vs env0) (by rw [wipeE_length, wipe_length]; exact s.len) k1 k2, by rw [setE_length, setV_length, wipeE_length, wipe_length]; exact s.len, fun a ps e => s1.nt a ps (x2.nt a ps (x3.nt a ps e))⟩
        refine ⟨_, F3, s3, ?_⟩
        cases et : t (setE (wipeE ρ vs) us) with
        | stuck => rw [et] at hrest; cases hrest
        | exc c => rw [et] at hrest; cases hrest
        | ok b =>
          rw [et] at hrest
          intro b' H4 F4 x4 eb'
          subst eb'
          have hD4 : H4 D = some (.lst acc) := x4.keep D _ hD3 (by intro ps z; cases z)
          have hF4 : F4 D = none := by rw [x4.old D (by rw [hD3]; simp)]; exact hF3
          have x14 : Ext g F1 H1 F4 H4 := (x2.trans x3).trans x4
          cases b' with
          | false =>
            rw [if_neg (by decide)]
            exact ⟨hlt, F4, acc, ads, rest, x14, hD4, hF4, ra.mono ((x3.le x2.sub).trans (x4.le x3.sub)), by omega, hrest, ho⟩
          | true =>
            rw [if_pos rfl]
            refine ⟨_, F4, s3.ext x4, ?_⟩
            cases ef : f (setE (wipeE ρ vs) us) with
            | stuck => simp [nx, ef] at hrest
            | exc c => simp [nx, ef] at hrest
            | ok a =>
              intro y H5 F5 x5 ry
              have hD5 : H5 D = some (.lst acc) := x5.keep D _ hD4 (by intro ps z; cases z)
              have hF5 : F5 D = none := by rw [x5.old D (by rw [hD4]; simp)]; exact hF4
              have hacc : acc.length < sizeLine := Nat.lt_of_le_of_lt hal (Nat.lt_of_lt_of_le hlt (Nat.le_trans hlen big_le))
              refine ⟨acc, hD5, hacc, hlt, F5, acc ++ [y], ads ++ [a], ?_⟩
              cases er : lcD p t f (wipeE ρ vs) (ds.drop (i + 1)) with
              | stuck => simp [nx, ef, er] at hrest
              | exc c => simp [nx, ef, er] at hrest
              | ok ys =>
                simp [nx, ef, er] at hrest
                subst hrest
                exact ⟨ys, (x14.trans x5).put hD hF5 hD5, upd_same, hF5, (ra.mono (((x3.le x2.sub).trans (x4.le x3.sub)).trans (x5.le x4.sub))).snoc ry, by simp; omega, rfl, by rw [ho]; simp⟩
    · left
      have e : i = ds.length := by omega
      refine ⟨stop (by omega), ?_⟩
      rw [e, List.drop_length] at hrest
      cases hrest
      rw [List.append_nil] at ho
      subst ho
      -- the list is frozen now
      have xf : Ext g F1 H1 (upd F2 D (.lst acc)) H := by
        refine ⟨x2.keep, x2.dom, x2.tabs, fun a o e => ?_, fun a e => ?_, fun a ps e => ?_⟩
        · by_cases q : a = D
          · subst q; rw [upd_same] at e; cases e; exact hH
          · rw [upd_ne q] at e; exact x2.sub a o e
        · rw [upd_ne (fun q => by subst q; exact e hD)]; exact x2.old a e
        · by_cases q : a = D
          · subst q; rw [upd_same] at e; cases e
          · rw [upd_ne q] at e; exact x2.nt a ps e
      have sF : Same F2 (upd F2 D (.lst acc)) := same_upd hFD
      exact PostG.ret xf p1 (.lst upd_same (ra.mono sF))
theorem ve_lc {elt tg iter : Expr} {ifs : List Expr} {scope : Scope} {pos : Pos} {fi : Env → Res (List Dat)} {p : Pat} {t : Env → Res Bool} {f : Env → Res Dat} (own : List (Str × Nat)) (hc : X.calm = true) (hN : X.N.Nodup) (hi : VI X g W tg iter fi) (ok : BlkOk X.N X.env.scope scope own)
    (hg : ∀ (s : Shared) (H : Hp) (C : Addr) (cl : List (Str × Addr)) (fp : List Addr), VG (X.blk s H scope (compEnvC scope cl C X.env) fp) g tg p)
    (ht : ∀ (s : Shared) (H : Hp) (C : Addr) (cl : List (Str × Addr)) (fp : List Addr), VTs (X.blk s H scope (compEnvC scope cl C X.env) fp) g W0 ifs t)
    (he : ∀ (s : Shared) (H : Hp) (C : Addr) (cl : List (Str × Addr)) (fp : List Addr), VE (X.blk s H scope (compEnvC scope cl C X.env) fp) g W0 elt f)
    (hp : ∀ i ∈ patIx p, i ∈ own.map (·.2) := by decide) (hs : ∀ x, foldedSetIterable iter X.env x = pure x := by intro _; rfl) : VE X g W (.ListComp elt [⟨tg, iter, ifs, 0⟩] scope pos) (eLc fi p t f (own.map (·.2))) :=
  PE.imp (pe_lc (g := gP X.K g p) (tt := tVT X.K g W0 t) (te := tV X.K g W0 f) hc hN hi ok hg ht he hs) fun σ H Q h => lc_main hp h
end
end VL

/-! VL6: statements. A slot holds frozen data, or a list of its own that only it reaches. -/
namespace VL
open PySem PySem.Spec PyProof.Rows L2

inductive Slot where
  | frz (d : Dat) | own (ds : List Dat)
abbrev SEnv := List (Option Slot)
inductive SRes where
  | next (ρ : SEnv) | ret (d : Dat) | brk (ρ : SEnv) | cont (ρ : SEnv) | exc (c : Str) | stuck
def viewAt (js : List Nat) (i : Nat) : Option Slot → Option Dat
  | some (.frz d) => some d
  | some (.own ds) => if i ∈ js then some (.lst ds) else none
  | none => none
def viewF (js : List Nat) : Nat → SEnv → Env
  | _, [] => []
  | n, s :: r => viewAt js n s :: viewF js (n + 1) r
def view (js : List Nat) (ρ : SEnv) : Env := viewF js 0 ρ
def frzAt (js : List Nat) (i : Nat) : Option Slot → Option Slot
  | some (.own ds) => if i ∈ js then some (.frz (.lst ds)) else some (.own ds)
  | s => s
def frzF (js : List Nat) : Nat → SEnv → SEnv
  | _, [] => []
  | n, s :: r => frzAt js n s :: frzF js (n + 1) r
def freeze (js : List Nat) (ρ : SEnv) : SEnv := frzF js 0 ρ
theorem viewF_get (js : List Nat) : ∀ (ρ : SEnv) (n i : Nat), (viewF js n ρ)[i]? = (ρ[i]?).map (viewAt js (n + i))
  | [], n, i => by simp [viewF]
  | s :: r, n, 0 => by simp [viewF]
  | s :: r, n, i + 1 => by
    show (viewF js (n + 1) r)[i]? = _
    rw [viewF_get js r (n + 1) i, show n + 1 + i = n + (i + 1) by omega]; rfl
theorem view_get (js : List Nat) (ρ : SEnv) (i : Nat) : (view js ρ)[i]? = (ρ[i]?).map (viewAt js i) := by
  unfold view; rw [viewF_get, Nat.zero_add]
theorem frzF_get (js : List Nat) : ∀ (ρ : SEnv) (n i : Nat), (frzF js n ρ)[i]? = (ρ[i]?).map (frzAt js (n + i))
  | [], n, i => by simp [frzF]
  | s :: r, n, 0 => by simp [frzF]
  | s :: r, n, i + 1 => by
    show (frzF js (n + 1) r)[i]? = _
    rw [frzF_get js r (n + 1) i, show n + 1 + i = n + (i + 1) by omega]; rfl
theorem freeze_get (js : List Nat) (ρ : SEnv) (i : Nat) : (freeze js ρ)[i]? = (ρ[i]?).map (frzAt js i) := by
  unfold freeze; rw [frzF_get, Nat.zero_add]
theorem viewF_length (js : List Nat) : ∀ (ρ : SEnv) (n : Nat), (viewF js n ρ).length = ρ.length
  | [], _ => rfl
  | _ :: r, n => by simp [viewF, viewF_length js r]
theorem frzF_length (js : List Nat) : ∀ (ρ : SEnv) (n : Nat), (frzF js n ρ).length = ρ.length
  | [], _ => rfl
  | _ :: r, n => by simp [frzF, frzF_length js r]
mutual
/-- no list within -/
def noL : Dat → Bool
  | .tup ds => noLs ds
  | .lst _ => false
  | .rls _ => false
  | .dct _ => false
  | .ins _ _ => false
  | .opq _ => true
  | _ => true
def noLs : List Dat → Bool
  | [] => true
  | d :: ds => noL d && noLs ds
end
def after (js : List Nat) (ρ : SEnv) (d : Dat) : SEnv := if noL d = true then ρ else freeze js ρ
def afterL (js : List Nat) (ρ : SEnv) (ds : List Dat) : SEnv := if noLs ds = true then ρ else freeze js ρ

section
variable (K : PySem.W.Frag) (g : Glob)
structure SRel (F0 H0 F H : Hp) (σ : St) (ρ : SEnv) : Prop where
  tabs : LamX.Tabs g.tabs H
  nt : ∀ a ps, F a ≠ some (.tbl ps)
  ext : Ext g F0 H0 F H
  len : ρ.length = σ.length
  frz : ∀ (i : Nat) (d : Dat), ρ[i]? = some (some (.frz d)) → ∃ v, σ[i]? = some (some v) ∧ Rep K g F v d
  own : ∀ (i : Nat) (ds : List Dat), ρ[i]? = some (some (.own ds)) → ∃ (p : Addr) (vs : List V), σ[i]? = some (some (.ref p)) ∧ H p = some (.lst vs) ∧ F p = none ∧ H0 p = none ∧ Reps K g F vs ds
  sep : ∀ (i j : Nat) (ds es : List Dat) (p : Addr), ρ[i]? = some (some (.own ds)) → ρ[j]? = some (some (.own es)) → σ[i]? = some (some (.ref p)) → σ[j]? = some (some (.ref p)) → i = j
def SPost (W : WX) (D : Ends) (F0 H0 F : Hp) : SRes → Prop
  | .next ρ' => ∀ σ' H' F', SRel K g F0 H0 F' H' σ' ρ' → Same F F' → D.nx σ' H'
  | .brk ρ' => ∀ σ' H' F', SRel K g F0 H0 F' H' σ' ρ' → Same F F' → D.bk σ' H'
  | .cont ρ' => ∀ σ' H' F', SRel K g F0 H0 F' H' σ' ρ' → Same F F' → D.ct σ' H'
  | .ret d => ∀ v H' F', Ext g F0 H0 F' H' → Rep K g F' v d → D.rt v H'
  | .exc c => ∀ σ' H' F', Ext g F0 H0 F' H' → W (.ref (g.cls c)) none σ' H'
  | .stuck => False
def tVS (W : WX) (F0 H0 : Hp) (s : SEnv → SRes) : TS := fun D σ H => ∃ ρ F, SRel K g F0 H0 F H σ ρ ∧ SPost K g W D F0 H0 F (s ρ)
end
def VS (X : Cx) (g : Glob) (W : WX) (F0 H0 : Hp) (st : Stmt) (s : SEnv → SRes) : Prop := PS X st (tVS X.K g W F0 H0 s)
def VSs (X : Cx) (g : Glob) (W : WX) (F0 H0 : Hp) (st : List Stmt) (s : SEnv → SRes) : Prop := PSs X st (tVS X.K g W F0 H0 s)

/-! ### what is borrowed for an expression -/
def isOwn (js : List Nat) (σ : St) (ρ : SEnv) (a : Addr) : Prop := ∃ j ∈ js, ∃ ds, ρ[j]? = some (some (.own ds)) ∧ σ[j]? = some (some (.ref a))
open Classical in
noncomputable def bor (js : List Nat) (σ : St) (ρ : SEnv) (F H : Hp) : Hp := fun a => if isOwn js σ ρ a then H a else F a
open Classical in
noncomputable def unb (js : List Nat) (σ : St) (ρ : SEnv) (F : Hp) : Hp := fun a => if isOwn js σ ρ a then none else F a
section
variable {K : PySem.W.Frag} {g : Glob} {F0 H0 F H F1 H1 : Hp} {σ : St} {ρ : SEnv} {js : List Nat}
theorem bor_own {a : Addr} (h : isOwn js σ ρ a) : bor js σ ρ F H a = H a := by unfold bor; rw [if_pos h]
theorem bor_not {a : Addr} (h : ¬ isOwn js σ ρ a) : bor js σ ρ F H a = F a := by unfold bor; rw [if_neg h]
theorem unb_own {a : Addr} (h : isOwn js σ ρ a) : unb js σ ρ F a = none := by unfold unb; rw [if_pos h]
theorem unb_not {a : Addr} (h : ¬ isOwn js σ ρ a) : unb js σ ρ F a = F a := by unfold unb; rw [if_neg h]
theorem SRel.isOwn (r : SRel K g F0 H0 F H σ ρ) {a : Addr} (h : isOwn js σ ρ a) : (∃ vs, H a = some (.lst vs)) ∧ F a = none ∧ H0 a = none := by
  obtain ⟨j, _, ds, h1, h2⟩ := h
  obtain ⟨p, vs, e1, e2, e3, e4, _⟩ := r.own j ds h1
  rw [h2] at e1
  cases e1
  exact ⟨⟨vs, e2⟩, e3, e4⟩
theorem SRel.sub (r : SRel K g F0 H0 F H σ ρ) : Same F H := r.ext.sub
theorem le_bor (r : SRel K g F0 H0 F H σ ρ) : Same F (bor js σ ρ F H) := fun a o e => by
  by_cases h : VL.isOwn js σ ρ a
  · rw [(r.isOwn h).2.1] at e; cases e
  · rw [bor_not h]; exact e
theorem bor_nt (r : SRel K g F0 H0 F H σ ρ) : ∀ a ps, bor js σ ρ F H a ≠ some (.tbl ps) := fun a ps e => by
  by_cases h : VL.isOwn js σ ρ a
  · obtain ⟨⟨vs, z⟩, _, _⟩ := r.isOwn h
    rw [bor_own h, z] at e; cases e
  · rw [bor_not h] at e; exact r.nt a ps e
theorem bor_stt (r : SRel K g F0 H0 F H σ ρ) : Stt K g (bor js σ ρ F H) H σ (view js ρ) := by
  refine ⟨fun a o e => ?_, r.tabs, fun i d e => ?_, by unfold view; rw [viewF_length]; exact r.len, bor_nt r⟩
  · by_cases h : VL.isOwn js σ ρ a
    · rw [bor_own h] at e; exact e
    · rw [bor_not h] at e; exact r.sub a o e
  · rw [view_get] at e
    cases q : ρ[i]? with
    | none => rw [q] at e; cases e
    | some s =>
      rw [q] at e
      cases s with
      | none => cases e
      | some s =>
        cases s with
        | frz d' =>
          cases e
          obtain ⟨v, h1, h2⟩ := r.frz i d q
          exact ⟨v, h1, h2.mono (le_bor r)⟩
        | own ds =>
          have e' : (if i ∈ js then some (Dat.lst ds) else none) = some d := Option.some.inj e
          by_cases hi : i ∈ js
          · rw [if_pos hi] at e'
            cases e'
            obtain ⟨p, vs, h1, h2, h3, h4, h5⟩ := r.own i ds q
            refine ⟨.ref p, h1, .lst ?_ (h5.mono (le_bor r))⟩
            rw [bor_own ⟨i, hi, ds, q, h1⟩]; exact h2
          · rw [if_neg hi] at e'; cases e'
theorem bor_ext (r : SRel K g F0 H0 F H σ ρ) (x : Ext g (bor js σ ρ F H) H F1 H1) : Ext g F0 H0 F1 H1 := by
  refine ⟨fun a o e n => x.keep a o (r.ext.keep a o e n) n, fun a e => x.dom a (r.ext.dom a e), fun _ => x.tabs r.tabs, x.sub, fun a e => ?_, fun a ps e => absurd (x.nt a ps e) (bor_nt r a ps)⟩
  rw [x.old a (r.ext.dom a e), bor_not (fun h => e (r.isOwn h).2.2)]
  exact r.ext.old a e
theorem bor_le (r : SRel K g F0 H0 F H σ ρ) (x : Ext g (bor js σ ρ F H) H F1 H1) : Same F F1 := (le_bor r).trans (x.le (bor_stt r).sub)
theorem bor_freeze (r : SRel K g F0 H0 F H σ ρ) (x : Ext g (bor js σ ρ F H) H F1 H1) : SRel K g F0 H0 F1 H1 σ (freeze js ρ) := by
  have le := bor_le r x
  refine ⟨x.tabs r.tabs, fun a ps e => bor_nt r a ps (x.nt a ps e), bor_ext r x, by unfold freeze; rw [frzF_length]; exact r.len, fun i d e => ?_, fun i ds e => ?_, fun i j ds es p h1 h2 h3 h4 => ?_⟩
  · rw [freeze_get] at e
    cases q : ρ[i]? with
    | none => rw [q] at e; cases e
    | some s =>
      rw [q] at e
      cases s with
      | none => cases e
      | some s =>
        cases s with
        | frz d' =>
          cases e
          obtain ⟨v, h1, h2⟩ := r.frz i d q
          exact ⟨v, h1, h2.mono le⟩
        | own ds =>
          have e' : (if i ∈ js then some (Slot.frz (.lst ds)) else some (.own ds)) = some (.frz d) := Option.some.inj e
          by_cases hi : i ∈ js
          · rw [if_pos hi] at e'
            cases e'
            obtain ⟨p, vs, h1, h2, h3, h4, h5⟩ := r.own i ds q
            refine ⟨.ref p, h1, .lst ?_ (h5.mono le)⟩
            rw [x.old p (by rw [h2]; simp), bor_own ⟨i, hi, ds, q, h1⟩]; exact h2
          · rw [if_neg hi] at e'; cases e'
  · rw [freeze_get] at e
    cases q : ρ[i]? with
    | none => rw [q] at e; cases e
    | some s =>
      rw [q] at e
      cases s with
      | none => cases e
      | some s =>
        cases s with
        | frz d' => cases e
        | own ds' =>
          have e' : (if i ∈ js then some (Slot.frz (.lst ds')) else some (.own ds')) = some (.own ds) := Option.some.inj e
          by_cases hi : i ∈ js
          · rw [if_pos hi] at e'; cases e'
          · rw [if_neg hi] at e'
            cases e'
            obtain ⟨p, vs, h1, h2, h3, h4, h5⟩ := r.own i ds q
            refine ⟨p, vs, h1, x.keep p _ h2 (by intro ps z; cases z), ?_, h4, h5.mono le⟩
            rw [x.old p (by rw [h2]; simp), bor_not]
            · exact h3
            · rintro ⟨j, hj, es, k1, k2⟩
              have := r.sep i j ds es p q k1 h1 k2
              subst this
              exact hi hj
  · have own : ∀ {i : Nat} {ds : List Dat}, (freeze js ρ)[i]? = some (some (.own ds)) → ρ[i]? = some (some (.own ds)) := fun {i ds} e => by
      rw [freeze_get] at e
      cases q : ρ[i]? with
      | none => rw [q] at e; cases e
      | some s =>
        rw [q] at e
        cases s with
        | none => cases e
        | some s =>
          cases s with
          | frz d' => cases e
          | own ds' =>
            have e' : (if i ∈ js then some (Slot.frz (.lst ds')) else some (.own ds')) = some (.own ds) := Option.some.inj e
            by_cases hi : i ∈ js
            · rw [if_pos hi] at e'; cases e'
            · rw [if_neg hi] at e'; cases e'; rfl
    exact r.sep i j ds es p (own h1) (own h2) h3 h4
theorem unb_le (r : SRel K g F0 H0 F H σ ρ) (x : Ext g (bor js σ ρ F H) H F1 H1) : Same F (unb js σ ρ F1) := fun a o e => by
  rw [unb_not (fun h => by rw [(r.isOwn h).2.1] at e; cases e)]
  exact bor_le r x a o e
theorem bor_unb (r : SRel K g F0 H0 F H σ ρ) (x : Ext g (bor js σ ρ F H) H F1 H1) : SRel K g F0 H0 (unb js σ ρ F1) H1 σ ρ := by
  have le := unb_le r x
  have ntu : ∀ a ps, unb js σ ρ F1 a ≠ some (.tbl ps) := fun a ps e => by
    by_cases h : VL.isOwn js σ ρ a
    · rw [unb_own h] at e; cases e
    · rw [unb_not h] at e; exact bor_nt r a ps (x.nt a ps e)
  refine ⟨x.tabs r.tabs, ntu, ⟨fun a o e n => x.keep a o (r.ext.keep a o e n) n, fun a e => x.dom a (r.ext.dom a e), fun _ => x.tabs r.tabs, fun a o e => ?_, fun a e => ?_, fun a ps e => absurd e (ntu a ps)⟩, r.len, fun i d e => ?_, fun i ds e => ?_, r.sep⟩
  · by_cases h : VL.isOwn js σ ρ a
    · rw [unb_own h] at e; cases e
    · rw [unb_not h] at e; exact x.sub a o e
  · rw [unb_not (fun h => e (r.isOwn h).2.2)]; exact (bor_ext r x).old a e
  · obtain ⟨v, h1, h2⟩ := r.frz i d e
    exact ⟨v, h1, h2.mono le⟩
  · obtain ⟨p, vs, h1, h2, h3, h4, h5⟩ := r.own i ds e
    refine ⟨p, vs, h1, x.keep p _ h2 (by intro ps z; cases z), ?_, h4, h5.mono le⟩
    by_cases h : VL.isOwn js σ ρ p
    · exact unb_own h
    · rw [unb_not h, x.old p (by rw [h2]; simp), bor_not h]; exact h3
theorem noLs_cons {d : Dat} {ds : List Dat} (h : noLs (d :: ds) = true) : noL d = true ∧ noLs ds = true := by
  unfold noLs at h; exact Bool.and_eq_true_iff.mp h
/-- what has no list within stands without the lists of one's own -/
theorem unb_rep (r : SRel K g F0 H0 F H σ ρ) (x : Ext g (bor js σ ρ F H) H F1 H1) {v : V} {d : Dat} (h : Rep K g F1 v d) : noL d = true → Rep K g (unb js σ ρ F1) v d :=
  Rep.rec (motive_1 := fun v d _ => noL d = true → Rep K g (unb js σ ρ F1) v d) (motive_2 := fun vs ds _ => noLs ds = true → Reps K g (unb js σ ρ F1) vs ds)
    (fun _ => .non) (fun b _ => .bl b) (fun b _ => .int b) (fun b _ => .str b) (fun b _ => .ty b) (fun b _ => .opq b)
    (fun _ _ _ n => by unfold noL at n; cases n) (fun _ _ _ n => by unfold noL at n; cases n)
    (fun {a xs ds} h _ ih n => by
      unfold noL at n
      refine .tup ?_ (ih n)
      have ne : ∀ o, F1 a = some o → (∀ ys, o ≠ .lst ys) → unb js σ ρ F1 a = some o := fun o e q => by
        rw [unb_not]
        · exact e
        · intro k
          obtain ⟨⟨vs, z⟩, _, _⟩ := r.isOwn k
          have := x.keep a _ z (by intro ps q; cases q)
          rw [x.sub a o e] at this
          cases this
          exact q vs rfl
      rcases h with (h | ⟨o, h⟩) | h
      · exact .inl (.inl (ne _ h (by intro ys z; cases z)))
      · exact .inl (.inr ⟨o, ne _ h (by intro ys z; cases z)⟩)
      · exact .inr h)
    (fun _ _ _ _ n => by unfold noL at n; cases n) (fun _ _ _ _ n => by unfold noL at n; cases n)
    (fun _ => .nil) (fun _ _ a b n => .cons (a (noLs_cons n).1) (b (noLs_cons n).2)) h
theorem unb_reps (r : SRel K g F0 H0 F H σ ρ) (x : Ext g (bor js σ ρ F H) H F1 H1) {vs : List V} {ds : List Dat} (h : Reps K g F1 vs ds) : noLs ds = true → Reps K g (unb js σ ρ F1) vs ds := by
  induction vs generalizing ds with
  | nil => cases h; intro _; exact .nil
  | cons v vs ih => cases h with | cons a b => exact fun n => .cons (unb_rep r x a (noLs_cons n).1) (ih b (noLs_cons n).2)
theorem bor_after (r : SRel K g F0 H0 F H σ ρ) (x : Ext g (bor js σ ρ F H) H F1 H1) {v : V} {d : Dat} (h : Rep K g F1 v d) : ∃ F2, SRel K g F0 H0 F2 H1 σ (after js ρ d) ∧ Same F F2 ∧ Rep K g F2 v d := by
  unfold after
  by_cases n : noL d = true
  · rw [if_pos n]; exact ⟨_, bor_unb r x, unb_le r x, unb_rep r x h n⟩
  · rw [if_neg n]; exact ⟨_, bor_freeze r x, bor_le r x, h⟩
theorem bor_afterL (r : SRel K g F0 H0 F H σ ρ) (x : Ext g (bor js σ ρ F H) H F1 H1) {v : List V} {d : List Dat} (h : Reps K g F1 v d) : ∃ F2, SRel K g F0 H0 F2 H1 σ (afterL js ρ d) ∧ Same F F2 ∧ Reps K g F2 v d := by
  unfold afterL
  by_cases n : noLs d = true
  · rw [if_pos n]; exact ⟨_, bor_unb r x, unb_le r x, unb_reps r x h n⟩
  · rw [if_neg n]; exact ⟨_, bor_freeze r x, bor_le r x, h⟩
theorem SRel.setF (r : SRel K g F0 H0 F H σ ρ) {i : Nat} {v : V} {d : Dat} (h : Rep K g F v d) : SRel K g F0 H0 F H (σ.set i (some v)) (ρ.set i (some (.frz d))) := by
  refine ⟨r.tabs, r.nt, r.ext, by simp [r.len], fun j e q => ?_, fun j ds q => ?_, fun a b ds es p h1 h2 h3 h4 => ?_⟩
  · by_cases z : i = j
    · subst z
      by_cases hi : i < ρ.length
      · rw [List.getElem?_set_self hi] at q
        cases q
        exact ⟨v, by rw [List.getElem?_set_self (r.len ▸ hi)], h⟩
      · rw [List.getElem?_eq_none (by simpa using hi)] at q; cases q
    · rw [List.getElem?_set_ne z] at q ⊢
      exact r.frz j e q
  · by_cases z : i = j
    · subst z
      by_cases hi : i < ρ.length
      · rw [List.getElem?_set_self hi] at q; cases q
      · rw [List.getElem?_eq_none (by simpa using hi)] at q; cases q
    · rw [List.getElem?_set_ne z] at q ⊢
      exact r.own j ds q
  · have ne : ∀ {j : Nat} {ds : List Dat}, (ρ.set i (some (.frz d)))[j]? = some (some (.own ds)) → i ≠ j := fun {j ds} q z => by
      subst z
      by_cases hi : i < ρ.length
      · rw [List.getElem?_set_self hi] at q; cases q
      · rw [List.getElem?_eq_none (by simpa using hi)] at q; cases q
    have n1 := ne h1
    have n2 := ne h2
    rw [List.getElem?_set_ne n1] at h1 h3
    rw [List.getElem?_set_ne n2] at h2 h4
    exact r.sep a b ds es p h1 h2 h3 h4
/-- a list of one's own, new or changed -/
theorem SRel.setO (r : SRel K g F0 H0 F H σ ρ) {i : Nat} {p : Addr} {vs : List V} {ds : List Dat} (hp : H p = some (.lst vs)) (hF : F p = none) (h0 : H0 p = none) (h : Reps K g F vs ds) (hs : ∀ (j : Nat) (es : List Dat), j ≠ i → ρ[j]? = some (some (.own es)) → σ[j]? ≠ some (some (.ref p))) :
    SRel K g F0 H0 F H (σ.set i (some (.ref p))) (ρ.set i (some (.own ds))) := by
  refine ⟨r.tabs, r.nt, r.ext, by simp [r.len], fun j e q => ?_, fun j es q => ?_, fun a b es es' q h1 h2 h3 h4 => ?_⟩
  · by_cases z : i = j
    · subst z
      by_cases hi : i < ρ.length
      · rw [List.getElem?_set_self hi] at q; cases q
      · rw [List.getElem?_eq_none (by simpa using hi)] at q; cases q
    · rw [List.getElem?_set_ne z] at q ⊢
      exact r.frz j e q
  · by_cases z : i = j
    · subst z
      by_cases hi : i < ρ.length
      · rw [List.getElem?_set_self hi] at q
        cases q
        exact ⟨p, vs, by rw [List.getElem?_set_self (r.len ▸ hi)], hp, hF, h0, h⟩
      · rw [List.getElem?_eq_none (by simpa using hi)] at q; cases q
    · rw [List.getElem?_set_ne z] at q ⊢
      exact r.own j es q
  · have at_i : ∀ {j : Nat} {es : List Dat}, i = j → (ρ.set i (some (.own ds)))[j]? = some (some (.own es)) → (σ.set i (some (.ref p)))[j]? = some (some (.ref p)) := fun {j es} z q => by
      subst z
      by_cases hi : i < ρ.length
      · rw [List.getElem?_set_self (r.len ▸ hi)]
      · rw [List.getElem?_eq_none (by simpa using hi)] at q; cases q
    by_cases z1 : i = a
    · by_cases z2 : i = b
      · rw [← z1, ← z2]
      · have e := at_i z1 h1
        rw [e] at h3
        cases h3
        rw [List.getElem?_set_ne z2] at h2 h4
        exact absurd h4 (hs b es' (Ne.symm z2) h2)
    · by_cases z2 : i = b
      · have e := at_i z2 h2
        rw [e] at h4
        cases h4
        rw [List.getElem?_set_ne z1] at h1 h3
        exact absurd h3 (hs a es (Ne.symm z1) h1)
      · rw [List.getElem?_set_ne z1] at h1 h3
        rw [List.getElem?_set_ne z2] at h2 h4
        exact r.sep a b es es' q h1 h2 h3 h4
end

/-! ### statements upon plain data -/
def sSeq (a b : SEnv → SRes) : SEnv → SRes := fun ρ => match a ρ with
  | .next ρ' => b ρ'
  | r => r
def sNext : SEnv → SRes := fun ρ => .next ρ
def Res.toS {α : Type} (r : Res α) (k : α → SRes) : SRes := match r with
  | .ok a => k a
  | .exc c => .exc c
  | .stuck => .stuck
@[simp] theorem Res.toS_ok {α : Type} (a : α) (k : α → SRes) : Res.toS (.ok a) k = k a := Eq.trans rfl rfl
@[simp] theorem Res.toS_exc {α : Type} (c : Str) (k : α → SRes) : Res.toS (.exc c) k = .exc c := Eq.trans rfl rfl
@[simp] theorem Res.toS_stuck {α : Type} (k : α → SRes) : Res.toS .stuck k = .stuck := Eq.trans rfl rfl
def sIf (js : List Nat) (c : Env → Res Bool) (a b : SEnv → SRes) : SEnv → SRes := fun ρ => (c (view js ρ)).toS fun k => if k = true then a ρ else b ρ
def sSet (i : Nat) (js : List Nat) (f : Env → Res Dat) : SEnv → SRes := fun ρ => (f (view js ρ)).toS fun d => .next ((after js ρ d).set i (some (.frz d)))
def sOwn (i : Nat) (js : List Nat) (f : Env → Res (List Dat)) : SEnv → SRes := fun ρ => (f (view js ρ)).toS fun ds => if ds.length ≤ big then .next ((afterL js ρ ds).set i (some (.own ds))) else .stuck
def appS (i : Nat) (d : Dat) (ρ : SEnv) : SRes := match ρ[i]? with
  | some (some (.own ds)) => if ds.length < big then .next (ρ.set i (some (.own (ds ++ [d])))) else .stuck
  | _ => .stuck
def sApp (i : Nat) (js : List Nat) (f : Env → Res Dat) : SEnv → SRes := fun ρ => match ρ[i]? with
  | some (some (.own _)) => (f (view js ρ)).toS fun d => appS i d (after js ρ d)
  | _ => .stuck
def sRet (js : List Nat) (f : Env → Res Dat) : SEnv → SRes := fun ρ => (f (view js ρ)).toS fun d => .ret d
def sRetN : SEnv → SRes := fun _ => .ret .non
def sExpr (js : List Nat) (f : Env → Res Dat) : SEnv → SRes := fun ρ => (f (view js ρ)).toS fun d => .next (after js ρ d)
def setS (ρ : SEnv) : List (Nat × Dat) → SEnv
  | [] => ρ
  | (i, d) :: r => setS (ρ.set i (some (.frz d))) r
def bindS (p : Pat) (d : Dat) (ρ : SEnv) : SRes := match bindU p d with
  | some us => .next (setS ρ us)
  | none => .stuck
def sBind (p : Pat) (js : List Nat) (f : Env → Res Dat) : SEnv → SRes := fun ρ => (f (view js ρ)).toS fun d => bindS p d (after js ρ d)
def parS (i j : Nat) (js : List Nat) (ρ : SEnv) : List Dat → SRes
  | [a, b] => .next (((afterL js ρ [a, b]).set i (some (.frz a))).set j (some (.frz b)))
  | _ => .stuck
def sPar (i j : Nat) (js : List Nat) (f : Env → Res (List Dat)) : SEnv → SRes := fun ρ => (f (view js ρ)).toS (parS i j js ρ)
def sRaise (c : Str) : SEnv → SRes := fun _ => .exc c
/-- behind a loop's turn -/
def SRes.turn (r : SRes) (k : SEnv → SRes) : SRes := match r with
  | .next ρ' => k ρ'
  | .cont ρ' => k ρ'
  | .brk ρ' => .next ρ'
  | x => x
def forD (p : Pat) (b : SEnv → SRes) : List Dat → SEnv → SRes
  | [], ρ => .next ρ
  | d :: r, ρ => match bindU p d with
    | none => .stuck
    | some us => (b (setS ρ us)).turn (forD p b r)
def sFor (js : List Nat) (f : Env → Res (List Dat)) (p : Pat) (b : SEnv → SRes) : SEnv → SRes := fun ρ => (f (view js ρ)).toS fun ds => forD p b ds (freeze js ρ)
def whileD (js : List Nat) (c : Env → Res Bool) (b : SEnv → SRes) : Nat → SEnv → SRes
  | 0, _ => .stuck
  | n + 1, ρ => (c (view js ρ)).toS fun k => if k = true then (b ρ).turn (whileD js c b n) else .next ρ
def sWhile (n : Nat) (js : List Nat) (c : Env → Res Bool) (b : SEnv → SRes) : SEnv → SRes := whileD js c b n

section
variable {X : Cx} {g : Glob} {W : WX} {F0 H0 : Hp}
theorem vss_nil : VSs X g W F0 H0 [] sNext := PSs.imp pss_nil fun D σ H ⟨ρ, F, r, p⟩ => p σ H F r (Same.refl F)
theorem SPost.mono {K : PySem.W.Frag} {D : Ends} {F F' : Hp} {s : SRes} (le : Same F F') (h : SPost K g W D F0 H0 F s) : SPost K g W D F0 H0 F' s := by
  cases s with
  | next ρ => exact fun σ H F1 r q => h σ H F1 r (le.trans q)
  | brk ρ => exact fun σ H F1 r q => h σ H F1 r (le.trans q)
  | cont ρ => exact fun σ H F1 r q => h σ H F1 r (le.trans q)
  | ret d => exact h
  | exc c => exact h
  | stuck => exact h
theorem vss_cons {st : Stmt} {rest : List Stmt} {a b : SEnv → SRes} (h1 : VS X g W F0 H0 st a) (h2 : VSs X g W F0 H0 rest b) : VSs X g W F0 H0 (st :: rest) (sSeq a b) :=
  PSs.imp (pss_cons h1 h2) fun D σ H ⟨ρ, F, r, p⟩ => by
    refine ⟨ρ, F, r, ?_⟩
    unfold sSeq at p
    cases e : a ρ with
    | next ρ' => rw [e] at p; exact fun σ' H' F' r' le => ⟨ρ', F', r', SPost.mono le p⟩
    | brk ρ' => rw [e] at p; exact p
    | cont ρ' => rw [e] at p; exact p
    | ret d => rw [e] at p; exact p
    | exc c => rw [e] at p; exact p
    | stuck => rw [e] at p; exact p
theorem vss_one {st : Stmt} {a : SEnv → SRes} (h1 : VS X g W F0 H0 st a) : VSs X g W F0 H0 [st] a := pss_one h1
theorem vs_pass {pos : Pos} : VS X g W F0 H0 (.Pass pos) sNext := PS.imp ps_pass fun D σ H ⟨ρ, F, r, p⟩ => p σ H F r (Same.refl F)
/-- an expression in a statement -/
theorem s_use {K : PySem.W.Frag} {α β : Type} {R : Hp → β → α → Prop} {js : List Nat} {f : Env → Res α} {k : α → SRes} {F H : Hp} {σ : St} {ρ : SEnv} {D : Ends} (r : SRel K g F0 H0 F H σ ρ)
    (p : SPost K g W D F0 H0 F ((f (view js ρ)).toS k)) :
    tG K g R W f σ H (fun v H1 => ∃ F1 a, Ext g (bor js σ ρ F H) H F1 H1 ∧ R F1 v a ∧ SPost K g W D F0 H0 F (k a)) := by
  refine ⟨view js ρ, bor js σ ρ F H, bor_stt r, ?_⟩
  cases e : f (view js ρ) with
  | ok a => rw [e] at p; exact fun v H1 F1 x q => ⟨F1, a, x, q, p⟩
  | exc c => rw [e] at p; exact fun H1 F1 x => p σ H1 F1 (bor_ext r x)
  | stuck => rw [e] at p; exact p
theorem tG_imp {K : PySem.W.Frag} {α β : Type} {R : Hp → β → α → Prop} {f : Env → Res α} {σ : St} {H : Hp} {Q Q' : β → Hp → Prop} (h : tG K g R W f σ H Q) (i : ∀ v H', Q v H' → Q' v H') : tG K g R W f σ H Q' := by
  obtain ⟨ρ, F, s, p⟩ := h
  exact ⟨ρ, F, s, p.imp i⟩
theorem vs_if {c : Expr} {a b : List Stmt} {pos : Pos} {t : Env → Res Bool} {sa sb : SEnv → SRes} (js : List Nat) (hc : VT X g W c t) (ha : VSs X g W F0 H0 a sa) (hb : VSs X g W F0 H0 b sb) : VS X g W F0 H0 (.If c a b pos) (sIf js t sa sb) :=
  PS.imp (ps_if hc ha hb) fun D σ H ⟨ρ, F, r, p⟩ => by
    refine tG_imp (s_use (js := js) (k := fun k => if k = true then sa ρ else sb ρ) (D := D) r p) ?_
    rintro k H1 ⟨F1, k', x, e, q⟩
    subst e
    have r1 := bor_unb r x
    cases k with
    | true => rw [if_pos rfl] at q ⊢; exact ⟨ρ, _, r1, SPost.mono (unb_le r x) q⟩
    | false => rw [if_neg (by decide)] at q ⊢; exact ⟨ρ, _, r1, SPost.mono (unb_le r x) q⟩
theorem set_ok {K : PySem.W.Frag} {js : List Nat} {i : Nat} {f : Env → Res Dat} {D : Ends} {σ : St} {H : Hp} (h : tVS K g W F0 H0 (sSet i js f) D σ H) : tAsg (tV K g W f) (gName i) D σ H := by
  obtain ⟨ρ, F, r, p⟩ := h
  refine tG_imp (s_use (js := js) (k := fun d => .next ((after js ρ d).set i (some (.frz d)))) r p) ?_
  rintro v H1 ⟨F1, d, x, rv, q⟩
  obtain ⟨F2, r2, le, rv2⟩ := bor_after r x rv
  exact q _ _ F2 (r2.setF rv2) le
theorem vs_set (i : Nat) {x : Str} {e : Expr} {pos pos' : Pos} {f : Env → Res Dat} (js : List Nat) (hN : X.N.Nodup) (he : VE X g W e f) (hi : X.N[i]? = some x := by rfl) (hx : Loc X.env.scope x := by first | exact Or.inl rfl | exact Or.inr rfl) (hs : swapsWith e (some (.Name x pos')) pos.line X.env = pure false := by rfl) (hf : X.fn x = true ∨ X.env.scope.names.lookup x = some .local := by first | exact .inl rfl | exact .inr rfl | assumption) : VS X g W F0 H0 (.Assign [.Name x pos'] e pos) (sSet i js f) :=
  PS.imp (ps_set hN hi hx he hs hf) fun D σ H h => set_ok h
theorem own_ok {K : PySem.W.Frag} {js : List Nat} {i : Nat} {f : Env → Res (List Dat)} {D : Ends} {σ : St} {H : Hp} (h : tVS K g W F0 H0 (sOwn i js f) D σ H) : tAsg (tLst (tVA K g W f)) (gName i) D σ H := by
  obtain ⟨ρ, F, r, p⟩ := h
  refine tG_imp (s_use (js := js) (k := fun ds => if ds.length ≤ big then .next ((afterL js ρ ds).set i (some (.own ds))) else .stuck) r p) ?_
  rintro vs H1 ⟨F1, ds, x, rv, q⟩
  by_cases hl : ds.length ≤ big
  case neg => rw [if_neg hl] at q; exact q.elim
  rw [if_pos hl] at q
  refine ⟨by rw [rv.length]; exact Nat.le_trans hl big_le, fun a ha => ?_⟩
  obtain ⟨F2, r2, le, rv2⟩ := bor_afterL r x rv
  have x3 : Ext g F0 H0 F2 (upd H1 a (.lst vs)) := r2.ext.trans (Ext.newO r2.sub ha)
  have s1 : Same H1 (upd H1 a (.lst vs)) := same_upd ha
  have r3 : SRel K g F0 H0 F2 (upd H1 a (.lst vs)) σ (afterL js ρ ds) := ⟨r2.tabs.ext s1, r2.nt, x3, r2.len, r2.frz, fun j es e => let ⟨p, ws, h1, h2, h3⟩ := r2.own j es e; ⟨p, ws, h1, s1 _ _ h2, h3⟩, r2.sep⟩
  refine q _ _ F2 (r3.setO upd_same (sub_none r2.sub ha) (r2.ext.free ha) rv2 fun j es _ e z => ?_) le
  obtain ⟨p, ws, h1, h2, _⟩ := r2.own j es e
  rw [h1] at z
  cases z
  rw [h2] at ha
  cases ha
theorem vs_own (i : Nat) {x : Str} {es : List Expr} {pos pos' p2 : Pos} {f : Env → Res (List Dat)} (js : List Nat) (hN : X.N.Nodup) (he : VA X g W es f) (hi : X.N[i]? = some x := by rfl) (hx : Loc X.env.scope x := by first | exact Or.inl rfl | exact Or.inr rfl) (hs : swapsWith (.List es p2) (some (.Name x pos')) pos.line X.env = pure false := by rfl) (hf : X.fn x = true ∨ X.env.scope.names.lookup x = some .local := by first | exact .inl rfl | exact .inr rfl | assumption) : VS X g W F0 H0 (.Assign [.Name x pos'] (.List es p2) pos) (sOwn i js f) :=
  PS.imp (ps_set hN hi hx (pe_lst he) hs hf) fun D σ H h => own_ok h
/-- name = [.. for ..] on one line, the name a local -/
theorem vs_setLc (i : Nat) {y : Str} {py : Pos} {elt tg iter : Expr} {ifs : List Expr} {scope : Scope} {pos spos : Pos} {fi : Env → Res (List Dat)} {p : Pat} {t : Env → Res Bool} {f : Env → Res Dat} (js : List Nat) (own : List (Str × Nat)) (hc : X.calm = true) (hN : X.N.Nodup) (hi : VI X g W tg iter fi) (ok : BlkOk X.N X.env.scope scope own)
    (hg : ∀ (s : Shared) (H : Hp) (C : Addr) (cl : List (Str × Addr)) (fp : List Addr), VG (X.blk s H scope (compEnvC scope cl C X.env) fp) g tg p)
    (ht : ∀ (s : Shared) (H : Hp) (C : Addr) (cl : List (Str × Addr)) (fp : List Addr), VTs (X.blk s H scope (compEnvC scope cl C X.env) fp) g W0 ifs t)
    (he : ∀ (s : Shared) (H : Hp) (C : Addr) (cl : List (Str × Addr)) (fp : List Addr), VE (X.blk s H scope (compEnvC scope cl C X.env) fp) g W0 elt f)
    (hsw : swapsWith (.ListComp elt [⟨tg, iter, ifs, 0⟩] scope pos) (some (.Name y py)) spos.line X.env = pure true) (hy : X.N[i]? = some y := by rfl) (hyl : X.env.scope.names.lookup y = some .local := by rfl) (hp : ∀ i ∈ patIx p, i ∈ own.map (·.2) := by decide) (hs : ∀ x, foldedSetIterable iter X.env x = pure x := by intro _; rfl) :
    VS X g W F0 H0 (.Assign [.Name y py] (.ListComp elt [⟨tg, iter, ifs, 0⟩] scope pos) spos) (sSet i js (eLc fi p t f (own.map (·.2)))) :=
  PS.imp (ps_setLc (g := gP X.K g p) (tt := tVT X.K g W0 t) (te := tV X.K g W0 f) hc hN hy hyl hsw hi ok hg ht he hs) fun D σ H h => by
    obtain ⟨ρ, F, r, q⟩ := h
    have h1 := set_ok (K := X.K) (js := js) (i := i) ⟨ρ, F, r, q⟩
    exact lc_main hp h1
theorem vs_ret {e : Expr} {pos : Pos} {f : Env → Res Dat} (js : List Nat) (he : VE X g W e f) : VS X g W F0 H0 (.Return (some e) pos) (sRet js f) :=
  PS.imp (ps_ret he) fun D σ H ⟨ρ, F, r, p⟩ => tG_imp (s_use (js := js) (k := fun d => .ret d) (D := D) r p) fun v H1 ⟨F1, d, x, rv, q⟩ => q v H1 F1 (bor_ext r x) rv
theorem vs_retN {pos : Pos} : VS X g W F0 H0 (.Return none pos) sRetN := PS.imp ps_retN fun D σ H ⟨ρ, F, r, p⟩ => p .non H F r.ext .non
theorem vs_expr {e : Expr} {pos : Pos} {f : Env → Res Dat} (js : List Nat) (he : VE X g W e f) (hs : swapsWith e none pos.line X.env = pure false := by rfl) : VS X g W F0 H0 (.Expr e pos) (sExpr js f) :=
  PS.imp (ps_expr he hs) fun D σ H ⟨ρ, F, r, p⟩ => tG_imp (s_use (js := js) (k := fun d => .next (after js ρ d)) (D := D) r p) fun v H1 ⟨F1, d, x, rv, q⟩ => by
    obtain ⟨F2, r2, le, _⟩ := bor_after r x rv
    exact q _ _ F2 r2 le
theorem srel_sets {K : PySem.W.Frag} {F H : Hp} {ws : List (Nat × V)} : ∀ {us : List (Nat × Dat)} {σ : St} {ρ : SEnv}, SRel K g F0 H0 F H σ ρ → ws.map Prod.fst = us.map Prod.fst → Reps K g F (ws.map Prod.snd) (us.map Prod.snd) → SRel K g F0 H0 F H (setV σ ws) (setS ρ us) := by
  induction ws with
  | nil =>
    intro us σ ρ h e r
    cases us with
    | nil => exact h
    | cons _ _ => simp at e
  | cons w ws ih =>
    intro us σ ρ h e r
    cases us with
    | nil => simp at e
    | cons u us =>
      simp only [List.map_cons, List.cons.injEq] at e
      simp only [List.map_cons] at r
      cases r with
      | cons a b =>
        show SRel K g F0 H0 F H (setV (σ.set w.1 (some w.2)) ws) (setS (ρ.set u.1 (some (.frz u.2))) us)
        rw [e.1]
        exact ih (h.setF a) e.2 b
theorem vs_bind {tg e : Expr} {pos : Pos} {p : Pat} {f : Env → Res Dat} (js : List Nat) (he : VE X g W e f) (hg : VG X g tg p) (hs : swapsWithSole [tg] e pos.line X.env = pure false := by rfl) (hw : swappedStores [tg] e X.env = pure none := by rfl)
    (hmore : ∀ (he' : PE X e (tV X.K g W f)) (hg' : PG X tg (gP X.K g p)), PS X (.Assign [tg] e pos) (tAsg (tV X.K g W f) (gP X.K g p)) := by exact fun h1 h2 => ps_asg h1 h2) : VS X g W F0 H0 (.Assign [tg] e pos) (sBind p js f) :=
  PS.imp (hmore he hg) fun D σ H ⟨ρ, F, r, q⟩ => tG_imp (s_use (js := js) (k := fun d => bindS p d (after js ρ d)) (D := D) r q) fun v H1 ⟨F1, d, x, rv, q1⟩ => by
    obtain ⟨F2, r2, le, rv2⟩ := bor_after r x rv
    unfold bindS at q1
    cases e : bindU p d with
    | none => rw [e] at q1; exact q1.elim
    | some us =>
      rw [e] at q1
      exact ⟨F2, d, us, r2.sub, rv2, e, fun ws k1 k2 => q1 _ _ F2 (srel_sets r2 k1 k2) le⟩
theorem vs_par (i j : Nat) {x y : Str} {a b : Expr} {px py pt pos : Pos} {kt k2 pt2} {f : Env → Res (List Dat)} (js : List Nat) (he : VA X g W [a, b] f) (hps : PS X (.Assign [.Tuple [.Name x px, .Name y py] kt pt] (.Tuple [a, b] k2 pt2) pos) (tPar i j (tVA X.K g W f))) : VS X g W F0 H0 (.Assign [.Tuple [.Name x px, .Name y py] kt pt] (.Tuple [a, b] k2 pt2) pos) (sPar i j js f) :=
  PS.imp hps fun D σ H ⟨ρ, F, r, q⟩ => by
    refine tG_imp (s_use (js := js) (k := parS i j js ρ) (D := D) r q) ?_
    rintro vs H1 ⟨F1, ds, x, rv, q1⟩
    obtain ⟨F2, r2, le, rv2⟩ := bor_afterL r x rv
    unfold parS at q1
    split at q1
    · cases rv2 with
      | cons ra rt =>
        cases rt with
        | cons rb rn =>
          cases rn
          exact ⟨_, _, rfl, q1 _ _ F2 ((r2.setF ra).setF rb) le⟩
    · exact q1.elim
theorem vs_for {tg iter : Expr} {body : List Stmt} {pos : Pos} {fi : Env → Res (List Dat)} {p : Pat} {b : SEnv → SRes} (js : List Nat) (hp : PassesOwn (model X.prog X.w) X.A X.env X.xe) (hc : X.calm = true) (hi : VI X g W tg iter fi) (hg : VG X g tg p) (hb : VSs X g W F0 H0 body b) (hs : ∀ x, foldedSetIterable iter X.env x = pure x := by intro _; rfl) :
    VS X g W F0 H0 (.For tg iter body [] pos) (sFor js fi p b) :=
  PS.imp (ps_for (g := gP X.K g p) hp hc hi hg hb hs) fun D σ H ⟨ρ, F, r, q⟩ => by
    refine tG_imp (s_use (js := js) (k := fun ds => forD p b ds (freeze js ρ)) r q) ?_
    rintro J H1 ⟨F1, ds, x, it, q1⟩
    have r1 := bor_freeze r x
    refine ⟨fun i m σ H => m = ds.length - i ∧ i ≤ ds.length ∧ ∃ ρ F, Same F1 F ∧ SRel X.K g F0 H0 F H σ ρ ∧ SPost X.K g W D F0 H0 F (forD p b (ds.drop i) ρ), ⟨ds.length, by simp, Nat.zero_le _, freeze js ρ, F1, Same.refl _, r1, SPost.mono (bor_le r x) q1⟩, ?_⟩
    rintro i m σ2 H2 ⟨rfl, hi, ρ2, F2, le2, r2, p2⟩
    obtain ⟨go, stop⟩ := it i F2 H2 le2 r2.sub
    by_cases hlt : i < ds.length
    · right
      obtain ⟨d, hd⟩ : ∃ d, ds[i]? = some d := ⟨ds[i], by simp [hlt]⟩
      obtain ⟨g1, g2⟩ := go d hd
      have hdrop : ds.drop i = d :: ds.drop (i + 1) := by
        rw [List.drop_eq_getElem_cons hlt]
        congr 1
        have := List.getElem?_eq_getElem hlt
        rw [this] at hd
        exact Option.some.inj hd
      rw [hdrop] at p2
      unfold forD at p2
      refine ⟨g1, fun σ' H' => i + 1 ≤ ds.length ∧ ∃ ρ F, Same F1 F ∧ SRel X.K g F0 H0 F H' σ' ρ ∧ SPost X.K g W D F0 H0 F (forD p b (ds.drop (i + 1)) ρ), fun σ' H' hn => ⟨ds.length - (i + 1), by omega, rfl, hn.1, hn.2⟩, fun x3 H3 y => ?_⟩
      obtain ⟨F3, x4, rx⟩ := g2 x3 H3 y
      cases eb : bindU p d with
      | none => rw [eb] at p2; exact p2.elim
      | some us =>
        rw [eb] at p2
        dsimp only at p2
        have r3 : SRel X.K g F0 H0 F3 H3 σ2 ρ2 := by
          have le : Same F2 F3 := x4.le r2.sub
          refine ⟨x4.tabs r2.tabs, fun a ps e => r2.nt a ps (x4.nt a ps e), r2.ext.trans x4, r2.len, fun j e h => let ⟨v, h1, h2⟩ := r2.frz j e h; ⟨v, h1, h2.mono le⟩, fun j es h => ?_, r2.sep⟩
          obtain ⟨a, vs, h1, h2, h3, h4, h5⟩ := r2.own j es h
          exact ⟨a, vs, h1, x4.keep a _ h2 (by intro ps z; cases z), by rw [x4.old a (by rw [h2]; simp)]; exact h3, h4, h5.mono le⟩
        refine ⟨F3, d, us, r3.sub, rx, eb, fun ws k1 k2 => ⟨_, F3, srel_sets r3 k1 k2, ?_⟩⟩
        have le3 : Same F1 F3 := le2.trans (x4.le r2.sub)
        cases ebd : b (setS ρ2 us) with
        | next ρ' => rw [ebd] at p2; exact fun σ' H' F' r' le' => ⟨hlt, ρ', F', le3.trans le', r', SPost.mono ((x4.le r2.sub).trans le') p2⟩
        | cont ρ' => rw [ebd] at p2; exact fun σ' H' F' r' le' => ⟨hlt, ρ', F', le3.trans le', r', SPost.mono ((x4.le r2.sub).trans le') p2⟩
        | brk ρ' => rw [ebd] at p2; exact fun σ' H' F' r' le' => p2 σ' H' F' r' ((x4.le r2.sub).trans le')
        | ret d => rw [ebd] at p2; exact p2
        | exc c => rw [ebd] at p2; exact p2
        | stuck => rw [ebd] at p2; exact p2
    · left
      have e : i = ds.length := by omega
      refine ⟨stop (by omega), ?_⟩
      rw [e, List.drop_length] at p2
      exact p2 σ2 H2 F2 r2 (Same.refl _)
theorem vs_while (n : Nat) {c : Expr} {body : List Stmt} {pos : Pos} {t : Env → Res Bool} {b : SEnv → SRes} (js : List Nat) (hp : PassesOwn (model X.prog X.w) X.A X.env X.xe) (hc : VT X g W c t) (hb : VSs X g W F0 H0 body b) : VS X g W F0 H0 (.While c body [] pos) (sWhile n js t b) :=
  PS.imp (ps_while hp hc hb) fun D σ H ⟨ρ, F, r, q⟩ => by
    refine ⟨fun m σ H => ∃ ρ F, SRel X.K g F0 H0 F H σ ρ ∧ SPost X.K g W D F0 H0 F (whileD js t b m ρ), ⟨n, ρ, F, r, q⟩, ?_⟩
    rintro m σ2 H2 ⟨ρ2, F2, r2, p2⟩
    cases m with
    | zero => exact p2.elim
    | succ m =>
      unfold whileD at p2
      refine tG_imp (s_use (js := js) (k := fun k => if k = true then (b ρ2).turn (whileD js t b m) else .next ρ2) (D := D) r2 p2) ?_
      rintro k H3 ⟨F3, k', x, e, p3⟩
      subst e
      have r3 := bor_unb r2 x
      have le := unb_le r2 x
      cases k with
      | false => rw [if_neg (by decide)] at p3 ⊢; exact p3 _ _ _ r3 le
      | true =>
        rw [if_pos rfl] at p3 ⊢
        refine ⟨fun σ' H' => ∃ ρ F, SRel X.K g F0 H0 F H' σ' ρ ∧ SPost X.K g W D F0 H0 F (whileD js t b m ρ), fun σ' H' h => ⟨m, Nat.lt_succ_self _, h⟩, ρ2, _, r3, ?_⟩
        cases ebd : b ρ2 with
        | next ρ' => rw [ebd] at p3; exact fun σ' H' F' r' le' => ⟨ρ', F', r', SPost.mono (le.trans le') p3⟩
        | cont ρ' => rw [ebd] at p3; exact fun σ' H' F' r' le' => ⟨ρ', F', r', SPost.mono (le.trans le') p3⟩
        | brk ρ' => rw [ebd] at p3; exact fun σ' H' F' r' le' => p3 σ' H' F' r' (le.trans le')
        | ret d => rw [ebd] at p3; exact p3
        | exc c => rw [ebd] at p3; exact p3
        | stuck => rw [ebd] at p3; exact p3
theorem SRel.put {K : PySem.W.Frag} {F H : Hp} {σ : St} {ρ : SEnv} {i : Nat} {a : Addr} {vs ws : List V} {ds es : List Dat} (r : SRel K g F0 H0 F H σ ρ) (ho : ρ[i]? = some (some (.own ds))) (hs : σ[i]? = some (some (.ref a))) (ha : H a = some (.lst vs)) (hF : F a = none) (h0 : H0 a = none) (rw' : Reps K g F ws es) : SRel K g F0 H0 F (upd H a (.lst ws)) σ (ρ.set i (some (.own es))) := by
  have x3 := r.ext.put (ys := ws) h0 hF ha
  refine ⟨tabs_upd r.tabs ha, r.nt, x3, by simp [r.len], fun j e h => ?_, fun j fs h => ?_, fun j k fs hs' p h1 h2 h3 h4 => ?_⟩
  · by_cases z : i = j
    · subst z
      rw [List.getElem?_set_self (List.getElem?_eq_some_iff.mp ho).1] at h; cases h
    · rw [List.getElem?_set_ne z] at h
      exact r.frz j e h
  · by_cases z : i = j
    · subst z
      rw [List.getElem?_set_self (List.getElem?_eq_some_iff.mp ho).1] at h
      cases h
      exact ⟨a, ws, hs, upd_same, hF, h0, rw'⟩
    · rw [List.getElem?_set_ne z] at h
      obtain ⟨b, us, k1, k2, k3, k4, k5⟩ := r.own j fs h
      have ne : b ≠ a := fun q => z (r.sep i j ds fs a ho h hs (by rw [← q]; exact k1))
      exact ⟨b, us, k1, by rw [upd_ne ne]; exact k2, k3, k4, k5⟩
  · have back : ∀ {j : Nat} {fs : List Dat}, (ρ.set i (some (.own es)))[j]? = some (some (.own fs)) → ∃ fs', ρ[j]? = some (some (.own fs')) := fun {j fs} h => by
      by_cases z : i = j
      · subst z; exact ⟨ds, ho⟩
      · rw [List.getElem?_set_ne z] at h; exact ⟨fs, h⟩
    obtain ⟨_, b1⟩ := back h1
    obtain ⟨_, b2⟩ := back h2
    exact r.sep j k _ _ p b1 b2 h3 h4
theorem after_own {js : List Nat} {ρ : SEnv} {d : Dat} {i : Nat} {ds : List Dat} (h : (after js ρ d)[i]? = some (some (.own ds))) : ρ[i]? = some (some (.own ds)) := by
  unfold after at h
  by_cases n : noL d = true
  · rw [if_pos n] at h; exact h
  · rw [if_neg n, freeze_get] at h
    cases q : ρ[i]? with
    | none => rw [q] at h; cases h
    | some s =>
      rw [q] at h
      cases s with
      | none => cases h
      | some s =>
        cases s with
        | frz d' => cases h
        | own ds' =>
          have e' : (if i ∈ js then some (Slot.frz (.lst ds')) else some (.own ds')) = some (.own ds) := Option.some.inj h
          by_cases hi : i ∈ js
          · rw [if_pos hi] at e'; cases e'
          · rw [if_neg hi] at e'; cases e'; rfl
theorem vs_app (i : Nat) {x : Str} {e : Expr} {p0 apos cpos pos : Pos} {f : Env → Res Dat} (js : List Nat) (he : VE X g W e f) (hps : PS X (.Expr (.Call (.Attribute (.Name x p0) "append" apos) [e] [] cpos) pos) (tDrop (tBM X.K "list" rAppend (tVar i) (tCons (tV X.K g W f) tNil)))) :
    VS X g W F0 H0 (.Expr (.Call (.Attribute (.Name x p0) "append" apos) [e] [] cpos) pos) (sApp i js f) :=
  PS.imp hps fun D σ H ⟨ρ, F, r, q⟩ => by
    unfold sApp at q
    cases e0 : ρ[i]? with
    | none => rw [e0] at q; exact q.elim
    | some s0 =>
      cases s0 with
      | none => rw [e0] at q; exact q.elim
      | some s0 =>
        cases s0 with
        | frz _ => rw [e0] at q; exact q.elim
        | own ds0 =>
          rw [e0] at q
          dsimp only at q
          obtain ⟨a, vs0, h1, h2, h3, h4, h5⟩ := r.own i ds0 e0
          refine ⟨.ref a, h1, .inl ⟨rfl, _, SqL.of h2⟩, ?_⟩
          refine tG_imp (s_use (js := js) (k := fun d => appS i d (after js ρ d)) r q) ?_
          rintro v H1 ⟨F1, d, x1, rv, q1⟩
          obtain ⟨F2, r2, le, rv2⟩ := bor_after r x1 rv
          unfold appS at q1
          cases e2 : (after js ρ d)[i]? with
          | none => rw [e2] at q1; exact q1.elim
          | some s =>
            cases s with
            | none => rw [e2] at q1; exact q1.elim
            | some s =>
              cases s with
              | frz _ => rw [e2] at q1; exact q1.elim
              | own ds =>
                rw [e2] at q1
                dsimp only at q1
                by_cases hl : ds.length < big
                case neg => rw [if_neg hl] at q1; exact q1.elim
                rw [if_pos hl] at q1
                obtain ⟨a', vs, k1, k2, k3, k4, k5⟩ := r2.own i ds e2
                rw [h1] at k1
                cases k1
                refine ⟨a, vs, v, rfl, rfl, k2, by rw [k5.length]; exact Nat.lt_of_lt_of_le hl big_le, ?_⟩
                exact q1 _ _ F2 (r2.put e2 h1 k2 k3 k4 (k5.snoc rv2)) le
end
end VL

/-! VL7: a def by its body; raise. -/
namespace VL
open PySem PySem.Spec PyProof.Rows L2

def retOf : SRes → Res Dat
  | .next _ => .ok .non
  | .ret d => .ok d
  | .exc c => .exc c
  | _ => .stuck
def startS (n : Nat) (ds : List Dat) : SEnv := ds.map (fun d => some (Slot.frz d)) ++ List.replicate (n - ds.length) none
def defD (n l : Nat) (b : SEnv → SRes) : List Dat → Res Dat := fun ds => if ds.length = n then retOf (b (startS l ds)) else .stuck
section
variable {P : Program} {w : World} {K : PySem.W.Frag} {mg : Str → Option Value} {base : Heap} {g : Glob}
theorem start_rel {F H : Hp} {vs : List V} {ds : List Dat} {N : List Str} (s : Same F H) (t : LamX.Tabs g.tabs H) (n : ∀ a ps, F a ≠ some (.tbl ps)) (r : Reps K g F vs ds) : SRel K g F H F H (start N vs) (startS N.length ds) := by
  have hl := r.length
  refine ⟨t, n, Ext.refl s, by unfold L2.start startS; simp [hl], fun i d e => ?_, fun i es e => ?_, fun i j es es' p h1 => ?_⟩
  · unfold startS at e
    by_cases h : i < ds.length
    · rw [List.getElem?_append_left (by simpa using h), List.getElem?_map] at e
      cases q : ds[i]? with
      | none => rw [q] at e; cases e
      | some d' =>
        rw [q] at e
        cases e
        obtain ⟨v, h1, h2⟩ := r.get q
        refine ⟨v, ?_, h2⟩
        unfold L2.start
        rw [List.getElem?_append_left (by simpa [hl] using h), List.getElem?_map, h1]; rfl
    · rw [List.getElem?_append_right (by simpa using h), List.getElem?_replicate] at e
      split at e <;> cases e
  · unfold startS at e
    by_cases h : i < ds.length
    · rw [List.getElem?_append_left (by simpa using h), List.getElem?_map] at e
      cases q : ds[i]? with
      | none => rw [q] at e; cases e
      | some d' => rw [q] at e; cases e
    · rw [List.getElem?_append_right (by simpa using h), List.getElem?_replicate] at e
      split at e <;> cases e
  · unfold startS at h1
    by_cases h : i < ds.length
    · rw [List.getElem?_append_left (by simpa using h), List.getElem?_map] at h1
      cases q : ds[i]? with
      | none => rw [q] at h1; cases h1
      | some d' => rw [q] at h1; cases h1
    · rw [List.getElem?_append_right (by simpa using h), List.getElem?_replicate] at h1
      split at h1 <;> cases h1
theorem fn_ok {x qual : Str} {st : Stmt} {f : Addr} {fd : FuncData} {N ps : List Str} {k : Nat} {b : SEnv → SRes} (F : Fun K x qual st f fd) (S : FnScope N ps (defScope st))
    (hb : ∀ (cdv : Value) (A : Around) (outer : List PySem.Env) (s : Shared) (H : Hp) (E : XK) (F0 : Hp), fd.code = cdv → Room k (A.deeper (envOfC qual (defScope st) s.heap.objs.size f cdv)) →
      VSs (cxOf (L2N.CX P w) P w K mg base N qual (defScope st) f cdv A outer s H E) g (fun cls d _ H' => E cls d H') F0 H (defBody st) b) : FnOk P w K mg base (L2N.CX P w) (k + 1) f fd ps (spV K g (defD ps.length N.length b)) := by
  obtain ⟨oc, od, kV, doc, pm, an, cdv, ct, osl, rfl, lk, hcd⟩ := F.ex
  have key : ∀ vs H Q E, spV K g (defD ps.length N.length b) vs H Q E → ∃ F ds, Same F H ∧ LamX.Tabs g.tabs H ∧ (∀ a ps, F a ≠ some (.tbl ps)) ∧ Reps K g F vs ds ∧ ds.length = ps.length ∧ PostG g (Rep K g) (fun cls d _ H' => E cls d H') [] F H (retOf (b (startS N.length ds))) Q := by
    rintro vs H Q E ⟨F, ds, h1, h2, hn, h3, h4⟩
    unfold defD at h4
    by_cases e : ds.length = ps.length
    · rw [if_pos e] at h4; exact ⟨F, ds, h1, h2, hn, h3, e, h4⟩
    · rw [if_neg e] at h4; exact h4.elim
  refine fn_of lk hcd S (fun vs H Q E h => ?_) fun A outer s H vs Q E hr hsp => ?_
  · obtain ⟨F, ds, _, _, _, h3, h4, _⟩ := key vs H Q E h
    rw [h3.length]; exact h4
  · obtain ⟨F0, ds, h1, h2, hn, h3, h4, h5⟩ := key vs H Q E hsp
    refine ⟨_, hb cdv A outer s H E F0 rfl hr, startS N.length ds, F0, start_rel h1 h2 hn h3, ?_⟩
    cases e : b (startS N.length ds) with
    | next ρ' => rw [e] at h5; exact fun σ' H' F' r' _ => h5 .non H' F' r'.ext .non
    | ret d => rw [e] at h5; exact h5
    | exc c => rw [e] at h5; exact fun σ' H' F' x => h5 H' F' x
    | brk ρ' => rw [e] at h5; exact h5.elim
    | cont ρ' => rw [e] at h5; exact h5.elim
    | stuck => rw [e] at h5; exact h5.elim
end

/-! ### raise X('..') -/
/-- what the written part says of a class of errors -/
structure ExcT (K : PySem.W.Frag) (mg : Str → Option Value) (g : Glob) (bm : List Value) (x : Str) : Prop where
  gC : mg x = some (.ref (g.cls x))
  xC : PySem.W.excIn K (g.cls x) bm "ValueError.__new__" = true
  kC : PySem.W.keepIn K (.ref (g.cls x)) = true
  bC : PySem.W.subIn K (.ref (g.cls x)) (.type "BaseException") = some true
  tC : PySem.W.typeIn K (.ref (g.cls x)) = some (.type "type")
section
variable {X : Cx} {g : Glob} {W : WX} {F0 H0 : Hp}
theorem vs_raise {x m : Str} {j : Nat} {p p2 pos pos2 : Pos} (T : ExcT X.K X.mg g [.type "ValueError", .type "Exception", .type "BaseException", .type "object"] x) (hc : X.calm = true) (tk : L2N.Takes X W) (hg : Gl X x := by rfl) (hdb : (x == ("__debug__" : Str)) = false := by decide) :
    VS X g W F0 H0 (.Raise (some (.Call (.Name x p) [.Constant (.str m) j p2] [] pos)) none pos2) (sRaise x) :=
  PS.imp (L2N.ps_raise hc tk (L2N.pmk_own PySem.F.excBase_ValueError T.xC T.gC T.kC (raises_own T.bC T.tC) hg hdb)) fun D σ H ⟨ρ, F, r, p⟩ => p σ H F r.ext
end

/-! ### short words for the printed terms -/
section
variable {X : Cx} {g : Glob} {W : WX} {F0 H0 : Hp}
theorem tk0 : L2N.Takes X W0 := fun _ _ x => by
  obtain ⟨_, _, _, _, _, _, _, _, _, _, _, _, _, _, _, _, z⟩ := x
  exact z.elim
theorem vs_app2 (i : Nat) {x : Str} {e : Expr} {p0 apos cpos pos : Pos} {f : Env → Res Dat} (js : List Nat) (he : VE X g W e f) (hN : X.N[i]? = some x := by rfl) (hv : Vis X.env.scope x := by first | exact Or.inl rfl | exact Or.inr (Or.inl rfl) | exact Or.inr (Or.inr rfl)) (hd : (x == ("__debug__" : Str)) = false := by decide) (hcd : (x == ("__classdict__" : Str)) = false := by decide)
    (hfew : ((backTo cpos (starEach [e] X.env)).all (fun x => !x.1) && (backToKw cpos (keywordEach [] X.env)).all (fun x => x.1.isSome) && decide (([e]).length + ([] : List Keyword).length + (if ([] : List Keyword).isEmpty then 0 else 1) < 30)) = true := by rfl)
    (hline : (apos.endLine == cpos.line) = true := by rfl) (hs1 : starEach [e] X.env = (false, eval e X.env) :: starEach [] X.env := by rfl) (hs : swapsWith (.Call (.Attribute (.Name x p0) "append" apos) [e] [] cpos) none pos.line X.env = pure false := by rfl) :
    VS X g W F0 H0 (.Expr (.Call (.Attribute (.Name x p0) "append" apos) [e] [] cpos) pos) (sApp i js f) :=
  vs_app i js he (ps_expr (pe_bm PySem.F.plainAttrs_list PySem.F.slot_list_append PySem.F.type_list_append mt_append (pe_var hN hv hd hcd) (pa_cons he pa_nil hs1) rfl hfew hline hs1 rfl) hs)
theorem vs_par2 (i j : Nat) {x y : Str} {a b : Expr} {px py pt pos : Pos} {kt k2 pt2} {f : Env → Res (List Dat)} (js : List Nat) (hc : X.calm = true) (hN : X.N.Nodup) (ha : VA X g W [a, b] f) (hi : X.N[i]? = some x := by rfl) (hj : X.N[j]? = some y := by rfl) (hij : i ≠ j := by decide)
    (hx : X.env.scope.names.lookup x = some .local := by rfl) (hy : X.env.scope.names.lookup y = some .local := by rfl) (hw : swappedStores [.Tuple [.Name x px, .Name y py] kt pt] (.Tuple [a, b] k2 pt2) X.env = pure (some [x, y]) := by rfl)
    (hs : swapsWithSole [.Tuple [.Name x px, .Name y py] kt pt] (.Tuple [a, b] k2 pt2) pos.line X.env = pure false := by rfl) : VS X g W F0 H0 (.Assign [.Tuple [.Name x px, .Name y py] kt pt] (.Tuple [a, b] k2 pt2) pos) (sPar i j js f) :=
  vs_par i j js ha (ps_par hc hN hi hj hij hx hy ha hw hs)
theorem vs_bind2 {tg e : Expr} {pos : Pos} {p : Pat} {f : Env → Res Dat} (js : List Nat) (he : VE X g W e f) (hg : VG X g tg p) (hs : swapsWithSole [tg] e pos.line X.env = pure false := by rfl) (hw : swappedStores [tg] e X.env = pure none := by rfl) (hps : ∀ (h1 : PE X e (tV X.K g W f)) (h2 : PG X tg (gP X.K g p)), PS X (.Assign [tg] e pos) (tAsg (tV X.K g W f) (gP X.K g p)) := by exact fun h1 h2 => ps_asg h1 h2) :
    VS X g W F0 H0 (.Assign [tg] e pos) (sBind p js f) := vs_bind js he hg hs hw hps
theorem test_of {f : Env → Res Dat} {t : TE} {K : PySem.W.Frag} {σ : St} {H : Hp} {Q : Bool → Hp → Prop} (i : ∀ Q', tV K g W f σ H Q' → t σ H Q') (h : tVT K g W (eTest f) σ H Q) : tTest t σ H Q := by
  refine i _ ?_
  obtain ⟨ρ, F, s, p⟩ := h
  refine ⟨ρ, F, s, (PostG.bind s p).imp fun x H1 ⟨F1, a, s1, ra, x1, p1⟩ => ?_⟩
  obtain ⟨c, e1, _, p2⟩ := rep_bool' ra p1
  exact ⟨c, e1, PostG.here s1.sub p2 rfl⟩
theorem vt_cmp {a b : Expr} {op : CmpOp} {pos : Pos} {opd : Dat → Dat → Res Dat} {r : R2} {f h : Env → Res Dat} (ho : OpR X (compareOp op) r) (hd : OpD X g W opd r) (ha : VE X g W a f) (hb : VE X g W b h) (hm : behindInMarks op b = false) : VT X g W (.Compare a [op] [b] pos) (eTest (eBin opd f h)) :=
  PT.imp (pt_cmpR ho ha hb hm) fun σ H Q h => test_of (fun _ q => tOp_of hd q) h
theorem vt_lt {a b : Expr} {pos : Pos} {f h : Env → Res Dat} (ha : VE X g W a f) (hb : VE X g W b h) : VT X g W (.Compare a [.Lt] [b] pos) (eTest (eBin ltD f h)) := vt_cmp op_ltA opd_lt ha hb (nomark _)
theorem vt_le {a b : Expr} {pos : Pos} {f h : Env → Res Dat} (ha : VE X g W a f) (hb : VE X g W b h) : VT X g W (.Compare a [.LtE] [b] pos) (eTest (eBin leD f h)) := vt_cmp op_leA opd_le ha hb (nomark _)
theorem vt_gt {a b : Expr} {pos : Pos} {f h : Env → Res Dat} (ha : VE X g W a f) (hb : VE X g W b h) : VT X g W (.Compare a [.Gt] [b] pos) (eTest (eBin gtD f h)) := vt_cmp op_gt opd_gt ha hb (nomark _)
theorem vt_ge {a b : Expr} {pos : Pos} {f h : Env → Res Dat} (ha : VE X g W a f) (hb : VE X g W b h) : VT X g W (.Compare a [.GtE] [b] pos) (eTest (eBin geD f h)) := vt_cmp op_ge opd_ge ha hb (nomark _)
theorem vt_eq {k : Nat} {a b : Expr} {pos : Pos} {f h : Env → Res Dat} (hr : Room k X.A) (ha : VE X g W a f) (hb : VE X g W b h) : VT X g W (.Compare a [.Eq] [b] pos) (eTest (eBin eqD f h)) := vt_cmp (op_eqA hr.units) opd_eq ha hb (nomark _)
theorem vt_ne {k : Nat} {a b : Expr} {pos : Pos} {f h : Env → Res Dat} (hr : Room k X.A) (ha : VE X g W a f) (hb : VE X g W b h) : VT X g W (.Compare a [.NotEq] [b] pos) (eTest (eBin neD f h)) := vt_cmp (op_neA hr.units) opd_ne ha hb (nomark _)
theorem vt_in {k : Nat} {a b : Expr} {pos : Pos} {f h : Env → Res Dat} (hr : Room k X.A) (ha : VE X g W a f) (hb : VE X g W b h) (hm : behindInMarks .In b = false := by rfl) : VT X g W (.Compare a [.In] [b] pos) (eTest (eBin inD f h)) := vt_cmp (op_inA hr) opd_in ha hb hm
theorem vt_notIn {k : Nat} {a b : Expr} {pos : Pos} {f h : Env → Res Dat} (hr : Room k X.A) (ha : VE X g W a f) (hb : VE X g W b h) (hm : behindInMarks .NotIn b = false := by rfl) : VT X g W (.Compare a [.NotIn] [b] pos) (eTest (eBin notInD f h)) := vt_cmp (op_notInA hr) opd_notIn ha hb hm
theorem vt_isN {a : Expr} {j} {pos pos' : Pos} {f : Env → Res Dat} (ha : VE X g W a f) : VT X g W (.Compare a [.Is] [.Constant .none j pos'] pos) (eTest (eUn isND f)) :=
  PT.imp (pt_cmp (pc_isN ha)) fun σ H Q ⟨ρ, F, s, p⟩ => ⟨ρ, F, s, by
    have p' : PostG g (fun _ b a => b = a) W σ F H ((f ρ).bind fun a => (isND a).bind toB) Q := by rw [← Res.bind_assoc]; exact p
    exact (PostG.bind s p').imp fun x H1 ⟨F1, a, s1, ra, x1, p1⟩ => ⟨_, rfl, by cases ra <;> exact PostG.here s1.sub p1 rfl⟩⟩
theorem vt_notN {a : Expr} {j} {pos pos' : Pos} {f : Env → Res Dat} (ha : VE X g W a f) : VT X g W (.Compare a [.IsNot] [.Constant .none j pos'] pos) (eTest (eUn notND f)) :=
  PT.imp (pt_cmp (pc_notN ha)) fun σ H Q ⟨ρ, F, s, p⟩ => ⟨ρ, F, s, by
    have p' : PostG g (fun _ b a => b = a) W σ F H ((f ρ).bind fun a => (notND a).bind toB) Q := by rw [← Res.bind_assoc]; exact p
    exact (PostG.bind s p').imp fun x H1 ⟨F1, a, s1, ra, x1, p1⟩ => ⟨_, rfl, by cases ra <;> exact PostG.here s1.sub p1 rfl⟩⟩
/-- a chain as a test -/
theorem vt_chain {a b c : Expr} {op op' : CmpOp} {pos : Pos} {o1 o2 : Dat → Dat → Res Dat} {r r' : R2} {f h l : Env → Res Dat} (ho : OpR X (compareOp op) r) (ho' : OpR X (compareOp op') r') (h1 : OpD X g W o1 r) (h2 : OpD X g W o2 r') (ha : VE X g W a f) (hb : VE X g W b h) (hc : VE X g W c l) (hm : lastMarks [op, op'] [b, c] = false) : VT X g W (.Compare a [op, op'] [b, c] pos) (eTest (eChain o1 o2 f h l)) :=
  PT.imp (pt_chain ho ho' ha hb hc hm) fun σ H Q ⟨ρ, F, s, p⟩ => tChain_of h1 h2 ⟨ρ, F, s, (PostG.bind s p).imp fun x H1 ⟨F1, a, s1, ra, x1, p1⟩ => by
    obtain ⟨c, e1, _, p2⟩ := rep_bool' ra p1
    exact ⟨c, e1, PostG.here s1.sub p2 rfl⟩⟩
theorem vt_lele {a b c : Expr} {pos : Pos} {f h l : Env → Res Dat} (ha : VE X g W a f) (hb : VE X g W b h) (hc : VE X g W c l) (hm : lastMarks [.LtE, .LtE] [b, c] = false := by with_unfolding_all rfl) : VT X g W (.Compare a [.LtE, .LtE] [b, c] pos) (eTest (eChain leD leD f h l)) := vt_chain op_leA op_leA opd_le opd_le ha hb hc hm
theorem vt_ltle {a b c : Expr} {pos : Pos} {f h l : Env → Res Dat} (ha : VE X g W a f) (hb : VE X g W b h) (hc : VE X g W c l) (hm : lastMarks [.Lt, .LtE] [b, c] = false := by with_unfolding_all rfl) : VT X g W (.Compare a [.Lt, .LtE] [b, c] pos) (eTest (eChain ltD leD f h l)) := vt_chain op_ltA op_leA opd_lt opd_le ha hb hc hm
theorem vt_ltlt {a b c : Expr} {pos : Pos} {f h l : Env → Res Dat} (ha : VE X g W a f) (hb : VE X g W b h) (hc : VE X g W c l) (hm : lastMarks [.Lt, .Lt] [b, c] = false := by with_unfolding_all rfl) : VT X g W (.Compare a [.Lt, .Lt] [b, c] pos) (eTest (eChain ltD ltD f h l)) := vt_chain op_ltA op_ltA opd_lt opd_lt ha hb hc hm
theorem ve_ltle {a b c : Expr} {pos : Pos} {f h l : Env → Res Dat} (ha : VE X g W a f) (hb : VE X g W b h) (hc : VE X g W c l) (hm : lastMarks [.Lt, .LtE] [b, c] = false := by with_unfolding_all rfl) : VE X g W (.Compare a [.Lt, .LtE] [b, c] pos) (eChain ltD leD f h l) :=
  PE.imp (pe_chain op_ltA op_leA ha hb hc hm) fun _ _ _ q => tChain_of opd_lt opd_le q
theorem ve_ltlt {a b c : Expr} {pos : Pos} {f h l : Env → Res Dat} (ha : VE X g W a f) (hb : VE X g W b h) (hc : VE X g W c l) (hm : lastMarks [.Lt, .Lt] [b, c] = false := by with_unfolding_all rfl) : VE X g W (.Compare a [.Lt, .Lt] [b, c] pos) (eChain ltD ltD f h l) :=
  PE.imp (pe_chain op_ltA op_ltA ha hb hc hm) fun _ _ _ q => tChain_of opd_lt opd_lt q
end
/-! ### texts joined; sets of ints counted -/
def isStrD : Dat → Bool
  | .str _ => true
  | _ => false
def eMth (c : Dat → Bool) (op : Dat → Dat → Res Dat) (f h : Env → Res Dat) : Env → Res Dat := fun ρ => (f ρ).bind fun a => if c a = true then (h ρ).bind fun b => op a b else .stuck
def joinD : Dat → Dat → Res Dat
  | .str a, .lst ds => match strsD ds with
    | some ys => if (ys.map (·.length)).sum + ys.length * a.length ≤ big then .ok (.str (Txt.join a ys)) else .stuck
    | none => .stuck
  | _, _ => .stuck
def lenSetD : Dat → Res Dat
  | .lst ds => match intsD ds with
    | some ns => if ns.Nodup ∧ ns.length ≤ 4000 then .ok (.int (ns.length : Nat)) else .stuck
    | none => .stuck
  | _ => .stuck
section
variable {X : Cx} {g : Glob} {W : WX}
theorem ve_join {o e : Expr} {apos pos : Pos} {f h : Env → Res Dat} (ho : VE X g W o f) (he : VE X g W e h) (hs : starEach [e] X.env = [(false, eval e X.env)] := by rfl) (hbase : attributeBase o "join" X.env (eval o X.env) = eval o X.env := by rfl) (hline : (apos.endLine == pos.line) = true := by rfl) : VE X g W (.Call (.Attribute o "join" apos) [e] [] pos) (eMth isStrD joinD f h) :=
  PE.imp (pe_join ho he hs hbase hline) fun σ H Q ⟨ρ, F, s, p⟩ => ⟨ρ, F, s, (PostG.bind s p).imp fun x H1 ⟨F1, a, s1, ra, x1, p1⟩ => by
    cases ra with
    | str z =>
      rw [if_pos (by rfl)] at p1
      refine ⟨⟨z, rfl⟩, ρ, F1, s1, (PostG.bind s1 p1).imp fun y H2 ⟨F2, b, s2, rb, x2, p2⟩ => ?_⟩
      cases rb with
      | @lst aa xs ds hl rs =>
        dsimp only [joinD] at p2
        cases e : strsD ds with
        | none => rw [e] at p2; exact p2.elim
        | some ys =>
          rw [e] at p2
          have e2 := reps_strs rs e
          subst e2
          by_cases hb : (ys.map (·.length)).sum + ys.length * z.length ≤ big
          · simp only [if_pos hb] at p2
            exact ⟨z, aa, ys, rfl, rfl, .inl (SqL.of (s2.sub _ _ hl)), Nat.le_trans hb (by decide), PostG.here s2.sub p2 (.str _)⟩
          · simp only [if_neg hb] at p2; exact p2.elim
      | _ => exact p2.elim
    | _ => exact p1.elim⟩
theorem ve_lenSet {a : Expr} {p p2 q pos : Pos} {f : Env → Res Dat} (hm : X.mg "len" = none) (hm2 : X.mg "set" = none) (ha : VE X g W a f) (hc : X.calm = true := by rfl) (hg : Gl X "len" := by rfl) (hg2 : Gl X "set" := by rfl) (na : starEach [a] X.env = (false, eval a X.env) :: starEach [] X.env := by rfl) : VE X g W (.Call (.Name "len" p) [.Call (.Name "set" p2) [a] [] q] [] pos) (eUn lenSetD f) :=
  PE.imp (RZ.pe_lenSetI hg hm hg2 hm2 ha hc na) fun σ H Q ⟨ρ, F, s, p⟩ => ⟨ρ, F, s, (PostG.bind s p).imp fun x H1 ⟨F1, a, s1, ra, x1, p1⟩ => by
    cases ra with
    | @lst aa xs ds ha rs =>
      dsimp only [lenSetD] at p1
      cases e : intsD ds with
      | none => rw [e] at p1; exact p1.elim
      | some ns =>
        rw [e] at p1
        have e2 := reps_ints rs e
        subst e2
        by_cases h : ns.Nodup ∧ ns.length ≤ 4000
        · simp only [if_pos h] at p1
          exact ⟨aa, ns, rfl, SqL.of (s1.sub _ _ ha), h.1, h.2, PostG.here s1.sub p1 (.int _)⟩
        · simp only [if_neg h] at p1; exact p1.elim
    | _ => exact p1.elim⟩
end
end VL

/-! VL8: while an error is handled: a list walked to its end, sums, comprehensions. -/
namespace VL
open PySem PySem.Spec PyProof.Rows L2 L2H HotX

section
variable {prog : Program} {w : World} {A : Around} {E : Value → Shared → Prop} {s : Shared}
/-- the end of a list's walk, an error at x1 being handled -/
theorem next_end_hot {it l x1 : Addr} {i : Nat} {items : Array Value} {Q : Option Value → Shared → Prop} (hot : HotAt A x1 s.heap) (hne : x1 ≠ it) (hit : s.heap.IsListIter it l i) (hl : s.heap.IsList l items) (hx : items[i]? = none)
    (hQ : ∀ h', Heap.ExtBut it s.heap h' → Q none { s with heap := h' }) : wpAny (model prog w) A (pyNext (.ref it)) Q E s := by
  obtain ⟨o, ho, hc, hd⟩ := id hit
  obtain ⟨ol, hol, _, nl, hdl⟩ := hl
  obtain ⟨hh, oh, vh, g1, g2, g3⟩ := hot
  unfold pyNext
  refine wpAny_bind (wpAny_attempt (wpAny_callSpecial?_slot (name := Str.ofString "__next__") hit.typeIs slot_listiter_next (wpAny_call_entry slot_listiter_next hit.typeIs entry_listiter_next ?_ (args_listiter_next _))))
  show wpAny _ _ (field (.ref it) 0 >>= _) _ _ s
  refine wpAny_bind (wpAny_field ho hd (x := .ref l) rfl ?_)
  show wpAny _ _ (if (Value.ref l == Value.none) = true then _ else _) _ _ s
  rw [if_neg (show ¬ ((Value.ref l == Value.none) = true) from Bool.false_ne_true)]
  show wpAny _ _ (field (.ref it) 1 >>= _) _ _ s
  refine wpAny_bind (wpAny_field ho hd (x := .int i 0) rfl ?_)
  show wpAny _ _ (seqItems? (.ref l) >>= _) _ _ s
  refine wpAny_bind (wpAny_seqItems hol hdl ?_)
  simp only [Int.toNat_natCast, hx]
  refine wpAny_bind (wpAny_rule (wpAny_bind (wpAny_setField ho hd (by simp) ?_)))
  show wpAny _ _ (newExc (.type "StopIteration") [] >>= _) _ _ _
  refine wpAny_bind ?_
  simp only [newExc, newTuple]
  refine wpAny_bind (wpAny_newObj_type ?_ (by size_fits))
  refine wpAny_bind (m := firstArgMember _ _) (wpAny_of_eq (a := Value.none) (by first | rfl | (simp only [firstArgMember]; rfl)) ?_)
  refine wpAny_newObj_type ?_ (by size_fits)
  have kept : ∀ (f : Obj → Obj) (n : Obj) b u, b ≠ it → s.heap.get? b = some u → ((s.heap.update it f).push n).get? b = some u := fun f n b u hb e => Heap.get?_push_of_some _ ((Heap.SameBut.update ..).extBut b u hb e)
  refine raiseNew_hot ⟨hh, oh, vh, Heap.get?_push_of_some _ (kept _ _ x1 oh hne g1), g2, g3⟩ (Nat.ne_of_lt (Heap.lt_size (kept _ _ x1 oh hne g1))) (Heap.get?_push_size _ rfl) rfl (by first | (simp; done) | (simp; omega) | (simp only [Array.size_append]; simp; omega)) ?_
  refine wpAny_bind (wpAny_isInstance (T := "StopIteration") (b := true) ⟨_, Heap.get?_update_self _ (Heap.get?_push_size _ rfl) rfl, rfl⟩ isSubtype_stop ?_)
  refine wpAny_pure (hQ _ fun b u hb e => ?_)
  rw [Heap.get?_update_other _ _ (Nat.ne_of_gt (Heap.lt_size (kept _ _ b u hb e)))]
  exact Heap.get?_push_of_some _ (kept _ _ b u hb e)
theorem hot_to {A A' : Around} {x : Addr} {h h' : Heap} (k : HotAt A x h) (e : A'.handled = A.handled) (q : ∀ o, h.get? x = some o → h'.get? x = some o) : HotAt A' x h' := by
  obtain ⟨h1, o, vs, h2, h3, h4⟩ := k
  exact ⟨e.trans h1, o, vs, q o h2, h3, h4⟩
theorem walk_hot {I ax x1 : Addr} (hne : ax ≠ I) (hx : x1 ≠ I) (items : Array Value) :
    Walks prog w A I [I, ax, x1] [I] items.size (fun i v => items[i]? = some v) (fun i h => h.IsListIter I ax i ∧ h.IsList ax items ∧ HotAt A x1 h) where
  sub := fun b hb => by simp at hb; simp [hb]
  frame := fun _ _ _ st hk => ⟨st.1.at fun o e => hk I (by simp) o e, st.2.1.at fun o e => hk ax (by simp) o e, hot_to st.2.2 rfl fun o e => hk x1 (by simp) o e⟩
  item := fun i s Q E hi st hQ => by
    refine wpAny_pyNext_list_item st.1 st.2.1 (x := items[i]) (by simp [hi]) fun h' a b => ?_
    exact hQ _ h' s.toks (by simp [hi]) ⟨a, st.2.1.extBut b.extBut hne, hot_to st.2.2 rfl fun o e => b.extBut x1 o hx e⟩ fun c o hb e => b.extBut c o (fun h => hb (by simp [h])) e
  done := fun s Q E st hQ => next_end_hot st.2.2 hx st.1 st.2.1 (by simp) fun h' a => hQ h' s.toks fun b o hb e => a b o (fun h => hb (by simp [h])) e
  self := fun _ _ _ _ st hQ => wpAny_pyIter_listiter st.1 hQ
/-- sum(xs), an error being handled -/
theorem sum_hot {l x1 : Addr} {its : List Value} {ns : List Int} {Q : Value → Shared → Prop} (hot : HotAt A x1 s.heap) (hl : s.heap.IsList l its.toArray) (hi : IntsAre its ns)
    (h : ∀ h' tk t', (∀ b o, s.heap.get? b = some o → h'.get? b = some o) → Q (.int ns.sum t') { s with heap := h', toks := tk }) : wpAny (model prog w) A (call (.builtin "sum") [.ref l]) Q E s := by
  obtain ⟨xs, e⟩ := hi.allInts.items
  have hn : numsOf (intItems xs).toList = ns := by rw [← e]; exact hi.numsOf
  rw [nums_intItems] at hn
  rw [e] at hl
  refine call_sum_walkG (iter_intList hl fun s₂ e2 st hfp hlI => ?_)
  subst e2
  have hx1 : x1 < s.heap.objs.size := by obtain ⟨_, o, _, g1, _⟩ := hot; exact Heap.lt_size g1
  have hot2 : HotAt A.in1 x1 (s.heap.push { cls := .type "list_iterator", data := .fields #[.ref l, .int 0 0] }) := hot_to hot rfl fun o e => Heap.get?_push_of_some _ e
  refine ⟨_, _, _, _, _, _, numAt xs, rfl, walk_hot (A := A.in1) (ax := l) (x1 := x1) hlI (Nat.ne_of_lt hx1) (intItems xs), ⟨st.1, st.2, hot2⟩, fun b hb => ?_, (fun _ _ => intItems_at), fun h' tk t' hk => ?_⟩
  · simp only [List.mem_cons, List.not_mem_nil, or_false] at hb
    rcases hb with z | z | z
    · exact hfp b (by simp [z])
    · exact hfp b (by simp [z])
    · rw [z]
      show x1 < (s.heap.push _).objs.size
      rw [Heap.size_push]
      exact Nat.lt_succ_of_lt hx1
  · have q := h h' tk t' (old_kept hk)
    have e3 : preSum (numAt xs) (intItems xs).size = ns.sum := by
      have : (intItems xs).size = xs.size := by simp [intItems]
      rw [this, preSum_eq, List.take_of_length_le (by simp), hn]
    rw [e3]
    exact q
end

section
variable {X : Cx}
/-- [elt for x in a list], an error being handled: the reading is the plain one's -/
theorem pe_lcH {elt tg iter : Expr} {ifs : List Expr} {scope : Scope} {own : List (Str × Nat)} {pos : Pos} {tl : TE} {g : TG} {tt : TT} {te : TE} (hc : HotC X) (hN : X.N.Nodup) (hl : PE X iter tl) (ok : BlkOk X.N X.env.scope scope own)
    (hg : ∀ (s : Shared) (H : Hp) (C : Addr) (cl : List (Str × Addr)) (fp : List Addr), PG (X.blk s H scope (compEnvC scope cl C X.env) fp) tg g)
    (ht : ∀ (s : Shared) (H : Hp) (C : Addr) (cl : List (Str × Addr)) (fp : List Addr), PTs (X.blk s H scope (compEnvC scope cl C X.env) fp) ifs tt)
    (he : ∀ (s : Shared) (H : Hp) (C : Addr) (cl : List (Str × Addr)) (fp : List Addr), PE (X.blk s H scope (compEnvC scope cl C X.env) fp) elt te) (hs : ∀ x, foldedSetIterable iter X.env x = pure x := by intro _; rfl) :
    PE X (.ListComp elt [⟨tg, iter, ifs, 0⟩] scope pos) (tLc (iList X.K tl) g tt te (own.map (·.2))) := by
  refine ⟨fun pins s σ H Q I h => ?_⟩
  rw [eval_ListComp]
  have free : ∀ y ∈ scope.names, y.2 = .free → ∃ c, X.env.cells.lookup y.1 = some c := fun y hy e => (ok.free y hy e).elim (fun k => I.ok.has _ (.inl k)) (fun k => I.ok.has _ (.inr k))
  refine wpAny_comprehension_free (use := none) rfl hs (closure_ok free) ok.kind (fun y hy e => by rw [ok.uniq y hy, e]) (thn (hl.run pins s σ H _ I h) fun xv s1 ⟨x, H2, I1, r1, q1⟩ => ?_)
  obtain ⟨l, ex, ⟨xs0, hq0⟩, q⟩ := q1
  subst ex
  cases r1
  obtain ⟨its0, rv0, pl0, _⟩ := I1.list hq0
  refine wpAny_pyIter_list pl0.isList ?_
  generalize hit : s1.heap.objs.size = it
  generalize hs2 : ({ s1 with heap := s1.heap.push { cls := .type "list_iterator", data := .fields #[.ref l, .int 0 0] } } : Shared) = s2
  have h2 : s2.heap = s1.heap.push { cls := .type "list_iterator", data := .fields #[.ref l, .int 0 0] } := by rw [← hs2]
  have I2 : Inv X pins σ H2 s2 := by rw [← hs2]; exact I1.kept (t' := s1.toks) fun b o e => Heap.get?_push_of_some _ e
  have st2 : s2.heap.IsListIter it l 0 := by rw [h2, ← hit]; exact ⟨_, Heap.get?_push_size _ rfl, rfl, rfl⟩
  have f2 : FpOk X pins H2 it := I1.fpOk (Nat.le_of_eq hit) (I1.hok.fresh (Nat.le_of_eq hit))
  refine wpAny_newObj_type (newEnv_comp ?_) (by show 0 ≤ sizeLine; decide)
  generalize hD : s2.heap.objs.size = D
  have hDn : H2 D = none := I2.hok.fresh (Nat.le_of_eq hD)
  obtain ⟨W, ⟨m0, w0⟩, turn⟩ := q D hDn
  generalize hs3 : ({ s2 with heap := s2.heap.push { cls := .type "list", data := .seq ([] : List Value).toArray } } : Shared) = s3
  have h3 : s3.heap = s2.heap.push { cls := .type "list", data := .seq ([] : List Value).toArray } := by rw [← hs3]
  have I3 : Inv X pins σ (upd H2 D (.lst [])) s3 := by
    rw [← hs3]
    refine I2.laid (t' := s2.toks) (fun b o e => Heap.get?_push_of_some _ e) (Nat.le_of_eq hD) ⟨Nat.zero_le _, [], 0, .nil, ?_⟩
    rw [← hD]
    exact Heap.get?_push_size _ rfl
  have itlt : it < s2.heap.objs.size := by obtain ⟨o, e, _⟩ := st2; exact Heap.lt_size e
  have f3 : ∀ b ∈ [it], FpOk X pins (upd H2 D (.lst [])) b ∧ b < s3.heap.objs.size := fun b hb => by
    have e : b = it := by simpa using hb
    subst e
    refine ⟨⟨?_, f2.2⟩, by rw [h3, Heap.size_push]; exact Nat.lt_succ_of_lt itlt⟩
    rw [upd_ne (by rw [← hD]; exact Nat.ne_of_lt itlt)]
    exact f2.1
  have st3 : s3.heap.IsListIter it l 0 := st2.at fun o e => by rw [h3]; exact Heap.get?_push_of_some _ e
  have I4 := block_start I3 ok hN f3
  have pg := hg s3 (upd H2 D (.lst [])) s3.heap.objs.size (cellsFrom (s3.heap.objs.size + 1) scope.names (cloFrom X.env.cells scope.names [])) [it]
  have pt := ht s3 (upd H2 D (.lst [])) s3.heap.objs.size (cellsFrom (s3.heap.objs.size + 1) scope.names (cloFrom X.env.cells scope.names [])) [it]
  have pe := he s3 (upd H2 D (.lst [])) s3.heap.objs.size (cellsFrom (s3.heap.objs.size + 1) scope.names (cloFrom X.env.cells scope.names [])) [it]
  show codeAny _ _ (.compStart (.ListComp elt [⟨tg, iter, ifs, 0⟩] scope pos) 0 (.ref it) (.ref D) (compEnvC scope (cellsFrom (s3.heap.objs.size + 1) scope.names (cloFrom X.env.cells scope.names [])) s3.heap.objs.size X.env)) (compPost (model X.prog X.w) X.A X.xe none (EP X pins σ Q) (.ref D) s3.heap.objs.size) { s3 with heap := pushCells (s3.heap.push { cls := .type "dict", data := .dict #[] }) scope.names }
  generalize hce : compEnvC scope (cellsFrom (s3.heap.objs.size + 1) scope.names (cloFrom X.env.cells scope.names [])) s3.heap.objs.size X.env = ce at I4 pg pt pe ⊢
  have cL : ce.locals = s3.heap.objs.size := by subst hce; rfl
  have nit : (upd H2 D (.lst [])) it = none := (f3 it (by simp)).1.1
  generalize hH3 : upd H2 D (.lst []) = H3 at I3 I4 pg pt pe w0 nit f3
  generalize hs4 : ({ s3 with heap := pushCells (s3.heap.push { cls := .type "dict", data := .dict #[] }) scope.names } : Shared) = s4 at I4 ⊢
  have st4 : s4.heap.IsListIter it l 0 := st3.at fun o e => by rw [← hs4]; exact pushCells_keeps _ _ _ _ (Heap.get?_push_of_some _ e)
  -- the handled error stands through the block
  obtain ⟨pp, ⟨hh, vsp, hdp, hcp⟩, hpn⟩ := hc
  obtain ⟨gp, fp1, nep, nfp, _⟩ := I3.pin pp (List.mem_append_left _ hpn)
  have npit : pp.1 ≠ it := f2.2.2.2.2.2 pp (List.mem_append_left _ hpn)
  have nstk : pp.1 ∉ frs X.stack := fun z => (List.mem_cons.mp (I3.stkSub _ z)).elim nep nfp
  have hotB : ∀ {σ' : St} {H' : Hp} {s' : Shared}, Inv (X.blk s3 H3 scope ce [it]) [] σ' H' s' → HotAt X.A pp.1 s'.heap := fun {σ' H' s'} I' =>
    ⟨hh, pp.2, vsp, I'.base.keep pp.1 pp.2 gp fp1 nstk (by simpa using npit), hdp, hcp⟩
  have stat : ∀ {σ' : St} {H' : Hp} {s' : Shared}, Inv (X.blk s3 H3 scope ce [it]) [] σ' H' s' → H' it = none → FpOk (X.blk s3 H3 scope ce [it]) [] H' it := fun {σ' H' s'} I' hn =>
    ⟨hn, (I'.ok.exf it (by simp)).1, I'.ok.exfs it (by simp), .inl (by simp), fun x c e => (I'.ok.exf it (by simp)).2 x c e, fun p hp => absurd (show p ∈ ([] : List (Addr × Obj)) ++ [] from hp) (by simp)⟩
  have loop : codeAny (model X.prog X.w) X.A (.compLoop (.ListComp elt [⟨tg, iter, ifs, 0⟩] scope pos) 0 (.ref it) (.ref D) ce) (compPost (model X.prog X.w) X.A X.xe none (EP X pins σ Q) (.ref D) s3.heap.objs.size) s4 := by
    refine compLoop_any (fun n s' => ∃ i H', Inv (X.blk s3 H3 scope ce [it]) [] (wipe σ (own.map (·.2))) H' s' ∧ s'.heap.IsListIter it l i ∧ H' it = none ∧ W i n H') ?_ m0 ⟨0, H3, I4, st4, nit, w0⟩
    rintro n s5 ⟨i, H5, I5, st5, n5, w5⟩
    obtain ⟨f0, f1, _, f3', f4, f5⟩ := stat I5 n5
    rcases turn i n H5 w5 with ⟨⟨xs, hq, hxs⟩, qq⟩ | ⟨⟨xs, x, hq, hx⟩, Nx, hNx, step⟩
    · obtain ⟨its, rv, pl, _⟩ := I5.list (X := X.blk s3 H3 scope ce [it]) hq
      have hlen := rv.length
      refine thnF (next_end_hot (hotB I5) npit st5 pl.isList (by simp; omega) (Q := fun r s1 => r = none ∧ Inv (X.blk s3 H3 scope ce [it]) [] (wipe σ (own.map (·.2))) H5 s1) fun h' eb => ⟨rfl, I5.turned (t' := s5.toks) (fun b o hb e => eb b o hb e) f0 f1 f3' f4 f5⟩) fun r s6 ⟨hr, I6⟩ => ?_
      subst hr
      have I7 : Inv X pins σ H5 s6 := I3.call' (ch := [it]) I6.os I6.base I6.hok I6.bare fun b hb => ⟨(f3 b hb).1.2.2.2.1, (f3 b hb).1.2.1, (f3 b hb).1.2.2.2.2.1, (f3 b hb).1.2.2.2.2.2⟩
      have nC : H5 s3.heap.objs.size = none := by
        have z : H5 ce.locals = none := I6.free
        rw [cL] at z
        exact z
      obtain ⟨m, hn, _⟩ := I6.loc
      have hn : s6.heap.Ns ce.locals m := hn
      rw [cL] at hn
      obtain ⟨k0, k1, k2, k3, k4, k5⟩ : FpOk X pins H5 s3.heap.objs.size := I3.fpOk (Nat.le_refl _) nC
      exact ⟨m, hn, fun h'' sb => ⟨.ref D, H5, I7.turned (t' := s6.toks) (fun b o hb e => (sb.2 b hb).trans e) k0 k1 k3 k4 k5, rfl, qq⟩⟩
    · obtain ⟨its, rv, pl, _⟩ := I5.list (X := X.blk s3 H3 scope ce [it]) hq
      obtain ⟨u, hu, ru⟩ := rv.get hx
      refine thnF (wpAny_pyNext_list_item st5 pl.isList (x := u) (by simpa using hu) (Q := fun r s1 => ∃ h', r = some u ∧ s1 = { s5 with heap := h' } ∧ h'.IsListIter it l (i + 1) ∧ Heap.SameBut it s5.heap h') fun h' a b => ⟨h', rfl, rfl, a, b⟩) fun r s6 ⟨h', hr, e6, st6, sb⟩ => ?_
      subst hr e6
      have I6 : Inv (X.blk s3 H3 scope ce [it]) [] (wipe σ (own.map (·.2))) H5 { s5 with heap := h' } := I5.turned (t' := s5.toks) (fun b o hb e => (sb.2 b hb).trans e) f0 f1 f3' f4 f5
      obtain ⟨o6, e6, c6, d6⟩ := id st6
      refine thnF (go_of (s := { s5 with heap := h' }) (Q := fun _ s7 => s7 = { s5 with heap := h' }) e6 c6 d6 (by decide) rfl) fun _ s7 e7 => ?_
      subst e7
      have yl : (Itl X.K l).yld i H5 x H5 := ⟨rfl, fun ys hy => by rw [I5.list_inj (X := X.blk s3 H3 scope ce [it]) hy hq]; exact hx⟩
      have I7' := I6.pinned (fp := [it]) (fun b hb => by have e : b = it := by simpa using hb
                                                         subst e; exact stat I6 n5) (fun b hb => by have e : b = it := by simpa using hb
                                                                                                    subst e; exact ⟨o6, e6, fun v z => by rw [d6] at z; cases z⟩)
      refine thnF (pg.run _ _ _ H5 x u _ I7' ru (step x H5 yl)) fun _ s8 ⟨σ8, H8, I8, hw8, q8⟩ => ?_
      refine thnF (pt.run _ s8 σ8 H8 _ I8 q8) fun b s9 ⟨H9, I9, q9⟩ => ?_
      have fin : ∀ {s' : Shared} {H' : Hp}, Inv (X.blk s3 H3 scope ce [it]) ([] ++ pinsAt [it] h') σ8 H' s' → Nx H' → ∃ m, m < n ∧ ∃ i H', Inv (X.blk s3 H3 scope ce [it]) [] (wipe σ (own.map (·.2))) H' s' ∧ s'.heap.IsListIter it l i ∧ H' it = none ∧ W i m H' := fun {s' H'} I' nx => by
        obtain ⟨m', hm, w'⟩ := hNx H' nx
        have z := I'.pin (it, o6) (List.mem_append_right _ (List.mem_append_right _ (mem_pinsAt (by simp) e6)))
        have hl : (wipe σ (own.map (·.2))).length = σ8.length := by rw [← hw8, wipe_length]
        refine ⟨m', hm, i + 1, H', (I'.unpinned (pins := [])).weak hl (fun j v e => ?_), ⟨o6, z.1, c6, d6⟩, z.2.1, w'⟩
        rw [← hw8] at e
        exact (wipe_some e).1
      cases b with
      | false =>
        simp only [Bool.false_eq_true, if_false] at q9 ⊢
        exact fin I9 q9
      | true =>
        simp only [if_true] at q9 ⊢
        refine thnF (pe.run _ s9 σ8 H9 _ I9 q9) fun z s10 ⟨yv, H10, I10, r10, acc, hD10, hz10, nx⟩ => ?_
        exact app_ok (X := X.blk s3 H3 scope ce [it]) I10 hD10 hz10 r10 fun s11 I11 => fin I11 nx
  exact codeAny_compStart_list loop (wpAny_pyIter_listiter st4 loop)
/-- sum of a list of ints, an error being handled -/
theorem cr_sumH (hc : HotC X) : CallR X (.builtin "sum") (rSum X.K) := by
  intro pins s σ H vs us Q I r h
  obtain ⟨a, ns, rfl, hs, q⟩ := h
  obtain ⟨its, rv, hl, _⟩ := I.list hs
  obtain ⟨x1, hot⟩ := hc.at I
  rw [Vals.ref1 r]
  exact sum_hot hot hl.isList rv.ints fun h' tk t' hk => ⟨.int _, H, I.kept hk, ⟨_, rfl⟩, q⟩
end
end VL

/-! VL9: a lambda handed to a def that calls it and tells what is raised. -/
namespace VL
open PySem PySem.Spec PyProof.Rows L2 L2H HotX

/-- the heap behind the making of a lambda: as it was, or its code object is new and booked in the table at P -/
def LamHp (P : Addr) (q : Str) (H : Hp) (c : Addr) (H1 : Hp) : Prop := H1 = H ∨ ∃ ps more, H P = some (.tbl ps) ∧ H c = none ∧ H1 = upd (upd H P (.tbl (ps ++ more))) c (LamX.CodeO c q)
section
variable {X : Cx} {pins : List (Addr × Obj)} {σ : St} {H : Hp} {s : Shared}
theorem lam_new {T : List (Addr × Str)} {c P : Addr} {params : Arguments} {body : Expr} {scope : Scope} {pos : Pos} {E : Value → Shared → Prop} {Q : Value → Shared → Prop} (I : Inv X pins σ H s) (B : LamX.TabB X.base X.mg c P) (hcode : X.env.code = .ref c)
    (hm : (P, X.env.qual ++ "<lambda>") ∈ T) (hu : ∀ p ∈ T, p.1 = P → p.2 = X.env.qual ++ "<lambda>") (hT : LamX.Tabs T H) (hdef : defaultsOf params X.env = ([], [])) (hfree : ∀ y ∈ scope.names, y.2 = .free → ∃ c, X.env.cells.lookup y.1 = some c)
    (h : ∀ (f d : Addr) (pm ctv : Value) (H1 : Hp) (s' : Shared), Inv X pins σ H1 s' → LamHp P (X.env.qual ++ "<lambda>") H d H1 → LamX.Tabs T H1 →
      s'.heap.get? f = some (PySem.W.kla_obj "<lambda>" (X.env.qual ++ "<lambda>") params body scope (cloFrom X.env.cells scope.names []) pm d ctv) → H1 f = none → f ∉ frs X.stack → H1 d = some (LamX.CodeO d (X.env.qual ++ "<lambda>")) → Q (.ref f) s') :
    wpAny (model X.prog X.w) X.A (eval (.Lambda params body scope pos) X.env) Q E s := by
  obtain ⟨ps, hP, htr, hcodes⟩ := hT _ hm
  refine PySem.W.kla_eval hdef ?_
  have gP : s.heap.get? P = some { cls := .none, data := .fields ps } := I.hok P _ hP
  have noframe : ∀ f, s.heap.objs.size ≤ f → f ∉ frs X.stack := fun f hf z => by
    rcases List.mem_cons.mp (I.stkSub _ z) with e | e
    · have q := I.lt
      rw [← e] at q
      exact absurd (Nat.lt_of_lt_of_le q hf) (Nat.lt_irrefl _)
    · exact I.nofs hf e
  cases hc : codeAmong pos ps.toList with
  | some cv =>
    obtain ⟨d, e, hd⟩ := hcodes pos cv hc
    subst e
    refine PySem.W.kla_makeFunctionHit (mg := X.mg) (c := c) (P := P) (ps := ps) (closure_ok hfree) I.ok.glob (I.mod.glob.keeps I.bk) hcode (B.code.keeps I.bk) gP htr hc (B.bm.keeps I.bk) fun ctv h' tk hx hsz => ?_
    exact h h'.objs.size d ((X.mg "__name__").getD .none) ctv H _ (I.kept fun b o e => Heap.get?_push_of_some _ (hx b o e)) (.inl rfl) hT (Heap.get?_push_size _ rfl) (I.hok.fresh hsz) (noframe _ hsz) hd
  | none =>
    refine PySem.W.kla_makeFunction (mg := X.mg) (c := c) (P := P) (ps := ps) (closure_ok hfree) I.ok.glob (I.mod.glob.keeps I.bk) hcode (B.code.keeps I.bk) gP htr hc B.gP (B.bm.keeps I.bk) fun d ctv h' tk hx hge hlt hrec htb => ?_
    obtain ⟨d2, od, vs, t, e2, hod, hdd, hv⟩ := hrec
    cases e2
    have hsz : s.heap.objs.size ≤ h'.objs.size := Nat.le_trans hge (Nat.le_of_lt hlt)
    have nd : H d = none := I.hok.fresh hge
    have nPd : P ≠ d := ne_of_none hP nd
    have I1 := LamX.inv_table (t' := tk) (more := #[rawInt pos.line, rawInt pos.col, .ref d]) (h' := h'.push (PySem.W.kla_obj "<lambda>" (X.env.qual ++ "<lambda>") params body scope (cloFrom X.env.cells scope.names []) ((X.mg "__name__").getD .none) d ctv)) I hP
      (fun b o hb e => Heap.get?_push_of_some _ (hx b o hb e)) (Heap.get?_push_of_some _ htb) hge ⟨od, vs, t, Heap.get?_push_of_some _ hod, hdd, hv⟩
    have eL : (ps ++ #[rawInt pos.line, rawInt pos.col, .ref d]).toList = ps.toList ++ [rawInt pos.line, rawInt pos.col, .ref d] := by simp
    refine h h'.objs.size d ((X.mg "__name__").getD .none) ctv _ _ I1 (.inr ⟨ps, _, hP, nd, rfl⟩) (fun p hp => ?_) (Heap.get?_push_size _ rfl) ?_ (noframe _ hsz) upd_same
    · have other : ∀ b o, H b = some o → (∀ qs, o ≠ .tbl qs) → upd (upd H P (.tbl (ps ++ #[rawInt pos.line, rawInt pos.col, .ref d]))) d (LamX.CodeO d (X.env.qual ++ "<lambda>")) b = some o := fun b o e n => by
        rw [upd_ne (ne_of_none e nd), upd_ne (fun z => n ps (Option.some.inj (e.symm.trans (by rw [z]; exact hP))))]
        exact e
      by_cases hb : p.1 = P
      · rw [hu p hp hb, hb]
        refine ⟨_, by rw [upd_ne nPd, upd_same], by rw [eL]; exact PySem.TriplesOk_snoc _ _ _ _ htr, fun p' cv hcv => ?_⟩
        rw [eL] at hcv
        rcases LamX.among_app _ htr hcv with z | z
        · obtain ⟨c0, e1, e2⟩ := hcodes p' cv z
          exact ⟨c0, e1, other _ _ e2 LamX.codeO_ne⟩
        · exact ⟨d, z, upd_same⟩
      · obtain ⟨qs, a1, a2, a3⟩ := hT p hp
        refine ⟨qs, by rw [upd_ne (ne_of_none a1 nd), upd_ne hb]; exact a1, a2, fun p' cv hcv => ?_⟩
        obtain ⟨c0, e1, e2⟩ := a3 p' cv hcv
        exact ⟨c0, e1, other _ _ e2 LamX.codeO_ne⟩
    · rw [upd_ne (Nat.ne_of_gt hlt), upd_ne (Nat.ne_of_gt (Nat.lt_of_lt_of_le (Heap.lt_size gP) hsz))]
      exact I.hok.fresh hsz
theorem LamHp.ext {g : Glob} {P d : Addr} {q : Str} {F H H1 : Hp} (l : LamHp P q H d H1) (s : Same F H) (hF : ∀ ps, F P ≠ some (.tbl ps)) (t : LamX.Tabs g.tabs H1) : Ext g F H F H1 := by
  rcases l with rfl | ⟨ps, more, h1, h2, rfl⟩
  · exact Ext.refl s
  · have keep : ∀ a o, H a = some o → (∀ ps, o ≠ .tbl ps) → upd (upd H P (.tbl (ps ++ more))) d (LamX.CodeO d q) a = some o := fun a o e n => by
      rw [upd_ne (ne_of_none e h2), upd_ne (fun z => n ps (Option.some.inj (e.symm.trans (by rw [z]; exact h1))))]
      exact e
    refine ⟨keep, fun a e => ?_, fun _ => t, fun a o e => ?_, fun a e => rfl, fun _ _ e => e⟩
    · by_cases z : a = d
      · subst z; exact absurd h2 e
      · rw [upd_ne z]
        by_cases z2 : a = P
        · subst z2; rw [upd_same]; simp
        · rw [upd_ne z2]; exact e
    · have e' := s a o e
      have nP : a ≠ P := fun k => by
        subst k
        rw [h1] at e'
        cases e'
        exact hF ps e
      rw [upd_ne (ne_of_none e' h2), upd_ne nP]
      exact e'
end

/-! ### list.index -/
def indexD : Dat → Dat → Res Dat
  | .lst ds, d => if (flatD d && ds.all flatD) = true then match (ds.map vOf).findIdx? (fun y => eqV y (vOf d)) with
      | some j => .ok (.int (j : Nat))
      | none => .stuck
    else .stuck
  | _, _ => .stuck
def isLstD : Dat → Bool
  | .lst _ => true
  | _ => false
theorem find_spec {α : Type} {l : List α} {p : α → Bool} {j : Nat} (h : l.findIdx? p = some j) : ∃ z, l[j]? = some z ∧ p z = true ∧ ∀ (m : Nat) (z' : α), m < j → l[m]? = some z' → p z' = false := by
  obtain ⟨h1, h2, h3⟩ := List.findIdx?_eq_some_iff_getElem.mp h
  refine ⟨l[j], by simp [h1], h2, fun m z' hm e => ?_⟩
  have hml : m < l.length := Nat.lt_trans hm h1
  have := h3 m hm
  rw [List.getElem?_eq_getElem hml] at e
  rw [← Option.some.inj e]
  simpa using this
section
variable {X : Cx} {g : Glob} {W : WX}
theorem ve_index {o e : Expr} {apos cpos : Pos} {f h : Env → Res Dat} (ho : VE X g W o f) (he : VE X g W e h) (hbase : attributeBase o "index" X.env (eval o X.env) = eval o X.env := by rfl)
    (hfew : ((backTo cpos (starEach [e] X.env)).all (fun x => !x.1) && (backToKw cpos (keywordEach [] X.env)).all (fun x => x.1.isSome) && decide (([e]).length + ([] : List Keyword).length + (if ([] : List Keyword).isEmpty then 0 else 1) < 30)) = true := by rfl)
    (hline : (apos.endLine == cpos.line) = true := by rfl) (hs1 : starEach [e] X.env = (false, eval e X.env) :: starEach [] X.env := by rfl) : VE X g W (.Call (.Attribute o "index" apos) [e] [] cpos) (eMth isLstD indexD f h) :=
  PE.imp (pe_bm PySem.F.plainAttrs_list PySem.F.slot_list_index PySem.F.type_list_index mt_index ho (pa_cons he pa_nil hs1) hbase hfew hline hs1 rfl) fun σ H Q ⟨ρ, F, s, p⟩ => ⟨ρ, F, s, (PostG.bind s p).imp fun x H1 ⟨F1, a, s1, ra, x1, p1⟩ => by
    cases ra with
    | @lst aa xs ds hl rs =>
      rw [if_pos (by rfl)] at p1
      refine ⟨.inl ⟨rfl, _, SqL.of (s1.sub _ _ hl)⟩, ρ, F1, s1, (PostG.bind s1 p1).imp fun y H2 ⟨F2, b, s2, rb, x2, p2⟩ => ?_⟩
      dsimp only [indexD] at p2
      by_cases hq : (flatD b && ds.all flatD) = true
      case neg => rw [if_neg hq] at p2; exact p2.elim
      rw [if_pos hq] at p2
      have hq' := Bool.and_eq_true_iff.mp hq
      obtain ⟨e1, f1⟩ := rep_flat rb hq'.1
      obtain ⟨e2, f2⟩ := reps_flat rs hq'.2
      cases ej : (ds.map vOf).findIdx? (fun y => eqV y (vOf b)) with
      | none => rw [ej] at p2; exact p2.elim
      | some j =>
        rw [ej] at p2
        obtain ⟨z, k1, k2, k3⟩ := find_spec ej
        exact ⟨aa, xs, y, j, z, rfl, rfl, SqL.of (s2.sub _ _ (x2.le s1.sub _ _ hl)), f1, f2, by rw [e2]; exact k1, by rw [e1]; exact k2, fun m z' hm hz => by rw [e1]; rw [e2] at hz; exact k3 m z' hm hz, PostG.here s2.sub p2 (.int _)⟩
    | _ => exact p1.elim⟩

/-! ### while an error is handled -/
def lstD : Dat → Res (List Dat)
  | .lst xs => .ok xs
  | _ => .stuck
def iLst (f : Env → Res Dat) : Env → Res (List Dat) := fun ρ => (f ρ).bind lstD
theorem ve_lcH {elt tg iter : Expr} {ifs : List Expr} {scope : Scope} {pos : Pos} {fi : Env → Res Dat} {p : Pat} {t : Env → Res Bool} {f : Env → Res Dat} (own : List (Str × Nat)) (hc : HotC X) (hN : X.N.Nodup) (hi : VE X g W iter fi) (ok : BlkOk X.N X.env.scope scope own)
    (hg : ∀ (s : Shared) (H : Hp) (C : Addr) (cl : List (Str × Addr)) (fp : List Addr), VG (X.blk s H scope (compEnvC scope cl C X.env) fp) g tg p)
    (ht : ∀ (s : Shared) (H : Hp) (C : Addr) (cl : List (Str × Addr)) (fp : List Addr), VTs (X.blk s H scope (compEnvC scope cl C X.env) fp) g W0 ifs t)
    (he : ∀ (s : Shared) (H : Hp) (C : Addr) (cl : List (Str × Addr)) (fp : List Addr), VE (X.blk s H scope (compEnvC scope cl C X.env) fp) g W0 elt f)
    (hp : ∀ i ∈ patIx p, i ∈ own.map (·.2) := by decide) (hs : ∀ x, foldedSetIterable iter X.env x = pure x := by intro _; rfl) : VE X g W (.ListComp elt [⟨tg, iter, ifs, 0⟩] scope pos) (eLc (iLst fi) p t f (own.map (·.2))) :=
  PE.imp (pe_lcH (g := gP X.K g p) (tt := tVT X.K g W0 t) (te := tV X.K g W0 f) hc hN hi ok hg ht he hs) fun σ H Q h => by
    have q := lc_main hp h
    obtain ⟨ρ, F, s, p⟩ := q
    refine ⟨ρ, F, s, (PostG.bind s p).imp fun x H1 ⟨F1, a, s1, ra, x1, p1⟩ => ?_⟩
    cases ra with
    | @lst aa xs ds hl rs => exact ⟨aa, rfl, ⟨xs, SqL.of (s1.sub _ _ hl)⟩, PostG.here s1.sub p1 (iters_list' (SqL.of hl) rs)⟩
    | _ => exact p1.elim
/-- isinstance(e, C), e the pinned error at a -/
def eIsE (i : Nat) (a : Addr) (b : Bool) : Env → Res Dat := fun ρ => match ρ[i]? with
  | some (some (.opq x)) => if x = a then .ok (.bl b) else .stuck
  | _ => .stuck
theorem call_isP {a D : Addr} {oe : Obj} (C : ExcC X.K D) (hz : Zc (.ref D) none oe) (hf : ∃ vs, oe.data = .fields vs) (hp : (a, oe) ∈ X.pn) : CallR X (.builtin "isinstance") (rIsE X.K D a) := by
  intro pins s σ H xs us Q I r h
  obtain ⟨c, cv, b, rfl, hcv, e, q⟩ := h
  cases r with
  | cons rx rr =>
    cases rr with
    | cons rt rr =>
      cases rr
      cases rx
      cases hcv _ rt
      obtain ⟨hget, _⟩ := I.pin (a, oe) (List.mem_append_left _ hp)
      obtain ⟨vs, hv⟩ := hf
      have J : PySem.W.InstAt s.heap a oe D none := by
        obtain ⟨oc, od, oda, osl⟩ := oe
        obtain ⟨h1, h2⟩ := hz
        dsimp only at h1 h2 hv
        subst h1 h2 hv
        exact ⟨hget, rfl, rfl, trivial⟩
      exact PySem.W.kia_one (PySem.W.handS_kitx_exc C.hg C.hk C.hs C.hd C.ha C.hn C.ht C.hm) I.kIn J e (fun z => nomatch z) fun tk => ⟨.bl b, H, I.kept (t' := tk) fun _ _ z => z, rfl, q⟩
theorem ve_isE (i : Nat) {x : Str} {e2 : Expr} {p p1 pos : Pos} {a D : Addr} {oe : Obj} {c : V} {cv : Value} {b : Bool} (C : ExcC X.K D) (hz : Zc (.ref D) none oe) (hf : ∃ vs, oe.data = .fields vs) (hp : (a, oe) ∈ X.pn) (hm : X.mg "isinstance" = none) (h2 : PE X e2 (tC c)) (hcv : ∀ u, L2.RelV c u → u = cv) (hk : PySem.W.kitOne X.K (.ref D) cv = some b)
    (hN : X.N[i]? = some x := by rfl) (hv : Vis X.env.scope x := by first | exact Or.inl rfl | exact Or.inr (Or.inl rfl) | exact Or.inr (Or.inr rfl)) (hd : (x == ("__debug__" : Str)) = false := by decide) (hcd : (x == ("__classdict__" : Str)) = false := by decide) (hg : Gl X "isinstance" := by rfl)
    (he : starEach [.Name x p1, e2] X.env = (false, eval (.Name x p1) X.env) :: starEach [e2] X.env := by rfl) (he2 : starEach [e2] X.env = (false, eval e2 X.env) :: starEach [] X.env := by rfl) (hpl : (backTo pos (starEach [e2] X.env)).any (·.1) = false := by rfl) : VE X g W (.Call (.Name "isinstance" p) [.Name x p1, e2] [] pos) (eIsE i a b) :=
  PE.imp (pe_callB (call_isP C hz hf hp) hg hm (by decide +kernel) (pa_cons (pe_var hN hv hd hcd) (pa_cons h2 pa_nil he2) he) (by decide) (by decide) he hpl) fun σ H Q ⟨ρ, F, s, q⟩ => by
    unfold eIsE at q
    split at q
    · rename_i y e
      by_cases hy : y = a
      · rw [if_pos hy] at q
        obtain ⟨v, k1, k2⟩ := s.env i _ e
        cases k2
        subst hy
        exact ⟨_, k1, c, cv, b, rfl, hcv, hk, PostG.here s.sub q (.bl b)⟩
      · rw [if_neg hy] at q; exact q.elim
    · exact q.elim
end

/-! ### a def called while an error is handled, with that error -/
theorem run_hot {P : Program} {w : World} {K : PySem.W.Frag} {mg : Str → Option Value} {base : Heap} {k : Nat} {f : Addr} {name qual : Str} {params : Arguments} {body : List Stmt} {scope : Scope} {dV kV doc pm cdv ct oc : Value} {an od : Option Addr} {osl : Array (Option Value)} {N : List Str} {x : Str}
    (lk : K.lookup f = some ⟨oc, od, .func (PySem.W.fnOf name qual params body scope dV kV doc pm an cdv ct), osl⟩) (hcd : PySem.W.codeIn K cdv qual = true) (S : FnScope N [x] scope) {A : Around} {outer : List PySem.Env} {s : Shared} {H : Hp} {Q : VK} {a : Addr} {oe : Obj}
    (hr : RoomH (k + 1) A) (hot : Hot1 A (a, oe)) (hpin : PinOk outer H s (a, oe)) (e0 : Env0 P w K mg base A outer s H) (hb : BindsTo s (PySem.W.fnOf name qual params body scope dV kV doc pm an cdv ct) ⟨[.ref a], []⟩ [(x, .ref a)])
    (hbody : RoomH k (A.deeper (envOfC qual scope s.heap.objs.size f cdv)) → ∃ t, PSs (cxH L2.CX0 P w K mg base N qual scope f cdv A outer s H L2.E0 (a, oe)) body t ∧ t { nx := fun _ H' => Q .non H', rt := Q } (L2.start N [.ref a]) H) :
    codeAny (model P w) A (.call (.ref f) ⟨[.ref a], []⟩) (CR L2.CX0 outer P w H s Q L2.E0) s := by
  have KX : K.In s.heap := e0.mod.kin.keeps fun b o e => (e0.bs b o e).1
  have lim : s.heap.NoLimit := e0.mod.nolimit.keeps fun b o e => (e0.bs b o e).1
  have hkind : ∀ y ∈ [x].zip [Value.ref a], scope.names.lookup y.1 = some .local ∨ (scope.names.lookup y.1 = some .cell ∧ ((cellsFrom (s.heap.objs.size + 1) scope.names []).lookup y.1).isSome = true) := fun y hy => by
    rcases S.par y.1 (List.of_mem_zip hy).1 with q | q
    · exact .inl q
    · exact .inr ⟨q, PySem.W.cellsFrom_some _ _ _ (.inl q)⟩
  refine codeAny_call_function hr.depth (KX _ _ lk) rfl S.co S.gen rfl (PySem.W.codeRec_of KX hcd) (hb _ _ _ _ ?_)
  refine wpAny_newFunctionEnv_cells S.kind hkind fun env he s1 x1 => ?_
  subst he
  refine ⟨lim.keeps x1.toInCall.keep, codeAny_func ?_⟩
  obtain ⟨t, ht, hq⟩ := hbody (hr.deeper _)
  have I : Inv (cxH L2.CX0 P w K mg base N qual scope f cdv A outer s H L2.E0 (a, oe)) [] (L2.start N [.ref a]) H s1 := inv_startH (us := [.ref a]) S hpin e0 rfl (.cons rfl .nil) x1
  refine wpAny_mono (ht.run [] s1 (L2.start N [.ref a]) H _ I hq) (fun fl s' hs => ?_) fun e s' hs => hs
  cases fl with
  | ret u =>
    obtain ⟨v, σ', H', J, rv, q⟩ := hs
    exact ⟨v, H', J.os, J.bare, J.base, J.hok, rv, q⟩
  | next =>
    obtain ⟨σ', H', J, q⟩ := hs
    exact ⟨.non, H', J.os, J.bare, J.base, J.hok, rfl, q⟩
  | brk =>
    obtain ⟨_, _, _, q⟩ := hs
    exact q.elim
  | cont =>
    obtain ⟨_, _, _, q⟩ := hs
    exact q.elim
end VL

/-! VL10: x(lambda: body), x a def that calls it and tells the class of what is raised. -/
namespace VL
open PySem PySem.Spec PyProof.Rows L2 L2H HotX

/-- the context of a lambda's body -/
def lamX (X : Cx) (A : Around) (outer : List PySem.Env) (s : Shared) (H : Hp) (E : XK) (scope : Scope) (f d : Addr) : Cx :=
  { LamX.lamCx X A outer s H E scope f d with
    xe := fun e s' => wpAny (model X.prog X.w) (A.deeper (LamX.lamEnv X scope s.heap.objs.size f d)) (leaving (LamX.lamEnv X scope s.heap.objs.size f d) e) (fun _ s'' => L2N.CX X.prog X.w outer H s E e s'') (fun e' s'' => L2N.CX X.prog X.w outer H s E e' s'') s' }
theorem lam_takes {X : Cx} {A : Around} {outer : List PySem.Env} {s : Shared} {H : Hp} {E : XK} {scope : Scope} {f d : Addr} : L2N.Takes (lamX X A outer s H E scope f d) (fun cls e _ H' => E cls e H') := L2N.takes_of rfl rfl rfl rfl
section
variable {X : Cx} {pins : List (Addr × Obj)} {σ : St} {H : Hp} {s : Shared}
/-- deed(), in the def that got the lambda at f -/
theorem pe_deed {CXg : CXT} {Eg : XK} {Ng : List Str} {qg : Str} {sg : Scope} {g f d : Addr} {cdg pm ctv : Value} {params : Arguments} {body : Expr} {scope : Scope} {k i : Nat} {a : Str} {pn : List (Addr × Obj)} {xe : Value → Shared → Prop} {W : WX} {tb : XK → TE} {p1 p2 : Pos}
    (I : Inv X pins σ H s) (L : LamX.LamS X.env.scope scope) (hf : s.heap.get? f = some (PySem.W.kla_obj "<lambda>" (X.env.qual ++ "<lambda>") params body scope (cloFrom X.env.cells scope.names []) pm d ctv)) (hfn : H f = none) (hfr : f ∉ frs X.stack)
    (hbind : bindArgs (PySem.W.kla_fn "<lambda>" (X.env.qual ++ "<lambda>") params body scope (cloFrom X.env.cells scope.names []) pm (.ref d) ctv) ⟨[], []⟩ = pure [])
    (tk : L2N.Takes ((cxOf CXg X.prog X.w X.K X.mg X.base Ng qg sg g cdg X.A X.stack s H Eg).tr pn xe) W) (hr : Room (k + 1) (X.A.deeper (envOfC qg sg s.heap.objs.size g cdg)))
    (hbody : ∀ (A : Around) (outer : List PySem.Env) (s : Shared) (H : Hp) (E : XK), Room k (A.deeper (LamX.lamEnv X scope s.heap.objs.size f d)) → PE (lamX X A outer s H E scope f d) body (tb E))
    (hN : Ng[i]? = some a) (hv : Vis sg a) (hd : (a == ("__debug__" : Str)) = false) (hcd : (a == ("__classdict__" : Str)) = false) :
    PE ((cxOf CXg X.prog X.w X.K X.mg X.base Ng qg sg g cdg X.A X.stack s H Eg).tr pn xe) (.Call (.Name a p1) [] [] p2)
      (fun σZ HZ Q => σZ[i]? = some (some (.ref f)) ∧ HZ d = some (LamX.CodeO d (X.env.qual ++ "<lambda>")) ∧ tb (WE W σZ) σ HZ Q) := by
  refine ⟨fun pinsZ sZ σZ HZ Q IZ ⟨hs, hc, ht⟩ => ?_⟩
  refine wpAny_Call_Name_kw (thn ((pe_var (pos := p1) (i := i) hN hv hd hcd).run pinsZ sZ σZ HZ (fun v H1 => v = .ref f ∧ H1 = HZ) IZ ⟨.ref f, hs, rfl, rfl⟩) fun u s1 ⟨v, H1, I1, r1, ev, eH⟩ => ?_)
  subst ev
  rw [eH] at I1
  cases (show u = Value.ref f from r1)
  have of1 : s1.heap.get? f = some (PySem.W.kla_obj "<lambda>" (X.env.qual ++ "<lambda>") params body scope (cloFrom X.env.cells scope.names []) pm d ctv) := I1.base.keep f _ hf hfn hfr (fun z => nomatch (show f ∈ ([] : List Addr) from z))
  refine PySem.W.callWith_F0 ⟨_, _, _, _, of1⟩ ?_
  obtain ⟨⟨oc, vs, t, hoc, hdc, hvc⟩, _, _⟩ := I1.hok d _ hc
  have rc : codeAny (model X.prog X.w) (X.A.deeper (envOfC qg sg s.heap.objs.size g cdg)) (.call (.ref f) ⟨[], []⟩) (CR (L2N.CX X.prog X.w) (envOfC qg sg s.heap.objs.size g cdg :: X.stack) X.prog X.w HZ s1 Q (WE W σZ)) s1 := by
    refine PySem.W.kla_callFunE hr.depth of1 rfl L.co L.gen rfl ⟨d, oc, vs, t, rfl, hoc, hdc, hvc⟩ ?_
    rw [hbind]
    refine wpAny_pure (wpAny_newFunctionEnv (fun y hy => (L.own y hy).2) (fun y hy => absurd hy (by simp)) (fun h₁ hns hsb => ⟨I1.nolimit.fresh _ hsb, ?_⟩) L.kind)
    show codeAny _ _ (.expr body (LamX.lamEnv X scope s1.heap.objs.size f d)) _ _
    have kp : ∀ b o, s1.heap.get? b = some o → h₁.get? b = some o := fun b o e => hsb.extBut b o (Nat.ne_of_lt (Heap.lt_size e)) (Heap.get?_push_of_some _ e)
    have J0 : Inv (LamX.lamCx X (X.A.deeper (envOfC qg sg s.heap.objs.size g cdg)) (envOfC qg sg s.heap.objs.size g cdg :: X.stack) s1 HZ (WE W σZ) scope f d) [] σ HZ { s1 with heap := h₁, toks := s1.toks + ([] : List (Str × Value)).length } :=
      LamX.lam_start2 I L I1.env0 hr.hd I1.base hns kp
    have J : Inv (lamX X (X.A.deeper (envOfC qg sg s.heap.objs.size g cdg)) (envOfC qg sg s.heap.objs.size g cdg :: X.stack) s1 HZ (WE W σZ) scope f d) [] σ HZ { s1 with heap := h₁, toks := s1.toks + ([] : List (Str × Value)).length } := J0.wish _
    refine PySem.W.kla_codeExpr (wpAny_mono ((hbody _ _ s1 HZ (WE W σZ) (hr.deeper _)).run [] _ _ HZ Q J ht) (fun v s' ⟨w', H', J', rv, q⟩ => ⟨w', H', J'.os, J'.bare, J'.base, J'.hok, rv, q⟩) fun e s' hq => hq)
  refine wpAny_call (codeAny_mono rc fun r s' hq => ?_)
  cases r with
  | error e => exact L2N.passAt tk σZ pinsZ HZ s1 e s' I1 hq
  | ok fl =>
    cases fl with
    | ret u => exact I1.after hq
    | next => exact hq.elim
    | brk => exact hq.elim
    | cont => exact hq.elim
end

/-! ### what is told -/
def toldR (names : List Str) : Res Dat → Res Dat
  | .exc c => if c ∈ names then .ok (.tup [.str "refused", .str c]) else .stuck
  | r => r
def eTold (names : List Str) (f : Env → Res Dat) : Env → Res Dat := fun ρ => toldR names (f ρ)
/-- the def at f gets the error of one of the classes, and tells its name -/
def WordOk (P : Program) (w : World) (K : PySem.W.Frag) (mg : Str → Option Value) (base : Heap) (g : Glob) (names : List Str) (k : Nat) (f : Addr) : Prop :=
  ∀ c ∈ names, ∀ (A : Around) (outer : List PySem.Env) (s : Shared) (H : Hp) (Q : VK) (a : Addr) (oe : Obj) (F : Hp), RoomH k A → Hot1 A (a, oe) → PinOk outer H s (a, oe) → Env0 P w K mg base A outer s H → Zc (.ref (g.cls c)) none oe → (∃ vs, oe.data = .fields vs) → Same F H → LamX.Tabs g.tabs H → (∀ a ps, F a ≠ some (.tbl ps)) →
      PostG g (Rep K g) W0 [] F H (.ok (.tup [.str "refused", .str c])) Q → codeAny (model P w) A (.call (.ref f) ⟨[.ref a], []⟩) (CR L2.CX0 outer P w H s Q L2.E0) s
/-- what the written part says of the def that tells (told), and of the one that it calls with the error (word) -/
structure TellT (P : Program) (w : World) (K : PySem.W.Frag) (mg : Str → Option Value) (base : Heap) (g : Glob) (names : List Str) (k : Nat) : Prop where
  ex : ∃ (gt fW CM : Addr) (pg : Arguments) (sg : Scope) (dV kV doc pm cdv ct oc : Value) (an od : Option Addr) (osl : Array (Option Value)) (p1 p2 p3 p4 p5 p6 p7 p8 p9 p10 : Pos),
    mg "_law_told" = some (.ref gt) ∧ PySem.W.keepIn K (.ref gt) = true ∧
    K.lookup gt = some ⟨oc, od, .func (PySem.W.fnOf "_law_told" "_law_told" pg [.Try [.Return (some (.Call (.Name "deed" p1) [] [] p2)) p3] [.ExceptHandler (some (.Name "MadeError" p4)) (some "e") [.Return (some (.Call (.Name "_law_word" p5) [.Name "e" p6] [] p7)) p8] p9] [] [] p10] sg dV kV doc pm an cdv ct), osl⟩ ∧
    PySem.W.codeIn K cdv "_law_told" = true ∧
    L2.Binds K (PySem.W.fnOf "_law_told" "_law_told" pg [.Try [.Return (some (.Call (.Name "deed" p1) [] [] p2)) p3] [.ExceptHandler (some (.Name "MadeError" p4)) (some "e") [.Return (some (.Call (.Name "_law_word" p5) [.Name "e" p6] [] p7)) p8] p9] [] [] p10] sg dV kV doc pm an cdv ct) ["deed"] [] ∧
    FnScope ["deed", "e"] ["deed"] sg ∧ sg.names.lookup ("e" : Str) = some NameKind.local ∧ Vis sg "deed" ∧ sg.names.lookup ("MadeError" : Str) = some NameKind.globalImplicit ∧ sg.names.lookup ("_law_word" : Str) = some NameKind.globalImplicit ∧
    mg "MadeError" = some (.ref CM) ∧ mg "_law_word" = some (.ref fW) ∧ PySem.W.keepIn K (.ref fW) = true ∧ (∀ c ∈ names, PySem.W.exmOne K (.ref (g.cls c)) (.ref CM) = some true) ∧
    WordOk P w K mg base g names k fW
/-- a context in which lambdas are made -/
structure LamHere (X : Cx) (g : Glob) : Prop where
  ex : ∃ c P, LamX.TabB X.base X.mg c P ∧ X.env.code = .ref c ∧ (P, X.env.qual ++ "<lambda>") ∈ g.tabs ∧ ∀ p ∈ g.tabs, p.1 = P → p.2 = X.env.qual ++ "<lambda>"
section
variable {X : Cx} {g : Glob} {W : WX}
theorem ve_told {names : List Str} {kw k j : Nat} {params : Arguments} {body : Expr} {scope : Scope} {f : Env → Res Dat} {p lpos pos : Pos} (T : TellT X.prog X.w X.K X.mg X.base g names kw) (L0 : LamHere X g) (hr : Room j X.A) (hk : k + 2 ≤ j) (hkw : kw + 1 ≤ j) (L : LamX.LamS X.env.scope scope) (hdef : defaultsOf params X.env = ([], []))
    (hbind : ∀ (q : Str) (cl : List (Str × Addr)) (pm cv ctv : Value), bindArgs (PySem.W.kla_fn "<lambda>" q params body scope cl pm cv ctv) ⟨[], []⟩ = pure [])
    (hbody : ∀ (A : Around) (outer : List PySem.Env) (s : Shared) (H : Hp) (E : XK) (f0 d : Addr), Room k (A.deeper (LamX.lamEnv X scope s.heap.objs.size f0 d)) → L2N.Takes (lamX X A outer s H E scope f0 d) (fun cls e _ H' => E cls e H') → VE (lamX X A outer s H E scope f0 d) g (fun cls e _ H' => E cls e H') body f)
    (hg : Gl X "_law_told" := by rfl) : VE X g W (.Call (.Name "_law_told" p) [.Lambda params body scope lpos] [] pos) (eTold names f) := by
  obtain ⟨gt, fW, CM, pg, sg, dV, kV, doc, pm, cdv, ct, oc, an, od, osl, p1, p2, p3, p4, p5, p6, p7, p8, p9, p10, hm, hkp, lk, hcg, hb, Sg, hle, hvd, hgM, hgW, hmM, hmW, hkW, hexm, hword⟩ := T.ex
  obtain ⟨c, P, TB, hcode, hmT, hu⟩ := L0.ex
  refine ⟨fun pins s σ H Q I ⟨ρ, F, st, post⟩ => ?_⟩
  refine wpAny_Call_Name_kw (ld_glob I hg hm ?_ (by decide))
  refine PySem.W.callWith_K (h₀ := X.base) I.ok.mod.kin hkp ?_ (by rfl) (by rfl)
  show wpAny _ _ (spliced ((false, eval (.Lambda params body scope lpos) X.env) :: backTo pos (starEach [] X.env))) _ _ s
  refine Calls.spliced_cons (lam_new I TB hcode hmT hu st.tabs hdef (L.has I.ok) fun f0 d pm' ctv H1 s' I1 lh T1 hf hfn hfr hco => ?_)
  refine Calls.spliced_nil ⟨I1.kIn, ?_⟩
  have x1 : Ext g F H F H1 := lh.ext st.sub (st.nt P) T1
  have st1 : Stt X.K g F H1 σ ρ := st.ext x1
  have post1 : PostG g (Rep X.K g) W σ F H1 (toldR names (f ρ)) Q := PostG.ext x1 post
  have rc : codeAny (model X.prog X.w) X.A (.call (.ref gt) ⟨[.ref f0], []⟩) (CR (L2N.CX X.prog X.w) X.stack X.prog X.w H1 s' Q L2.E0) s' := by
    refine LamX.run_ofS (k := j - 1) (CX := L2N.CX X.prog X.w) (N := ["deed", "e"]) (ps := ["deed"]) (us := [.ref f0]) (vs := [.ref f0]) lk hcg Sg (hr.mono (by omega)) I1.env0 (hb s' [.ref f0] I1.kIn rfl) (.cons rfl .nil) rfl fun hr' => ?_
    refine ⟨_, pss_one (L2N.ps_try_as (X := cxOf (L2N.CX X.prog X.w) X.prog X.w X.K X.mg X.base ["deed", "e"] "_law_told" sg gt cdv X.A X.stack s' H1 L2.E0) (i := 1) (c := .ref CM)
      (tb := fun W' D σ2 H2 => σ2[0]? = some (some (.ref f0)) ∧ H2 d = some (LamX.CodeO d (X.env.qual ++ "<lambda>")) ∧ tV X.K g (fun cls e _ H' => W' cls e σ2 H') f σ H2 D.rt)
      (ts := fun a cls e => tRet (fun σ2 H2 Q2 => σ2[1]? = some (some (.ref a)) ∧ e = none ∧ ∃ c ∈ names, cls = .ref (g.cls c) ∧ ∃ F2, Same F2 H2 ∧ LamX.Tabs g.tabs H2 ∧ (∀ a ps, F2 a ≠ some (.tbl ps)) ∧ PostG g (Rep X.K g) W0 [] F2 H2 (.ok (.tup [.str "refused", .str c])) Q2)) (Wout := W0)
      rfl rfl Sg.nd rfl hle ⟨hgM, by decide, .inl hmM⟩ tk0 (fun W' pn xe tk _ => ?_) (fun a oe cls e pn hz hf => pss_one (ps_ret ?_))), ?_⟩
    · refine ⟨fun pins2 s2 σ2 H2 D I2 hh => ?_⟩
      have hp := pe_deed (tb := fun E => tV X.K g (fun cls e _ H' => E cls e H') f) (p1 := p1) (p2 := p2) (k := k) (i := 0) I1 L hf hfn hfr (hbind _ _ _ _ _) tk (hr'.mono (by omega)) (fun A outer s H E hr2 => hbody A outer s H E f0 d hr2 lam_takes) rfl hvd (by decide) (by decide)
      exact (pss_one (ps_ret (pos := p3) hp)).run pins2 s2 σ2 H2 D I2 hh
    · refine ⟨fun pins2 s2 σ2 H2 Q2 I2 ⟨h1, ee, c, hc, ec, F2, hF1, hF2, hF3, hq⟩ => ?_⟩
      subst ee ec
      refine wpAny_Call_Name_kw (ld_glob I2 hgW hmW ?_ (by decide))
      have ha : PA ((cxOf (L2N.CX X.prog X.w) X.prog X.w X.K X.mg X.base ["deed", "e"] "_law_told" sg gt cdv X.A X.stack s' H1 L2.E0).suite a ((a, oe) :: pn)) [.Name "e" p6] (tCons (tVar 1) tNil) := pa_cons (pe_var rfl (.inl hle)) pa_nil
      refine PySem.W.callWith_K (h₀ := X.base) I2.ok.mod.kin hkW (thn (ha.run p7 pins2 s2 σ2 H2 (fun vs H3 => vs = [.ref a] ∧ H3 = H2) I2 ⟨_, h1, rfl, rfl⟩) fun us s3 ⟨vs, H3, I3, r3, ev, eH⟩ => ⟨I3.kIn, ?_⟩) (by rfl) (by rfl)
      subst ev eH
      cases r3 with
      | cons ra rn =>
        cases rn
        cases ra
        obtain ⟨g1, g2, g3, g4, g5⟩ := I3.pin (a, oe) (List.mem_append_left _ List.mem_cons_self)
        obtain ⟨vs3, hv3⟩ := hf
        have rm := hr'.mono (show kw ≤ j - 1 by omega)
        show wpAny _ _ (call (.ref fW) [.ref a]) _ _ _
        refine wpAny_call (codeAny_mono (hword c hc _ _ s3 H3 Q2 a oe F2 ⟨rm.dp, rm.un⟩ ⟨rfl, vs3, hv3, hz.2.2 vs3 hv3⟩ ⟨g1, g2, fun z => (List.mem_cons.mp (I3.stkSub _ z)).elim g3 g4, g5⟩ I3.env0 hz.zc ⟨vs3, hv3⟩ hF1 hF2 hF3 hq) fun r s4 hq4 => ?_)
        cases r with
        | error e => exact hq4.elim
        | ok fl =>
          cases fl with
          | ret u => exact I3.after hq4
          | next => exact hq4.elim
          | brk => exact hq4.elim
          | cont => exact hq4.elim
    · refine ⟨rfl, hco, ρ, F, st1, ?_⟩
      cases ef : f ρ with
      | stuck => rw [ef] at post1; exact post1.elim
      | ok v => rw [ef] at post1; exact post1
      | exc c =>
        rw [ef] at post1
        unfold toldR at post1
        by_cases hc : c ∈ names
        · dsimp only at post1
          rw [if_pos hc] at post1
          intro H2 F2 x2
          exact ⟨true, hexm c hc, fun _ a ha => ⟨rfl, rfl, c, hc, rfl, F2, x2.sub, x2.tabs st1.tabs, fun a ps e => st1.nt a ps (x2.nt a ps e), PostG.ext x2 post1⟩, fun z => by cases z⟩
        · dsimp only at post1
          rw [if_neg hc] at post1
          exact post1.elim
  refine wpAny_call (codeAny_mono rc fun r s2 hq => ?_)
  cases r with
  | error e =>
    obtain ⟨_, _, _, _, _, _, _, _, _, _, _, _, z⟩ := hq
    exact z.elim
  | ok fl =>
    cases fl with
    | ret u => exact I1.after hq
    | next => exact hq.elim
    | brk => exact hq.elim
    | cont => exact hq.elim
end
end VL

/-! VL11: what the written part says of the classes of errors; rules while an error is handled. -/
namespace VL
open PySem PySem.Spec PyProof.Rows L2 L2H HotX
structure ErrT (K : PySem.W.Frag) (mg : Str → Option Value) (g : Glob) (names alls : List Str) (made : Addr) : Prop where
  mg : ∀ n ∈ alls, mg n = some (.ref (g.cls n))
  exc : ∀ c ∈ names, ExcC K (g.cls c)
  kit : ∀ c ∈ names, ∀ n ∈ alls, PySem.W.kitOne K (.ref (g.cls c)) (.ref (g.cls n)) = some (decide (c = n))
  val : ∀ c ∈ names, PySem.W.kitOne K (.ref (g.cls c)) (.type "ValueError") = some true
  made : ∀ c ∈ names, PySem.W.exmOne K (.ref (g.cls c)) (.ref made) = some true
theorem roomH_hu {k : Nat} {A : Around} (r : RoomH k A) : A.units + 64 < cLine := by have := r.un; omega
theorem roomH_hu1 {k : Nat} {A : Around} (r : RoomH k A) : A.units + 1 < cLine := by have := r.un; omega
section
variable {X : Cx} {g : Glob} {W : WX}
theorem ve_isC (i : Nat) {names alls : List Str} {made : Addr} {x c n : Str} {p p1 p2 pos : Pos} {a : Addr} {oe : Obj} (T : ErrT X.K X.mg g names alls made) (hc : c ∈ names) (hz : Zc (.ref (g.cls c)) none oe) (hf : ∃ vs, oe.data = .fields vs) (hp : (a, oe) ∈ X.pn) (hm : X.mg "isinstance" = none) (hn : n ∈ alls)
    (hN : X.N[i]? = some x := by rfl) (hv : Vis X.env.scope x := by first | exact Or.inl rfl | exact Or.inr (Or.inl rfl) | exact Or.inr (Or.inr rfl)) (hd : (x == ("__debug__" : Str)) = false := by decide) (hcd : (x == ("__classdict__" : Str)) = false := by decide) (hg : Gl X "isinstance" := by rfl) (hgn : Gl X n := by rfl) (hdn : (n == ("__debug__" : Str)) = false := by decide)
    (he : starEach [.Name x p1, .Name n p2] X.env = (false, eval (.Name x p1) X.env) :: starEach [.Name n p2] X.env := by rfl) (he2 : starEach [.Name n p2] X.env = (false, eval (.Name n p2) X.env) :: starEach [] X.env := by rfl) (hpl : (backTo pos (starEach [.Name n p2] X.env)).any (·.1) = false := by rfl) :
    VE X g W (.Call (.Name "isinstance" p) [.Name x p1, .Name n p2] [] pos) (eIsE i a (decide (c = n))) :=
  ve_isE i (c := .ref (g.cls n)) (T.exc c hc) hz hf hp hm (pe_glob hgn (T.mg n hn) rfl hdn) (fun _ r => r) (T.kit c hc n hn) hN hv hd hcd hg he he2 hpl
theorem ve_isV (i : Nat) {names alls : List Str} {made : Addr} {x c : Str} {p p1 p2 pos : Pos} {a : Addr} {oe : Obj} (T : ErrT X.K X.mg g names alls made) (hc : c ∈ names) (hz : Zc (.ref (g.cls c)) none oe) (hf : ∃ vs, oe.data = .fields vs) (hp : (a, oe) ∈ X.pn) (hm : X.mg "isinstance" = none) (hmv : X.mg "ValueError" = none)
    (hN : X.N[i]? = some x := by rfl) (hv : Vis X.env.scope x := by first | exact Or.inl rfl | exact Or.inr (Or.inl rfl) | exact Or.inr (Or.inr rfl)) (hd : (x == ("__debug__" : Str)) = false := by decide) (hcd : (x == ("__classdict__" : Str)) = false := by decide) (hg : Gl X "isinstance" := by rfl) (hgn : Gl X "ValueError" := by rfl)
    (he : starEach [.Name x p1, .Name "ValueError" p2] X.env = (false, eval (.Name x p1) X.env) :: starEach [.Name "ValueError" p2] X.env := by rfl) (he2 : starEach [.Name "ValueError" p2] X.env = (false, eval (.Name "ValueError" p2) X.env) :: starEach [] X.env := by rfl) (hpl : (backTo pos (starEach [.Name "ValueError" p2] X.env)).any (·.1) = false := by rfl) :
    VE X g W (.Call (.Name "isinstance" p) [.Name x p1, .Name "ValueError" p2] [] pos) (eIsE i a true) :=
  ve_isE i (c := .ty "ValueError") (T.exc c hc) hz hf hp hm (pe_bltn (v := .ty "ValueError") hgn hmv (by decide +kernel) rfl (by decide) (by decide)) (fun _ r => r) (T.val c hc) hN hv hd hcd hg he he2 hpl
theorem vt_neH {k : Nat} {a b : Expr} {pos : Pos} {f h : Env → Res Dat} (hr : RoomH k X.A) (ha : VE X g W a f) (hb : VE X g W b h) : VT X g W (.Compare a [.NotEq] [b] pos) (eTest (eBin neD f h)) := vt_cmp (op_neA (roomH_hu hr)) opd_ne ha hb (nomark _)
theorem ve_ixH {k : Nat} {a b : Expr} {pos : Pos} {f h : Env → Res Dat} (hr : RoomH k X.A) (ha : VE X g W a f) (hb : VE X g W b h) (hs : PlainIx b := by exact fun _ _ => rfl) : VE X g W (.Subscript a b pos) (eBin ixD f h) := ve_ix (ix_any (roomH_hu1 hr)) opd_ix ha hb hs
end
/-- the table of the code objects that the def makes -/
structure LawTab (base : Heap) (mg : Str → Option Value) (g : Glob) (name : Str) (fd : FuncData) : Prop where
  ex : ∃ c P, LamX.TabB base mg c P ∧ fd.code = .ref c ∧ (P, name ++ ".<locals>." ++ "<lambda>") ∈ g.tabs ∧ ∀ p ∈ g.tabs, p.1 = P → p.2 = name ++ ".<locals>." ++ "<lambda>"
theorem LawTab.here {P : Program} {w : World} {K : PySem.W.Frag} {mg : Str → Option Value} {base : Heap} {g : Glob} {name : Str} {fd : FuncData} {CX : CXT} {N : List Str} {sc : Scope} {f : Addr} {cdv : Value} {A : Around} {outer : List PySem.Env} {s : Shared} {H : Hp} {E : XK} (T : LawTab base mg g name fd) (hcv : fd.code = cdv) : LamHere (cxOf CX P w K mg base N name sc f cdv A outer s H E) g := by
  obtain ⟨c, P, h1, h2, h3, h4⟩ := T.ex
  exact ⟨c, P, h1, hcv ▸ h2, h3, h4⟩
/-- the def that gets the error, by its mirror -/
theorem word_hot {P : Program} {w : World} {K : PySem.W.Frag} {mg : Str → Option Value} {base : Heap} {g : Glob} {k : Nat} {f : Addr} {fd : FuncData} {name : Str} {st : Stmt} {N : List Str} {x : Str} {b : Addr → Str → SEnv → SRes} {names : List Str}
    (F : Fun K name name st f fd) (S : FnScope N [x] (defScope st)) (hbind : ∀ (kV doc pm : Value) (an : Option Addr) (cdv ct : Value) (us : List Value), us.length = [x].length → bindArgs (PySem.W.fnOf name name (defArgs st) (defBody st) (defScope st) .none kV doc pm an cdv ct) ⟨us, []⟩ = pure ([x].zip us))
    (hb : ∀ (c : Str) (cdv : Value) (A : Around) (outer : List PySem.Env) (s : Shared) (H : Hp) (F0 : Hp) (a : Addr) (oe : Obj), c ∈ names → Zc (.ref (g.cls c)) none oe → (∃ vs, oe.data = .fields vs) → RoomH k (A.deeper (envOfC name (defScope st) s.heap.objs.size f cdv)) → HotC (cxH L2.CX0 P w K mg base N name (defScope st) f cdv A outer s H L2.E0 (a, oe)) →
      VSs (cxH L2.CX0 P w K mg base N name (defScope st) f cdv A outer s H L2.E0 (a, oe)) g W0 F0 H (defBody st) (b a c))
    (hres : ∀ c ∈ names, ∀ a, b a c (startS N.length [.opq a]) = .ret (.tup [.str "refused", .str c])) :
    WordOk P w K mg base g names (k + 1) f := by
  intro c hc A outer s H Q a oe F0 hr hot hpin e0 hz hf h1 h2 h3 h4
  have bd := F.binds hbind
  obtain ⟨oc, od, kV, doc, pm, an, cdv, ct, osl, rfl, lk, hcd⟩ := F.ex
  have KX : K.In s.heap := e0.mod.kin.keeps fun b o e => (e0.bs b o e).1
  refine run_hot lk hcd S hr hot hpin e0 (bd s [.ref a] KX rfl) fun hr' => ⟨_, hb c cdv A outer s H F0 a oe hc hz hf hr' ⟨(a, oe), hot, List.mem_singleton.mpr rfl⟩, startS N.length [.opq a], F0, start_rel h1 h2 h3 (.cons (.opq a) .nil), ?_⟩
  rw [hres c hc a]
  exact h4
end VL

/-! VL12: the end: from the mirror of the law to the walk. -/
namespace VL
open PySem PySem.Spec PyProof.Rows L2 L2H HotX
/-! ### facts of the written part -/
theorem kit_ref {K : PySem.W.Frag} {C D : Addr} {b : Bool} (hne : (C == D) = false) (hi : PySem.W.isClsIn K D = true) (ht : PySem.W.typeIn K (.ref D) = some (.type "type")) (hs : PySem.W.subIn K (.ref C) (.ref D) = some b) : PySem.W.kitOne K (.ref C) (.ref D) = some b := by
  have e2 : ((PySem.W.clsIn K D).isSome && PySem.W.typeIn K (.ref D) == some (.type "type")) = true := by
    have h2' : (PySem.W.clsIn K D).isSome = true := hi
    rw [h2', ht] <;> rfl
  have e1 : ((Value.ref C) == (Value.ref D)) = false := by
    cases q : ((Value.ref C) == (Value.ref D)) with
    | false => rfl
    | true =>
      have := beq_iff_eq.mp q
      cases this
      simp at hne
  unfold PySem.W.kitOne
  rw [e1, if_neg (by decide)]
  show (if ((PySem.W.clsIn K D).isSome && PySem.W.typeIn K (.ref D) == some (.type "type")) = true then PySem.W.subIn K (.ref C) (.ref D) else none) = _
  rw [if_pos e2]
  exact hs
theorem kit_self {K : PySem.W.Frag} {C : Addr} : PySem.W.kitOne K (.ref C) (.ref C) = some true := by
  unfold PySem.W.kitOne
  rw [if_pos (beq_iff_eq.mpr rfl)]
theorem kit_val {K : PySem.W.Frag} {C : Addr} (hs : PySem.W.subIn K (.ref C) (.type "ValueError") = some true) : PySem.W.kitOne K (.ref C) (.type "ValueError") = some true := by
  have e1 : ((Value.ref C) == (Value.type "ValueError")) = false := by
    cases q : ((Value.ref C) == (Value.type "ValueError")) with
    | false => rfl
    | true => cases beq_iff_eq.mp q
  unfold PySem.W.kitOne
  rw [e1, if_neg (by decide)]
  show (if PySem.W.kitMeta "ValueError" = true then PySem.W.subIn K (.ref C) (.type "ValueError") else none) = _
  rw [if_pos (by decide +kernel)]
  exact hs
theorem exm_ref {K : PySem.W.Frag} {C D : Addr} (hb : PySem.W.subIn K (.ref D) (.type "BaseException") = some true) (hi : PySem.W.isClsIn K D = true) (ht : PySem.W.typeIn K (.ref D) = some (.type "type")) (hs : PySem.W.subIn K (.ref C) (.ref D) = some true) : PySem.W.exmOne K (.ref C) (.ref D) = some true := by
  have e2 : ((PySem.W.clsIn K D).isSome && PySem.W.typeIn K (.ref D) == some (.type "type")) = true := by
    have h2' : (PySem.W.clsIn K D).isSome = true := hi
    rw [h2', ht] <;> rfl
  unfold PySem.W.exmOne
  rw [if_pos (by rw [hb]; rfl)]
  show (if ((PySem.W.clsIn K D).isSome && PySem.W.typeIn K (.ref D) == some (.type "type")) = true then PySem.W.subIn K (.ref C) (.ref D) else none) = _
  rw [if_pos e2]
  exact hs
/-- a code object, its table at P -/
def codeTab (vs : Array Value) (c P : Addr) : Bool := (match (vs[11]? : Option Value) with | some (.ref P') => P' == P | _ => false) &&
      (match vs.getD 18 .none with | .str _ _ => true | _ => false) && (match vs.getD 7 .none with | .int _ _ => true | _ => false) &&
      (match vs.getD 9 .none with | .bool _ => true | _ => false) && (match vs.getD 10 .none with | .int _ _ => true | _ => false) && c != P
theorem code_hd {K : PySem.W.Frag} {c P : Addr} {d : Option Addr} {vs : Array Value} {sl : Array (Option Value)} (l : K.lookup c = some ⟨.type "code", d, .fields vs, sl⟩) (h : codeTab vs c P = true) : PySem.W.codeHdIn K c P = true := by
  unfold PySem.W.codeHdIn
  rw [l]
  exact h
def clsOf (l : List (Str × Addr)) (n : Str) : Addr := (l.lookup n).getD 0
/-- what is frozen at the start: all but the tables -/
def noTb (H : Hp) : Hp := fun b => match H b with
  | some (.tbl _) => none
  | o => o
theorem noTb_sub (H : Hp) : Same (noTb H) H := fun a o e => by
  unfold noTb at e
  split at e
  · cases e
  · exact e
theorem noTb_nt (H : Hp) : ∀ a ps, noTb H a ≠ some (.tbl ps) := fun a ps e => by
  unfold noTb at e
  split at e
  · cases e
  · rename_i h; exact h ps e
theorem noTb_get {H : Hp} {a : Addr} {o : HO} (h : H a = some o) (n : ∀ ps, o ≠ .tbl ps) : noTb H a = some o := by
  unfold noTb
  rw [h]
  split
  · rename_i ps e; exact absurd (Option.some.inj e) (n ps)
  · rfl
theorem noTb_sq {K : PySem.W.Frag} {H : Hp} {a : Addr} {xs : List V} (h : SqL K H a xs) : SqL K (noTb H) a xs := by
  rcases h with (h | ⟨o, h⟩) | h
  · exact .inl (.inl (noTb_get h (by intro _ z; cases z)))
  · exact .inl (.inr ⟨o, noTb_get h (by intro _ z; cases z)⟩)
  · exact .inr h
theorem reps_ints' {K : PySem.W.Frag} {g : Glob} {F : Hp} : ∀ ns : List Int, Reps K g F (ns.map V.int) (ns.map Dat.int)
  | [] => .nil
  | n :: ns => .cons (.int n) (reps_ints' ns)
theorem law_sp {K : PySem.W.Frag} {g : Glob} {H : Hp} {a : Addr} {ns : List Int} {m : List Dat → Res Dat} (hT : LamX.Tabs g.tabs H) (hS : SqL K H a (ns.map V.int)) (hm : m [.rls (ns.map Dat.int)] = .ok (.bl true)) : spV K g m [.ref a] H (fun v _ => v = .bl true) fun _ _ _ => False := by
  refine ⟨noTb H, [.rls (ns.map Dat.int)], noTb_sub H, hT, noTb_nt H, .cons (.rls (noTb_sq hS) (reps_ints' ns)) .nil, ?_⟩
  rw [hm]
  intro v H' F' _ r
  cases r
  rfl
theorem tab_empty {H : Hp} {P : Addr} {q : Str} (h : H P = some (.tbl #[])) : LamX.Tabs [(P, q)] H := fun p hp => by
  cases List.mem_singleton.mp hp
  exact ⟨#[], h, trivial, fun _ _ z => by cases z⟩
theorem tabB_law {base : Heap} {mg : Str → Option Value} {g : Glob} {name : Str} {fd : FuncData} {c P : Addr} (hB : LamX.TabB base mg c P) (hc : fd.code = .ref c) (hg : g.tabs = [(P, name ++ ".<locals>." ++ "<lambda>")]) : LawTab base mg g name fd :=
  ⟨c, P, hB, hc, by rw [hg]; exact List.mem_singleton.mpr rfl, fun p hp _ => by rw [hg] at hp; cases List.mem_singleton.mp hp; rfl⟩
/-- the end of a law that makes lambdas -/
theorem walk_L {l : PySem.W.OpenLaw} {k : Nat} {q : Program} {loose : List Str} {XP : (Str → Option Value) → Heap → Prop} {YP : World → Heap → Prop} {d : DefRec} {K : Params → PySem.W.Frag} {m : List Dat → Res Dat}
    (hn : l.most = some 63) (hdf : d.params.defaults = []) (hk : k ≤ 200) (hrec : ((recsOf q).any fun e => e.name == d.name) = true) (hY : ∀ (w : World) (h : Heap), YP w h → (K w.params).In h)
    (F : ∀ (w : World) (mg : Str → Option Value) (fa : Addr) (h : Heap), (K w.params).In h → h.Ns mainGlobals mg → mg d.name = some (.ref fa) →
      ∃ (fd : FuncData) (cls : Str → Addr) (c P : Addr) (o : Obj), (K w.params).lookup fa = some o ∧ o.data = .func fd ∧ fd.code = .ref c ∧ PySem.W.codeHdIn (K w.params) c P = true ∧ (K w.params).lookup P = none ∧ (∀ (s : Shared) (u : Value), BindsTo s fd ⟨[u], []⟩ [("script", u)]) ∧
        ∀ base : Heap, (K w.params).In base → base.Ns mainGlobals mg → LamX.TabB base mg c P → FnOk l.prog w (K w.params) mg base (L2N.CX l.prog w) k fa fd ["script"] (spV (K w.params) ⟨cls, [(P, "law" ++ ".<locals>." ++ "<lambda>")]⟩ m))
    (hm : ∀ ns : List Int, ns.length ≤ 63 → (∀ z ∈ ns, Builtin.Int.intBits z ≤ 1048576) → m [.rls (ns.map Dat.int)] = .ok (.bl true)) :
    PySem.W.WalkO q loose XP YP l.row.toRowW d [] (fun f vs => PySem.call f vs) := by
  refine Att.attach_callB hn hdf fun w s₀ s₁ mg mb fa o pm cd doc a vs ns G Y ho hd hcd hmg hobj hints hlen hbits hg => ?_
  have KX := hY w _ Y
  obtain ⟨fd, cls, c, P, o1, k1, k2, k3, k4, k7, hb, hF⟩ := F w mg fa _ KX G.T.g hmg
  obtain ⟨dL, hm1, hn1⟩ := List.any_eq_true.mp hrec
  have hn2 : dL.name = d.name := beq_iff_eq.mp hn1
  obtain ⟨a', o', fd', c', P', h1, h2, h3, h4, h5, h6⟩ := G.T.tab dL hm1
  rw [hn2, hmg] at h1
  cases h1
  have g1 := KX _ _ k1
  rw [g1] at h2
  cases h2
  rw [k2] at h3
  cases h3
  rw [k3] at h4
  cases h4
  obtain ⟨⟨oc', vc', e1, _, e3, e4⟩, hP⟩ := h6
  have C := PySem.W.codeHd_of_K KX k4
  have C' := C
  obtain ⟨o2, us, _, _, _, _, _, _, _, r1, _, r3, r4, _⟩ := C'
  rw [r1] at e1
  cases e1
  rw [r3] at e3
  cases e3
  rw [r4] at e4
  cases e4
  have one : ∀ {p : Addr × Addr}, p ∈ [(c, P)] → p = (c, P) := fun h => List.mem_singleton.mp h
  exact LamX.law_callTs (cs := [(c, P)]) KX G.T.g G.T.b G.T.builtins G.T.nolimit hg (fun p hp => by rw [one hp]; exact hP) (fun p hp => by rw [one hp]; exact k7) (fun p hp => by rw [one hp]; exact C) G.T.bmain hobj hints (Nat.le_trans hlen (by decide)) ⟨rfl, by show (1 + claimMargin) + 3 * k + 5 < recursionLimit; unfold claimMargin recursionLimit; omega, by show _ + 16 * k + 200 < _; exact Nat.lt_of_le_of_lt (Nat.add_le_add_right (Nat.add_le_add_left (Nat.mul_le_mul_left 16 hk) _) 200) (by decide)⟩
    (fun base h1 h2 h3 => hF base h1 h2 (h3 _ (List.mem_singleton.mpr rfl))) hb (fun H hH hS => law_sp (tab_empty (hH _ (List.mem_singleton.mpr rfl))) hS (hm ns hlen hbits)) fun H e s' z => by
      obtain ⟨_, _, _, _, _, _, _, _, _, _, _, _, z⟩ := z
      exact z.elim
end VL

/-! VL13: reckoning with mirrors; no program here. -/
namespace VL
open PySem PySem.Spec PyProof.Rows L2

/-- a def of which nothing is said -/
theorem fn_stuck {P : Program} {w : World} {K : PySem.W.Frag} {mg : Str → Option Value} {base : Heap} {g : Glob} {CX : CXT} {k : Nat} {f : Addr} {fd : FuncData} {ps : List Str} : FnOk P w K mg base CX k f fd ps (spV K g fun _ => .stuck) where
  len := fun vs H Q E ⟨_, _, _, _, _, _, h⟩ => h.elim
  run := fun A outer s H args us vs Q E _ _ _ _ ⟨_, _, _, _, _, _, h⟩ => h.elim
/-! ### equations -/
section
variable {ρ : Env} {f h l : Env → Res Dat} {d e : Dat} {n : Nat}
@[simp] theorem eVar_zero {r : Env} : eVar 0 (some d :: r) = .ok d := Eq.trans rfl rfl
@[simp] theorem eVar_succ {o : Option Dat} {r : Env} : eVar (n + 1) (o :: r) = eVar n r := Eq.trans rfl rfl
@[simp] theorem eC_eq : eC d ρ = .ok d := Eq.trans rfl rfl
@[simp] theorem eBin_eq {op : Dat → Dat → Res Dat} : eBin op f h ρ = (f ρ).bind fun a => (h ρ).bind fun b => op a b := Eq.trans rfl rfl
@[simp] theorem eUn_eq {op : Dat → Res Dat} : eUn op f ρ = (f ρ).bind op := Eq.trans rfl rfl
@[simp] theorem eTest_eq : eTest f ρ = (f ρ).bind toB := Eq.trans rfl rfl
@[simp] theorem toB_bl {b : Bool} : toB (.bl b) = .ok b := Eq.trans rfl rfl
@[simp] theorem eIf_eq {c : Env → Res Bool} : eIf c f h ρ = (c ρ).bind fun b => if b = true then f ρ else h ρ := Eq.trans rfl rfl
@[simp] theorem eAnd_eq : eAnd f h ρ = (f ρ).bind fun a => (toB a).bind fun b => if b = true then h ρ else .ok (.bl false) := Eq.trans rfl rfl
@[simp] theorem eOr_eq : eOr f h ρ = (f ρ).bind fun a => (toB a).bind fun b => if b = true then .ok (.bl true) else h ρ := Eq.trans rfl rfl
@[simp] theorem eNot_eq : eNot f ρ = (f ρ).bind fun a => (toB a).bind fun b => .ok (.bl (!b)) := Eq.trans rfl rfl
@[simp] theorem bAnd_eq {a b : Env → Res Bool} : bAnd a b ρ = (a ρ).bind fun k => if k = true then b ρ else .ok false := Eq.trans rfl rfl
@[simp] theorem bOr_eq {a b : Env → Res Bool} : bOr a b ρ = (a ρ).bind fun k => if k = true then .ok true else b ρ := Eq.trans rfl rfl
@[simp] theorem bNot_eq {a : Env → Res Bool} : bNot a ρ = (a ρ).bind fun k => .ok (!k) := Eq.trans rfl rfl
@[simp] theorem aNil_eq : aNil ρ = .ok [] := Eq.trans rfl rfl
@[simp] theorem aCons_eq {as : Env → Res (List Dat)} : aCons f as ρ = (f ρ).bind fun a => (as ρ).bind fun b => .ok (a :: b) := Eq.trans rfl rfl
@[simp] theorem eCall_eq {m : List Dat → Res Dat} {as : Env → Res (List Dat)} : eCall m as ρ = (as ρ).bind m := Eq.trans rfl rfl
@[simp] theorem eTold_eq {names : List Str} : eTold names f ρ = toldR names (f ρ) := Eq.trans rfl rfl
@[simp] theorem toldR_ok {names : List Str} : toldR names (.ok d) = .ok d := Eq.trans rfl rfl
@[simp] theorem eChain_eq {o1 o2 : Dat → Dat → Res Dat} : eChain o1 o2 f h l ρ = (f ρ).bind fun a => (h ρ).bind fun b => (o1 a b).bind fun u => (toB u).bind fun k => if k = true then (l ρ).bind fun c => o2 b c else .ok (.bl false) := Eq.trans rfl rfl
@[simp] theorem iArg_eq {k : List Dat → Res (List Dat)} {as : Env → Res (List Dat)} : iArg k as ρ = (as ρ).bind k := Eq.trans rfl rfl
@[simp] theorem iSeq_eq : iSeq f ρ = (f ρ).bind seqD := Eq.trans rfl rfl
@[simp] theorem bYes_eq : bYes ρ = .ok true := Eq.trans rfl rfl
@[simp] theorem oNone_eq : oNone ρ = .ok none := Eq.trans rfl rfl
@[simp] theorem oSome_eq : oSome f ρ = (f ρ).bind toI := Eq.trans rfl rfl
@[simp] theorem toI_int {i : Int} : toI (.int i) = .ok (some i) := Eq.trans rfl rfl
@[simp] theorem eSl_eq {a b : Env → Res (Option Int)} : eSl f a b ρ = (f ρ).bind fun x => (a ρ).bind fun lo => (b ρ).bind fun hi => slD x lo hi := Eq.trans rfl rfl
end
@[simp] theorem eLst_def {as : Env → Res (List Dat)} {ρ : Env} : eLst as ρ = (as ρ).bind fun ds => if ds.length ≤ big then .ok (.lst ds) else .stuck := Eq.trans rfl rfl
@[simp] theorem eTup_def {as : Env → Res (List Dat)} {ρ : Env} : eTup as ρ = (as ρ).bind fun ds => if ds.length ≤ big then .ok (.tup ds) else .stuck := Eq.trans rfl rfl
theorem le_big {n : Nat} (h : n ≤ 1000) : n ≤ big := Nat.le_trans h (by decide)
@[simp] theorem le_big_t {n : Nat} (h : n ≤ 1000) : (n ≤ big) = True := eq_true (le_big h)
theorem eLst_eq {as : Env → Res (List Dat)} {ρ : Env} {ds : List Dat} (h : as ρ = .ok ds) (hl : ds.length ≤ big) : eLst as ρ = .ok (.lst ds) := by
  unfold eLst; rw [h]; show (if ds.length ≤ big then _ else _) = _; rw [if_pos hl]
theorem eTup_eq {as : Env → Res (List Dat)} {ρ : Env} {ds : List Dat} (h : as ρ = .ok ds) (hl : ds.length ≤ big) : eTup as ρ = .ok (.tup ds) := by
  unfold eTup; rw [h]; show (if ds.length ≤ big then _ else _) = _; rw [if_pos hl]
section
variable {i j : Int}
@[simp] theorem addD_int : addD (.int i) (.int j) = .ok (.int (i + j)) := Eq.trans rfl rfl
@[simp] theorem subD_int : subD (.int i) (.int j) = .ok (.int (i - j)) := Eq.trans rfl rfl
theorem mulD_int (h : mulOk i j = true) : mulD (.int i) (.int j) = .ok (.int (i * j)) := if_pos h
theorem mulOk_r (h1 : -18446744073709551616 < j) (h2 : j < 18446744073709551616) : mulOk i j = true := by
  simp only [mulOk, Bool.or_eq_true, Bool.and_eq_true, decide_eq_true_eq]
  first | exact .inl (.inr ⟨h1, h2⟩) | exact .inl (.inl ⟨h1, h2⟩) | exact .inr ⟨h1, h2⟩
theorem mulOk_l (h1 : -18446744073709551616 < i) (h2 : i < 18446744073709551616) : mulOk i j = true := by
  simp only [mulOk, Bool.or_eq_true, Bool.and_eq_true, decide_eq_true_eq]
  first | exact .inl (.inr ⟨h1, h2⟩) | exact .inl (.inl ⟨h1, h2⟩) | exact .inr ⟨h1, h2⟩
theorem mulOk_w (h1 : i.natAbs < 1606938044258990275541962092341162602522202993782792835301376) (h2 : j.natAbs < 1606938044258990275541962092341162602522202993782792835301376) : mulOk i j = true := by
  simp only [mulOk, Bool.or_eq_true, Bool.and_eq_true, decide_eq_true_eq]
  first | exact .inl (.inr ⟨h1, h2⟩) | exact .inl (.inl ⟨h1, h2⟩) | exact .inr ⟨h1, h2⟩
theorem mulD_r (h1 : -18446744073709551616 < j) (h2 : j < 18446744073709551616) : mulD (.int i) (.int j) = .ok (.int (i * j)) := mulD_int (mulOk_r h1 h2)
theorem mulD_l (h1 : -18446744073709551616 < i) (h2 : i < 18446744073709551616) : mulD (.int i) (.int j) = .ok (.int (i * j)) := mulD_int (mulOk_l h1 h2)
theorem modD_int (h : 0 < j) : modD (.int i) (.int j) = .ok (.int (i % j)) := if_pos h
theorem fdivD_int (h : 0 < j) (h2 : j < 18446744073709551616) : fdivD (.int i) (.int j) = .ok (.int (i / j)) := if_pos ⟨h, Int.lt_trans h2 (by decide)⟩
@[simp] theorem ltD_int : ltD (.int i) (.int j) = .ok (.bl (decide (i < j))) := Eq.trans rfl rfl
@[simp] theorem leD_int : leD (.int i) (.int j) = .ok (.bl (decide (i ≤ j))) := Eq.trans rfl rfl
@[simp] theorem gtD_int : gtD (.int i) (.int j) = .ok (.bl (decide (i > j))) := Eq.trans rfl rfl
@[simp] theorem geD_int : geD (.int i) (.int j) = .ok (.bl (decide (i ≥ j))) := Eq.trans rfl rfl
@[simp] theorem eqD_int : eqD (.int i) (.int j) = .ok (.bl (i == j)) := Eq.trans rfl rfl
@[simp] theorem neD_int : neD (.int i) (.int j) = .ok (.bl (!(i == j))) := Eq.trans rfl rfl
theorem rng1_int (h : -4611686018427387904 ≤ j) (h2 : j < 4611686018427387904) : rng1D [.int j] = .ok (rangeL 0 j) := if_pos ⟨h, h2⟩
theorem rng2_int (h : -4611686018427387904 ≤ i) (h2 : i < 4611686018427387904) (h3 : -4611686018427387904 ≤ j) (h4 : j < 4611686018427387904) : rng2D [.int i, .int j] = .ok (rangeL i j) := if_pos ⟨h, h2, h3, h4⟩
@[simp] theorem lenD_lst {xs : List Dat} : lenD [.lst xs] = .ok (.int xs.length) := Eq.trans rfl rfl
@[simp] theorem lenD_rls {xs : List Dat} : lenD [.rls xs] = .ok (.int xs.length) := Eq.trans rfl rfl
@[simp] theorem lenD_tup {xs : List Dat} : lenD [.tup xs] = .ok (.int xs.length) := Eq.trans rfl rfl
@[simp] theorem minD_int : minD [.int i, .int j] = .ok (.int (if j < i then j else i)) := Eq.trans rfl rfl
@[simp] theorem maxD_int : maxD [.int i, .int j] = .ok (.int (if j > i then j else i)) := Eq.trans rfl rfl
end
theorem intsD_map : ∀ ns : List Int, intsD (ns.map Dat.int) = some ns
  | [] => rfl
  | n :: ns => by show (intsD (ns.map Dat.int)).map (n :: ·) = _; rw [intsD_map ns]; rfl
theorem strsD_map : ∀ ns : List Str, strsD (ns.map Dat.str) = some ns
  | [] => rfl
  | n :: ns => by show (strsD (ns.map Dat.str)).map (n :: ·) = _; rw [strsD_map ns]; rfl
theorem sumD_ints (ns : List Int) : sumD [.lst (ns.map Dat.int)] = .ok (.int ns.sum) := by
  show (match intsD (ns.map Dat.int) with | some ns => Res.ok (Dat.int ns.sum) | none => Res.stuck) = _
  rw [intsD_map]
theorem iArg_of {k : List Dat → Res (List Dat)} {as : Env → Res (List Dat)} {ρ : Env} {ds xs : List Dat} (h : as ρ = .ok ds) (h2 : k ds = .ok xs) : iArg k as ρ = .ok xs := by
  rw [iArg_eq, h, Res.bind_ok, h2]
theorem call1 {m : List Dat → Res Dat} {F : Env → Res Dat} {ρ : Env} {a d : Dat} (h1 : F ρ = .ok a) (h : m [a] = .ok d) : eCall m (aCons F aNil) ρ = .ok d := by
  rw [eCall_eq, aCons_eq, h1, Res.bind_ok, aNil_eq, Res.bind_ok, Res.bind_ok, h]
theorem call2 {m : List Dat → Res Dat} {F G : Env → Res Dat} {ρ : Env} {a b d : Dat} (h1 : F ρ = .ok a) (h2 : G ρ = .ok b) (h : m [a, b] = .ok d) : eCall m (aCons F (aCons G aNil)) ρ = .ok d := by
  rw [eCall_eq, aCons_eq, h1, Res.bind_ok, aCons_eq, h2, Res.bind_ok, aNil_eq, Res.bind_ok, Res.bind_ok, Res.bind_ok, h]
theorem call3 {m : List Dat → Res Dat} {F G I : Env → Res Dat} {ρ : Env} {a b c d : Dat} (h1 : F ρ = .ok a) (h2 : G ρ = .ok b) (h3 : I ρ = .ok c) (h : m [a, b, c] = .ok d) : eCall m (aCons F (aCons G (aCons I aNil))) ρ = .ok d := by
  rw [eCall_eq, aCons_eq, h1, Res.bind_ok, aCons_eq, h2, Res.bind_ok, aCons_eq, h3, Res.bind_ok, aNil_eq, Res.bind_ok, Res.bind_ok, Res.bind_ok, Res.bind_ok, h]
theorem call4 {m : List Dat → Res Dat} {F G I J : Env → Res Dat} {ρ : Env} {a b c e d : Dat} (h1 : F ρ = .ok a) (h2 : G ρ = .ok b) (h3 : I ρ = .ok c) (h4 : J ρ = .ok e) (h : m [a, b, c, e] = .ok d) : eCall m (aCons F (aCons G (aCons I (aCons J aNil)))) ρ = .ok d := by
  rw [eCall_eq, aCons_eq, h1, Res.bind_ok, aCons_eq, h2, Res.bind_ok, aCons_eq, h3, Res.bind_ok, aCons_eq, h4, Res.bind_ok, aNil_eq, Res.bind_ok, Res.bind_ok, Res.bind_ok, Res.bind_ok, Res.bind_ok, h]
/-! ### x[i] -/
theorem atI_of {α : Type} {xs : List α} {i : Int} {x : α} (h0 : 0 ≤ i) (h : xs[i.toNat]? = some x) : atI xs i = some x := by
  have hl : i.toNat < xs.length := (List.getElem?_eq_some_iff.mp h).1
  unfold atI ixN
  rw [if_pos h0, if_pos (by omega)]
  exact h
theorem ixD_lst {xs : List Dat} {i : Int} {d : Dat} (h0 : 0 ≤ i) (h : xs[i.toNat]? = some d) : ixD (.lst xs) (.int i) = .ok d := by
  show (match atI xs i with | some d => Res.ok d | none => Res.stuck) = _
  rw [atI_of h0 h]
theorem ixD_rls {xs : List Dat} {i : Int} {d : Dat} (h0 : 0 ≤ i) (h : xs[i.toNat]? = some d) : ixD (.rls xs) (.int i) = .ok d := by
  show (match atI xs i with | some d => Res.ok d | none => Res.stuck) = _
  rw [atI_of h0 h]
theorem ixD_tup {xs : List Dat} {i : Int} {d : Dat} (h0 : 0 ≤ i) (h : xs[i.toNat]? = some d) : ixD (.tup xs) (.int i) = .ok d := by
  show (match atI xs i with | some d => Res.ok d | none => Res.stuck) = _
  rw [atI_of h0 h]
theorem ixD_str {z : Str} {i : Int} {c : Nat} (hz : z.length ≤ big) (h0 : 0 ≤ i) (h : z.cps.toList[i.toNat]? = some c) : ixD (.str z) (.int i) = .ok (.str ⟨#[c]⟩) := by
  show (if z.length ≤ big then match atI z.cps.toList i with | some c => Res.ok (Dat.str ⟨#[c]⟩) | none => Res.stuck else .stuck) = _
  rw [if_pos hz, atI_of h0 h]
/-! ### == of a thing and itself -/
def sameD (d : Dat) : Bool := match toPy d with
  | some x => SeqAt.shaped x
  | none => false
mutual
theorem eqv_refl0 : ∀ d : PyData, PyData.canLay0 d = true → PyData.eqv d d = true
  | .none, _ => rfl
  | .bool b, _ => by simp [PyData.eqv]
  | .int i, _ => by simp [PyData.eqv]
  | .str x, _ => by simp [PyData.eqv]
  | .list xs, h => by rw [PyData.eqv]; exact eqvAll_refl0 xs h
  | .tuple xs, h => by rw [PyData.eqv]; exact eqvAll_refl0 xs h
  | .dict _, h => nomatch h
theorem eqvAll_refl0 : ∀ xs : List PyData, PyData.canLayAll0 xs = true → PyData.eqvAll xs xs = true
  | [], _ => rfl
  | x :: xs, h => by
    have h' : PyData.canLay0 x = true ∧ PyData.canLayAll0 xs = true := by simpa [PyData.canLayAll0] using h
    show (PyData.eqv x x && PyData.eqvAll xs xs) = true
    rw [eqv_refl0 x h'.1, eqvAll_refl0 xs h'.2]; rfl
end
theorem eqPy_self {d : Dat} (h : sameD d = true) : eqPy d d = some true := by
  unfold sameD at h
  cases e : toPy d with
  | none => rw [e] at h; cases h
  | some x =>
    rw [e] at h
    have h' : SeqAt.shaped x = true := h
    unfold eqPy
    rw [e]
    show (if (SeqAt.shaped x && SeqAt.shaped x) = true then some (PyData.eqv x x) else none) = _
    rw [h', if_pos (by rfl), eqv_refl0 x (SeqAt.canLay_of_shaped h')]
theorem eqB_self {d : Dat} (h : sameD d = true) : eqB d d = some true := by
  unfold eqB
  split
  · simp
  · exact eqPy_self h
theorem neD_self {d : Dat} (h : sameD d = true) : neD d d = .ok (.bl false) := by unfold neD; rw [eqB_self h]; rfl
theorem eqD_self {d : Dat} (h : sameD d = true) : eqD d d = .ok (.bl true) := by unfold eqD; rw [eqB_self h]
theorem ne_self {F G : Env → Res Dat} {ρ : Env} {d : Dat} (h1 : F ρ = .ok d) (h2 : G ρ = .ok d) (hd : sameD d = true) : eTest (eBin neD F G) ρ = .ok false := by
  rw [eTest_eq, eBin_eq, h1, Res.bind_ok, h2, Res.bind_ok, neD_self hd]; rfl
theorem toPys_ints : ∀ ns : List Int, toPys (ns.map Dat.int) = some (ns.map PyData.int)
  | [] => by simp [toPys]
  | n :: ns => by
    rw [List.map_cons, toPys, toPys_ints ns]
    rfl
theorem canLay_ints : ∀ ns : List Int, PyData.canLayAll0 (ns.map PyData.int) = true
  | [] => rfl
  | n :: ns => by show (PyData.canLay0 (.int n) && PyData.canLayAll0 (ns.map PyData.int)) = true; rw [canLay_ints ns]; rfl
theorem depth_ints : ∀ ns : List Int, PyData.depthAll (ns.map PyData.int) = 0
  | [] => rfl
  | n :: ns => by show max (PyData.depth (.int n)) (PyData.depthAll (ns.map PyData.int)) = 0; rw [depth_ints ns]; rfl
theorem shaped_ints (ns : List Int) : SeqAt.shaped (.list (ns.map PyData.int)) = true := by
  show (PyData.canLayAll0 (ns.map PyData.int) && decide (PyData.depthAll (ns.map PyData.int) + 1 ≤ 64)) = true
  rw [canLay_ints, depth_ints]; rfl
theorem sameD_ints (ns : List Int) : sameD (.lst (ns.map Dat.int)) = true := by
  unfold sameD
  show (match (toPys (ns.map Dat.int)).map PyData.list with | some x => SeqAt.shaped x | none => false) = true
  rw [toPys_ints]
  exact shaped_ints ns
theorem sameD_str {z : Str} (h : z.cps.all (· < 0x110000) = true) : sameD (.str z) = true := by
  show (PyData.canLay0 (.str z) && true) = true
  rw [Bool.and_true]; exact h
theorem eqD_rls_nil (ns : List Int) : eqD (.rls (ns.map Dat.int)) (.lst []) = .ok (.bl (ns.isEmpty)) := by
  have : eqB (.rls (ns.map Dat.int)) (.lst []) = some ns.isEmpty := by
    unfold eqB eqPy
    show (match (toPys (ns.map Dat.int)).map PyData.list, (toPys []).map PyData.list with | some x, some y => (if (SeqAt.shaped x && SeqAt.shaped y) = true then some (PyData.eqv x y) else none) | _, _ => none) = _
    rw [toPys_ints, show toPys [] = some [] by simp [toPys]]
    show (if (SeqAt.shaped (.list (ns.map PyData.int)) && SeqAt.shaped (.list [])) = true then some (PyData.eqv (.list (ns.map PyData.int)) (.list [])) else none) = _
    rw [shaped_ints, if_pos (by decide)]
    cases ns <;> rfl
  unfold eqD; rw [this]

theorem len_of {F : Env → Res Dat} {ρ : Env} {xs : List Dat} (h : F ρ = .ok (.lst xs)) : eCall lenD (aCons F aNil) ρ = .ok (.int xs.length) := by
  show ((F ρ).bind fun a => Res.ok [a]).bind lenD = _
  rw [h]; rfl
theorem gt_len {F : Env → Res Dat} {ρ : Env} {xs : List Dat} (h : F ρ = .ok (.lst xs)) : eTest (eBin gtD (eCall lenD (aCons F aNil)) (eC (.int 0))) ρ = .ok (decide ((xs.length : Int) > 0)) := by
  rw [eTest_eq, eBin_eq, len_of h]; rfl
theorem sum_of {F : Env → Res Dat} {ρ : Env} {ns : List Int} (h : F ρ = .ok (.lst (ns.map Dat.int))) : eCall sumD (aCons F aNil) ρ = .ok (.int ns.sum) := by
  show ((F ρ).bind fun a => Res.ok [a]).bind sumD = _
  rw [h]; exact sumD_ints ns
/-! ### statements -/
section
variable {ρ : SEnv} {a b : SEnv → SRes} {js : List Nat}
def SRes.thn (r : SRes) (b : SEnv → SRes) : SRes := match r with
  | .next ρ' => b ρ'
  | r => r
@[simp] theorem sSeq_eq : sSeq a b ρ = (a ρ).thn b := Eq.trans rfl rfl
theorem sSeq_step {ρ' : SEnv} (h : a ρ = .next ρ') : sSeq a b ρ = b ρ' := by show (a ρ).thn b = _; rw [h]; rfl
@[simp] theorem thn_next : (SRes.next ρ).thn b = b ρ := Eq.trans rfl rfl
@[simp] theorem thn_ret {d : Dat} : (SRes.ret d).thn b = .ret d := Eq.trans rfl rfl
@[simp] theorem thn_exc {c : Str} : (SRes.exc c).thn b = .exc c := Eq.trans rfl rfl
@[simp] theorem thn_stuck : SRes.stuck.thn b = .stuck := Eq.trans rfl rfl
theorem frzF_nil : ∀ (ρ : SEnv) (n : Nat), frzF [] n ρ = ρ
  | [], _ => rfl
  | none :: r, n => by show none :: frzF [] (n + 1) r = _; rw [frzF_nil]
  | some (.frz d) :: r, n => by show some (.frz d) :: frzF [] (n + 1) r = _; rw [frzF_nil]
  | some (.own d) :: r, n => by show (if n ∈ ([] : List Nat) then some (Slot.frz (.lst d)) else some (.own d)) :: frzF [] (n + 1) r = _; rw [frzF_nil, if_neg (by simp)]
@[simp] theorem freeze_nil : freeze [] ρ = ρ := frzF_nil ρ 0
@[simp] theorem after_nil {d : Dat} : after [] ρ d = ρ := by unfold after; split <;> simp
@[simp] theorem afterL_nil {ds : List Dat} : afterL [] ρ ds = ρ := by unfold afterL; split <;> simp
@[simp] theorem sIf_eq {c : Env → Res Bool} : sIf js c a b ρ = (c (view js ρ)).toS fun k => if k = true then a ρ else b ρ := Eq.trans rfl rfl
@[simp] theorem sSet_eq {i : Nat} {f : Env → Res Dat} : sSet i js f ρ = (f (view js ρ)).toS fun d => .next ((after js ρ d).set i (some (.frz d))) := Eq.trans rfl rfl
theorem sNext_eq' : sNext ρ = .next ρ := rfl
theorem sSet_step {i : Nat} {f : Env → Res Dat} {d : Dat} (h : f (view [] ρ) = .ok d) : sSeq (sSet i [] f) b ρ = b (ρ.set i (some (.frz d))) := by
  refine sSeq_step ?_
  show (f (view [] ρ)).toS _ = _
  rw [h]
  show SRes.next ((after [] ρ d).set i _) = _
  rw [after_nil]
theorem sIf_no {c : Env → Res Bool} (h : c (view [] ρ) = .ok false) : sSeq (sIf [] c a sNext) b ρ = b ρ := by
  refine sSeq_step ?_
  show (c (view [] ρ)).toS _ = _
  rw [h]; rfl
theorem sIf_end {c : Env → Res Bool} (h : c (view [] ρ) = .ok false) : sIf [] c a sNext ρ = .next ρ := by
  rw [sIf_eq, h, Res.toS_ok, if_neg (by decide), sNext_eq']
@[simp] theorem sRet_eq {f : Env → Res Dat} : sRet js f ρ = (f (view js ρ)).toS fun d => .ret d := Eq.trans rfl rfl
@[simp] theorem sExpr_eq {f : Env → Res Dat} : sExpr js f ρ = (f (view js ρ)).toS fun d => .next (after js ρ d) := Eq.trans rfl rfl
@[simp] theorem sNext_eq : sNext ρ = .next ρ := Eq.trans rfl rfl
@[simp] theorem sRaise_eq {c : Str} : sRaise c ρ = .exc c := Eq.trans rfl rfl
@[simp] theorem sFor_eq {f : Env → Res (List Dat)} {p : Pat} : sFor js f p b ρ = (f (view js ρ)).toS fun ds => forD p b ds (freeze js ρ) := Eq.trans rfl rfl
@[simp] theorem sWhile_eq {n : Nat} {c : Env → Res Bool} : sWhile n js c b ρ = whileD js c b n ρ := Eq.trans rfl rfl
@[simp] theorem sPar_eq {i j : Nat} {f : Env → Res (List Dat)} : sPar i j js f ρ = (f (view js ρ)).toS (parS i j js ρ) := Eq.trans rfl rfl
@[simp] theorem parS_eq {i j : Nat} {x y : Dat} : parS i j js ρ [x, y] = .next (((afterL js ρ [x, y]).set i (some (.frz x))).set j (some (.frz y))) := Eq.trans rfl rfl
@[simp] theorem view_eq : view js ρ = viewF js 0 ρ := Eq.trans rfl rfl
@[simp] theorem viewF_nil {n : Nat} : viewF js n [] = [] := Eq.trans rfl rfl
@[simp] theorem viewF_cons {n : Nat} {s : Option Slot} {r : SEnv} : viewF js n (s :: r) = viewAt js n s :: viewF js (n + 1) r := Eq.trans rfl rfl
@[simp] theorem viewAt_frz {n : Nat} {d : Dat} : viewAt js n (some (.frz d)) = some d := Eq.trans rfl rfl
@[simp] theorem retOf_ret {d : Dat} : retOf (.ret d) = .ok d := Eq.trans rfl rfl
@[simp] theorem retOf_exc {c : Str} : retOf (.exc c) = .exc c := Eq.trans rfl rfl
@[simp] theorem retOf_next : retOf (.next ρ) = .ok .non := Eq.trans rfl rfl
end
theorem defD_open {n l : Nat} {b : SEnv → SRes} {ds : List Dat} (h : ds.length = n) : defD n l b ds = retOf (b (startS l ds)) := if_pos h
theorem forD_inv {p : Pat} {b : SEnv → SRes} {ds : List Dat} {ρ : SEnv} (I : Nat → SEnv → Prop) (h0 : I 0 ρ) (hs : ∀ (i : Nat) (d : Dat) (ρ : SEnv), ds[i]? = some d → I i ρ → ∃ us ρ', bindU p d = some us ∧ b (setS ρ us) = .next ρ' ∧ I (i + 1) ρ') : ∃ ρ', forD p b ds ρ = .next ρ' ∧ I ds.length ρ' := by
  have key : ∀ (ds : List Dat) (n : Nat) (ρ : SEnv), I n ρ → (∀ (i : Nat) (d : Dat) (ρ : SEnv), ds[i]? = some d → I (n + i) ρ → ∃ us ρ', bindU p d = some us ∧ b (setS ρ us) = .next ρ' ∧ I (n + i + 1) ρ') → ∃ ρ', forD p b ds ρ = .next ρ' ∧ I (n + ds.length) ρ' := by
    intro ds
    induction ds with
    | nil => exact fun n ρ h _ => ⟨ρ, rfl, h⟩
    | cons d r ih =>
      intro n ρ h hs
      obtain ⟨us, ρ', e1, e2, e3⟩ := hs 0 d ρ rfl h
      obtain ⟨ρ2, e4, e5⟩ := ih (n + 1) ρ' e3 fun i d ρ hd hi => by
        have q := hs (i + 1) d ρ (by simpa using hd)
        rw [show n + (i + 1) = n + 1 + i by omega] at q
        exact q hi
      refine ⟨ρ2, ?_, by rw [List.length_cons, show n + (r.length + 1) = n + 1 + r.length by omega]; exact e5⟩
      show (match bindU p d with | none => SRes.stuck | some us => (b (setS ρ us)).turn (forD p b r)) = _
      rw [e1]
      show (b (setS ρ us)).turn (forD p b r) = _
      rw [e2]
      exact e4
  obtain ⟨ρ', h1, h2⟩ := key ds 0 ρ h0 fun i d ρ hd hi => by
    rw [Nat.zero_add] at hi ⊢
    exact hs i d ρ hd hi
  exact ⟨ρ', h1, by rw [Nat.zero_add] at h2; exact h2⟩
theorem whileD_inv {js : List Nat} {c : Env → Res Bool} {b : SEnv → SRes} (I : SEnv → Prop) (μ : SEnv → Nat) (hs : ∀ ρ, I ρ → ∃ k, c (view js ρ) = .ok k ∧ (k = true → ∃ ρ', b ρ = .next ρ' ∧ I ρ' ∧ μ ρ' < μ ρ)) : ∀ (n : Nat) (ρ : SEnv), I ρ → μ ρ < n → ∃ ρ', whileD js c b n ρ = .next ρ' ∧ I ρ' ∧ c (view js ρ') = .ok false
  | 0, _, _, h => absurd h (Nat.not_lt_zero _)
  | n + 1, ρ, hI, hn => by
    obtain ⟨k, e, q⟩ := hs ρ hI
    cases k with
    | false => exact ⟨ρ, by unfold whileD; rw [e]; rfl, hI, e⟩
    | true =>
      obtain ⟨ρ', e2, hI', hm⟩ := q rfl
      obtain ⟨ρ2, e3, e4, e5⟩ := whileD_inv I μ hs n ρ' hI' (by omega)
      refine ⟨ρ2, ?_, e4, e5⟩
      unfold whileD
      rw [e]
      show (b ρ).turn _ = _
      rw [e2]
      exact e3
/-! ### texts -/
theorem addD_str {a b : Str} (h : a.length + b.length ≤ big) : addD (.str a) (.str b) = .ok (.str (a ++ b)) := if_pos h
theorem addD_lst {a b : List Dat} (h : a.length + b.length ≤ big) : addD (.lst a) (.lst b) = .ok (.lst (a ++ b)) := if_pos h
abbrev Sx (l : List Nat) : Str := ⟨l.toArray⟩
theorem Sx_app (a b : List Nat) : Sx a ++ Sx b = Sx (a ++ b) := by
  show (⟨a.toArray ++ b.toArray⟩ : Str) = ⟨(a ++ b).toArray⟩
  rw [List.append_toArray]
theorem Sx_len (a : List Nat) : (Sx a).length = a.length := by simp [Sx, Str.length]
theorem Sx_ok {a : List Nat} (h : ∀ c ∈ a, c < 0x110000) : sameD (.str (Sx a)) = true := sameD_str (by
  show a.toArray.all (· < 0x110000) = true
  rw [← Array.all_toList]
  exact List.all_eq_true.mpr fun c hc => decide_eq_true (h c hc))
theorem joinL_nil : ∀ ys : List (List Nat), TL.joinL [] ys = ys.flatten
  | [] => rfl
  | [p] => by show p = p ++ []; rw [List.append_nil]
  | p :: q :: r => by
    show p ++ ([] ++ TL.joinL [] (q :: r)) = _
    rw [joinL_nil (q :: r), List.nil_append]; rfl
theorem join_nil (ys : List (List Nat)) : Txt.join (Sx []) (ys.map Sx) = Sx ys.flatten := by
  have := SX.join_S [] ys
  rw [joinL_nil] at this
  exact this
/-! ### comprehensions -/
theorem lcD_nm {i : Nat} {t : Env → Res Bool} {f : Env → Res Dat} {ρ : Env} {α : Type} {y : α → Dat} {x : α → Dat} {tb : α → Bool} : ∀ xs : List α, (∀ a ∈ xs, t (ρ.set i (some (x a))) = .ok (tb a) ∧ (tb a = true → f (ρ.set i (some (x a))) = .ok (y a))) → lcD (.nm i) t f ρ (xs.map x) = .ok ((xs.filter tb).map y)
  | [], _ => rfl
  | a :: xs, h => by
    obtain ⟨h1, h2⟩ := h a (by simp)
    have ih := lcD_nm xs fun a ha => h a (List.mem_cons_of_mem _ ha)
    show (nx (t (ρ.set i (some (x a))))).bind _ = _
    rw [h1]
    show (if tb a = true then (nx (f (ρ.set i (some (x a))))).bind fun y => (lcD (.nm i) t f ρ (xs.map x)).bind fun ys => .ok (y :: ys) else lcD (.nm i) t f ρ (xs.map x)) = _
    by_cases q : tb a = true
    · rw [if_pos q, h2 q, ih, List.filter_cons_of_pos q]; rfl
    · rw [if_neg q, ih, List.filter_cons_of_neg q]
theorem lcD_all {i : Nat} {f : Env → Res Dat} {ρ : Env} {α : Type} {y : α → Dat} {x : α → Dat} (xs : List α) (h : ∀ a ∈ xs, f (ρ.set i (some (x a))) = .ok (y a)) : lcD (.nm i) bYes f ρ (xs.map x) = .ok (xs.map y) := by
  have := lcD_nm (t := bYes) (tb := fun _ => true) xs fun a ha => ⟨rfl, fun _ => h a ha⟩
  rw [List.filter_eq_self.mpr (by simp)] at this
  exact this
theorem rangeL_eq (a b : Int) : rangeL a b = (List.range (b - a).toNat).map fun (i : Nat) => Dat.int (a + (i : Int)) := rfl
theorem eLc_eq {fi : Env → Res (List Dat)} {p : Pat} {t : Env → Res Bool} {f : Env → Res Dat} {vs : List Nat} {ρ : Env} {ds ys : List Dat} (h : fi ρ = .ok ds) (hl : ds.length ≤ big) (h2 : lcD p t f (wipeE ρ vs) ds = .ok ys) : eLc fi p t f vs ρ = .ok (.lst ys) := by
  unfold eLc
  rw [h]
  show (if ds.length ≤ big then (lcD p t f (wipeE ρ vs) ds).bind (fun ys => Res.ok (Dat.lst ys)) else .stuck) = _
  rw [if_pos hl, h2]; rfl
end VL

/-! VL14: x[::-1] of a list or a tuple. -/
namespace VL
open PySem PySem.Spec PyProof.Rows L2
section
variable {prog : Program} {w : World} {A : Around} {E : Value → Shared → Prop} {s : Shared}
theorem places_rev (n : Nat) : Builtin.Slice.slicePlaces ((n : Int) - 1) (-1) (-1) = n := by
  unfold Builtin.Slice.slicePlaces
  rw [if_neg (by decide)]
  by_cases h : (n : Int) - 1 > -1
  · rw [if_pos h, show (- -1 : Int) = 1 by decide, Int.ediv_one]; omega
  · rw [if_neg h]; omega
theorem applied_rev {sl : Addr} {vs : Value} {n : Nat} {Q : Int × Int × Nat → Shared → Prop} (hs : s.heap.IsSliceOf sl .none .none vs) (ps : IsPart vs (some (-1))) (h : Q ((n : Int) - 1, -1, n) s) : wpAny (model prog w) A (Builtin.Slice.sliceApplied (.ref sl) (pure (n : Int))) Q E s := by
  obtain ⟨o, g1, g2, g3⟩ := id hs
  unfold Builtin.Slice.sliceApplied Builtin.Slice.sliceFields
  refine wpAny_bind (wpAny_bind (wpAny_field g1 g3 (x := .none) rfl (wpAny_bind (wpAny_field g1 g3 (x := .none) rfl (wpAny_bind (wpAny_field g1 g3 (x := vs) rfl (wpAny_pure ?_)))))))
  refine wpAny_bind (HT.slicePart_ ps ?_)
  show wpAny _ _ (if ((-1 : Int) == 0) = true then _ else _) _ _ s
  rw [if_neg (by decide)]
  refine wpAny_bind (HT.slicePart_ .none (wpAny_bind (HT.slicePart_ .none (wpAny_bind (wpAny_pure ?_)))))
  show wpAny _ _ (pure ((n : Int) - 1, (-1 : Int), Builtin.Slice.slicePlaces ((n : Int) - 1) (-1) (-1))) _ _ s
  rw [places_rev]
  exact wpAny_pure h
theorem filterMap_same {α β : Type} {f g : α → Option β} : ∀ {l : List α}, (∀ a ∈ l, f a = g a) → l.filterMap f = l.filterMap g
  | [], _ => rfl
  | a :: l, h => by
    rw [List.filterMap_cons, List.filterMap_cons, h a (by simp), filterMap_same fun b hb => h b (List.mem_cons_of_mem _ hb)]
theorem pick_rev (xs : Array Value) : ((List.range xs.size).filterMap fun (m : Nat) => xs[((xs.size : Int) - 1 + (m : Int) * (-1)).toNat]?).toArray = xs.toList.reverse.toArray := by
  have e : ∀ m ∈ List.range xs.size, xs[((xs.size : Int) - 1 + (m : Int) * (-1)).toNat]? = xs[xs.size - 1 - m]? := fun m hm => by
    have := List.mem_range.mp hm
    rw [show ((xs.size : Int) - 1 + (m : Int) * (-1)).toNat = xs.size - 1 - m by omega]
  rw [filterMap_same e]
  have e2 : (List.range xs.size).filterMap (fun m => xs[xs.size - 1 - m]?) = ((List.range xs.size).map fun k => xs.size - 1 - k).filterMap (xs[·]?) := by rw [List.filterMap_map]; rfl
  rw [e2, PySem.W.krv_range, List.filterMap_reverse, PySem.W.krv_all]
theorem getItem_rev {t sl : Addr} {items : Array Value} {vs : Value} {Q : Value → Shared → Prop} (ht : IsTup s.heap t items) (hs : s.heap.IsSliceOf sl .none .none vs) (ps : IsPart vs (some (-1)))
    (h : Q (.ref s.heap.objs.size) { s with heap := s.heap.push { cls := .type "tuple", data := .seq items.toList.reverse.toArray } }) (hsz : items.size ≤ sizeLine) : wpAny (model prog w) A (getItem (.ref t) (.ref sl)) Q E s := by
  have ok : sizeOk (.seq items.toList.reverse.toArray) := by
    show items.toList.reverse.toArray.size ≤ sizeLine
    rw [List.size_toArray, List.length_reverse, Array.length_toList]; exact hsz
  obtain ⟨o, g1, g2, g3⟩ := id hs
  have ty : s.TypeIs (.ref sl) "slice" := ⟨o, g1, g2⟩
  unfold getItem
  try with_reducible refine wpAny_holding ?_
  first | refine wpAny_bind (wpAny_pure ?_) | skip
  refine wpAny_bind (wpAny_sequenceKey ht.typeIs (by decide) (wpAny_bind (wpAny_callSpecial?_slot (name := Str.ofString "__getitem__") ht.typeIs PyProof.Rows.slot_tuple_getitem (wpAny_call_entry PyProof.Rows.slot_tuple_getitem ht.typeIs entry_tuple_getitem ?_ (args_tuple_getitem _ _)))))
  show wpAny _ _ (Builtin.Tuple.tupleItemsOf (.ref t) >>= _) _ _ s
  refine wpAny_bind (tupleItemsOf_ ht (wpAny_bind (wpAny_typeOf ty ?_)))
  rw [if_pos (by decide)]
  refine wpAny_bind (applied_rev hs ps ?_)
  show wpAny _ _ (if (((items.size : Int) - 1 == 0) && (-1 : Int) == 1 && items.size == items.size) = true then _ else _) _ _ s
  rw [if_neg (by simp), pick_rev]
  first
    | exact wpAny_bind (m := Builtin.Tuple.tupleExact _) (wpAny_newObj_type (wpAny_pure ⟨_, rfl, wpAny_pure h⟩) ok)
    | exact wpAny_bind (m := Builtin.Tuple.tupleExact _) (wpAny_newObj_type (wpAny_bind (wpAny_pure (wpAny_pure ⟨_, rfl, wpAny_pure h⟩))) ok)
    | exact wpAny_bind (wpAny_bind (m := Builtin.Tuple.tupleExact _) (wpAny_newObj_type (wpAny_pure (wpAny_pure ⟨_, rfl, wpAny_pure h⟩)) ok))
    | exact wpAny_bind (wpAny_bind (m := Builtin.Tuple.tupleExact _) (wpAny_newObj_type (wpAny_pure ⟨_, rfl, wpAny_pure h⟩) ok))
end
def revD : Dat → Res Dat
  | .lst xs => .ok (.lst xs.reverse)
  | .tup xs => .ok (.tup xs.reverse)
  | _ => .stuck
def tRev (K : PySem.W.Frag) (te : TE) : TE := fun σ H Q => te σ H fun x H1 => (∃ a xs, x = .ref a ∧ SqL K H1 a xs ∧ ∀ p, H1 p = none → Q (.ref p) (upd H1 p (.lst xs.reverse))) ∨ ∃ a xs, x = .ref a ∧ SqT K H1 a xs ∧ ∀ p, H1 p = none → Q (.ref p) (upd H1 p (.tup xs.reverse))
section
variable {X : Cx} {g : Glob} {W : WX}
theorem pe_rev {e : Expr} {te : TE} {k : Nat} {p1 p2 p3 pos : Pos} (he : PE X e te) : PE X (.Subscript e (.Slice none none (some (.UnaryOp .USub (.Constant (.int 1) k p1) p2)) p3) pos) (tRev X.K te) := by
  refine ⟨fun pins s σ H Q I h => Subscript_ (thn (he.run pins s σ H _ I h) fun v s1 ⟨x, H1, I1, r1, q1⟩ => ?_)⟩
  have st : PO X (some (.UnaryOp .USub (.Constant (.int 1) k p1) p2)) (tPart (tUn (rU fun i => .int (-i)) (tC (.int 1)))) := po_some (pe_un un_neg pe_int)
  refine wpAny_Slice (thn (po_none.run pins s1 σ H1 (fun o H2 => o = none ∧ H2 = H1) I1 ⟨rfl, rfl⟩) fun v1 s2 ⟨o1, H2, I2, k1, e1, e2⟩ => ?_)
  subst e1 e2
  refine thn (po_none.run pins s2 σ H2 (fun o H3 => o = none ∧ H3 = H2) I2 ⟨rfl, rfl⟩) fun v2 s3 ⟨o2, H3, I3, k2, e3, e4⟩ => ?_
  subst e3 e4
  refine thn (st.run pins s3 σ H3 (fun o H4 => o = some (-1) ∧ H4 = H3) I3 ⟨1, rfl, -1, rfl, rfl, rfl⟩) fun v3 s4 ⟨o3, H4, I4, k3, e5, e6⟩ => ?_
  subst e5 e6
  have J : Inv X pins σ H4 { s4 with heap := s4.heap.push { cls := .type "slice", data := .fields #[v1, v2, v3] } } := I4.kept (t' := s4.toks) fun b ob q => Heap.get?_push_of_some _ q
  show wpAny (model X.prog X.w) X.A (subscriptTail e (.Slice none none (some (.UnaryOp .USub (.Constant (.int 1) k p1) p2)) p3) v (.ref s4.heap.objs.size)) (EP X pins σ Q) X.xe { s4 with heap := s4.heap.push { cls := .type "slice", data := .fields #[v1, v2, v3] } }
  rcases q1 with ⟨a, xs, ex, hx, q⟩ | ⟨a, xs, ex, hx, q⟩
  · subst ex
    cases r1
    obtain ⟨its, r, ht, hz⟩ := J.list hx
    have hlen := r.length
    refine tail_any (ops := [.ref a, .ref s4.heap.objs.size]) ht.isList.typeIs (PySem.slot_list_getitem.lookup) (wpAny_getItem_list_slice ht.isList (Heap.IsSliceOf.new _ v1 v2 v3) k1 k2 k3 (by decide) ?_ (by rw [List.size_toArray]; omega)) (by with_unfolding_all rfl)
    rw [PySem.W.krv_pick]
    exact ⟨.ref _, _, J.laid (t' := s4.toks) (o := .lst xs.reverse) (fun b ob q => Heap.get?_push_of_some _ q) (Nat.le_refl _) ⟨by rw [List.length_reverse]; exact hz, _, 0, r.reverse, Heap.get?_push_size _ rfl⟩, rfl, q _ (J.hok.fresh (Nat.le_refl _))⟩
  · subst ex
    cases r1
    obtain ⟨its, r, ht, hz⟩ := J.tuple hx
    have hlen := r.length
    cases k1
    cases k2
    refine tail_any (ops := [.ref a, .ref s4.heap.objs.size]) ht.typeIs (PyProof.Rows.slot_tuple_getitem.lookup) (getItem_rev ht (Heap.IsSliceOf.new _ .none .none v3) k3 ?_ (by rw [List.size_toArray]; omega)) (by with_unfolding_all rfl)
    exact ⟨.ref _, _, J.laid (t' := s4.toks) (o := .tup xs.reverse) (fun b ob q => Heap.get?_push_of_some _ q) (Nat.le_refl _) ⟨by rw [List.length_reverse]; exact hz, _, r.reverse, _, Heap.get?_push_size _ rfl, rfl, 0, rfl⟩, rfl, q _ (J.hok.fresh (Nat.le_refl _))⟩
theorem ve_rev {e : Expr} {k : Nat} {p1 p2 p3 pos : Pos} {f : Env → Res Dat} (he : VE X g W e f) : VE X g W (.Subscript e (.Slice none none (some (.UnaryOp .USub (.Constant (.int 1) k p1) p2)) p3) pos) (eUn revD f) :=
  PE.imp (pe_rev he) fun σ H Q ⟨ρ, F, s, p⟩ => ⟨ρ, F, s, (PostG.bind s p).imp fun x H1 ⟨F1, a, s1, ra, x1, p1⟩ => by
    cases ra with
    | @lst aa xs ds hl rs =>
      refine .inl ⟨aa, xs, rfl, SqL.of (s1.sub _ _ hl), fun q hq => ?_⟩
      have x2 := Ext.new (g := g) (o := .lst xs.reverse) s1.sub hq
      exact PostG.ret x2 p1 (.lst upd_same (rs.reverse.mono (x2.le s1.sub)))
    | @tup aa xs ds hl rs =>
      refine .inr ⟨aa, xs, rfl, sqT_mono s1.sub hl, fun q hq => ?_⟩
      have x2 := Ext.new (g := g) (o := .tup xs.reverse) s1.sub hq
      exact PostG.ret x2 p1 (.tup (SqT.of upd_same) (rs.reverse.mono (x2.le s1.sub)))
    | _ => exact p1.elim⟩
end
end VL

/-! VL15: dict displays and .get. -/
namespace VL
open PySem PySem.Spec PyProof.Rows L2
def putD (kvs : List (Key × Dat)) (k : Key) (v : Dat) : List (Key × Dat) := if (kvs.any fun kv => decide (kv.1 = k)) = true then kvs.map (fun kv => if kv.1 = k then (kv.1, v) else kv) else kvs ++ [(k, v)]
def mergeD (kvs more : List (Key × Dat)) : List (Key × Dat) := more.foldl (fun acc kv => putD acc kv.1 kv.2) kvs
/-- pairs and what they represent -/
inductive RD (K : PySem.W.Frag) (g : Glob) (F : Hp) : List (Key × V) → List (Key × Dat) → Prop
  | nil : RD K g F [] []
  | cons {k : Key} {v : V} {d : Dat} {r : List (Key × V)} {s : List (Key × Dat)} : Rep K g F v d → RD K g F r s → RD K g F ((k, v) :: r) ((k, d) :: s)
section
variable {K : PySem.W.Frag} {g : Glob} {F : Hp}
theorem RD.two {kvs : List (Key × V)} {ds : List (Key × Dat)} (h : RD K g F kvs ds) : kvs.map Prod.fst = ds.map Prod.fst ∧ Reps K g F (kvs.map Prod.snd) (ds.map Prod.snd) := by
  induction h with
  | nil => exact ⟨rfl, .nil⟩
  | cons r _ ih => exact ⟨by simp [ih.1], .cons r ih.2⟩
theorem RD.of : ∀ {kvs : List (Key × V)} {ds : List (Key × Dat)}, kvs.map Prod.fst = ds.map Prod.fst → Reps K g F (kvs.map Prod.snd) (ds.map Prod.snd) → RD K g F kvs ds
  | [], [], _, _ => .nil
  | [], _ :: _, h, _ => by simp at h
  | _ :: _, [], h, _ => by simp at h
  | (k, v) :: r, (k', d) :: s, h, q => by
    simp only [List.map_cons, List.cons.injEq] at h
    obtain ⟨rfl, h2⟩ := h
    cases q with
    | cons a b => exact .cons a (RD.of h2 b)
theorem RD.append {a b : List (Key × V)} {c d : List (Key × Dat)} (h : RD K g F a c) (h2 : RD K g F b d) : RD K g F (a ++ b) (c ++ d) := by
  induction h with
  | nil => exact h2
  | cons r _ ih => exact .cons r ih
theorem RD.any {k : Key} {a : List (Key × V)} {c : List (Key × Dat)} (h : RD K g F a c) : (a.any fun kv => decide (kv.1 = k)) = c.any fun kv => decide (kv.1 = k) := by
  induction h with
  | nil => rfl
  | cons r _ ih => simp [ih]
theorem RD.put {k : Key} {v : V} {d : Dat} {a : List (Key × V)} {c : List (Key × Dat)} (h : RD K g F a c) (r : Rep K g F v d) : RD K g F (putK a k v) (putD c k d) := by
  unfold putK putD
  rw [h.any]
  by_cases q : (c.any fun kv => decide (kv.1 = k)) = true
  · rw [if_pos q, if_pos q]
    clear q
    induction h with
    | nil => exact .nil
    | @cons k' v' d' r' s' r1 _ ih =>
      rw [List.map_cons, List.map_cons]
      by_cases e : k' = k
      · simp only [if_pos e]; exact .cons r ih
      · simp only [if_neg e]; exact .cons r1 ih
  · rw [if_neg q, if_neg q]
    exact h.append (.cons r .nil)
theorem RD.merge {b : List (Key × V)} {e : List (Key × Dat)} (h2 : RD K g F b e) : ∀ {a : List (Key × V)} {c : List (Key × Dat)}, RD K g F a c → RD K g F (mergeK a b) (mergeD c e) := by
  unfold mergeK mergeD
  induction h2 with
  | nil => exact fun h => h
  | cons r _ ih => exact fun h => ih (h.put r)
theorem RD.look {k : Key} {a : List (Key × V)} {c : List (Key × Dat)} (h : RD K g F a c) : (valV a k = none ∧ dLook c k = none) ∨ ∃ v d, valV a k = some v ∧ dLook c k = some d ∧ Rep K g F v d := by
  induction h with
  | nil => exact .inl ⟨rfl, rfl⟩
  | @cons k' v d r s r1 _ ih =>
    by_cases e : k' = k
    · exact .inr ⟨v, d, by simp [valV, e], by simp [dLook, e], r1⟩
    · have e1 : valV ((k', v) :: r) k = valV r k := by simp [valV, e]
      have e2 : dLook ((k', d) :: s) k = dLook s k := by simp [dLook, e]
      rw [e1, e2]; exact ih
end
/-! ### {k: v, ..} -/
def keysD : List (Dat × Dat) → Option (List (Key × Dat))
  | [] => some []
  | (k, v) :: r => match keyOf k, keysD r with
    | some k, some r => some ((k, v) :: r)
    | _, _ => none
abbrev FF := (Env → Res Dat) × (Env → Res Dat)
def pairsD : List FF → Env → Res (List (Dat × Dat))
  | [], _ => .ok []
  | p :: r, ρ => (p.1 ρ).bind fun k => (p.2 ρ).bind fun v => (pairsD r ρ).bind fun ps => .ok ((k, v) :: ps)
def dispD (ps : List (Dat × Dat)) : Res Dat := match keysD ps with
  | some kvs => if kvs.length ≤ 15 then .ok (.dct (mergeD [] kvs)) else .stuck
  | none => .stuck
def eDisp (fs : List FF) : Env → Res Dat := fun ρ => (pairsD fs ρ).bind dispD
/-- two lists of pairs, one upon the other -/
def RP (K : PySem.W.Frag) (g : Glob) (F : Hp) (ps : List (V × V)) (ds : List (Dat × Dat)) : Prop := Paired (fun p d => Rep K g F p.1 d.1 ∧ Rep K g F p.2 d.2) ps ds
theorem keys_of {K : PySem.W.Frag} {g : Glob} {F : Hp} : ∀ {ps : List (V × V)} {ds : List (Dat × Dat)} {kvs : List (Key × Dat)}, RP K g F ps ds → keysD ds = some kvs → ∃ vs : List (Key × V), ps = vs.map (fun kv => (kV kv.1, kv.2)) ∧ RD K g F vs kvs := by
  intro ps ds
  induction ds generalizing ps with
  | nil => intro kvs h e; cases h; cases e; exact ⟨[], rfl, .nil⟩
  | cons d ds ih =>
    intro kvs h e
    obtain ⟨dk, dv⟩ := d
    cases h with
    | @cons p _ ps' _ h1 h2 =>
      obtain ⟨pk, pv⟩ := p
      unfold keysD at e
      cases e1 : keyOf dk with
      | none => rw [e1] at e; simp at e
      | some k =>
        cases e2 : keysD ds with
        | none => rw [e1, e2] at e; simp at e
        | some r =>
          rw [e1, e2] at e
          cases e
          obtain ⟨vs, q1, q2⟩ := ih h2 e2
          have ek : pk = kV k := rep_key h1.1 e1
          exact ⟨(k, pv) :: vs, by rw [q1, ek]; rfl, .cons h1.2 q2⟩
section
variable {X : Cx} {g : Glob} {W : WX}
theorem RP.mono {K : PySem.W.Frag} {F F' : Hp} {ps : List (V × V)} {ds : List (Dat × Dat)} (e : Same F F') (h : RP K g F ps ds) : RP K g F' ps ds := by
  unfold RP at h ⊢
  induction h with
  | nil => exact .nil
  | cons a _ ih => exact .cons ⟨a.1.mono e, a.2.mono e⟩ ih
theorem pairs_of {K : PySem.W.Frag} {σ : St} {ρ : Env} : ∀ (fs : List FF) {F H : Hp} {Q : List (V × V) → Hp → Prop}, Stt K g F H σ ρ → PostG g (RP K g) W σ F H (pairsD fs ρ) Q → tPairs (fs.map fun p => (tV K g W p.1, tV K g W p.2)) σ H Q
  | [], F, H, Q, s, p => PostG.here s.sub p .nil
  | f :: fs, F, H, Q, s, p => by
    refine ⟨ρ, F, s, (PostG.bind s p).imp fun x H1 ⟨F1, a, s1, ra, x1, p1⟩ => ?_⟩
    refine ⟨ρ, F1, s1, (PostG.bind s1 p1).imp fun y H2 ⟨F2, b, s2, rb, x2, p2⟩ => ?_⟩
    refine pairs_of fs s2 ((PostG.bind s2 p2).imp fun ps H3 ⟨F3, ds, s3, rp, x3, p3⟩ => ?_)
    exact PostG.here s3.sub p3 (.cons ⟨ra.mono ((x2.le s1.sub).trans (x3.le s2.sub)), rb.mono (x3.le s2.sub)⟩ rp)
theorem ve_disp {pos : Pos} {keys : List (Option Expr)} {values : List Expr} {fs : List FF} (h : PPs X pos keys values (fs.map fun p => (tV X.K g W p.1, tV X.K g W p.2))) (hall : keys.all (·.isSome) = true := by rfl) (hl : keys.length = values.length := by rfl) (h0 : keys ≠ [] := by simp) (h15 : keys.length ≤ 15 := by decide) : VE X g W (.Dict keys values pos) (eDisp fs) :=
  PE.imp (pe_lk (pe_disp h hall hl h0 h15)) fun σ H Q ⟨ρ, F, s, p⟩ q hq => by
    have x0 : Ext g F H F (upd H q (.dK [])) := Ext.newO s.sub hq
    have s0 := s.ext x0
    cases ep : pairsD fs ρ with
    | stuck => unfold eDisp at p; rw [ep] at p; exact p.elim
    | exc c =>
      unfold eDisp at p
      rw [ep] at p
      exact pairs_of fs s0 (by rw [ep]; exact fun H' F' x => p H' F' (x0.trans x))
    | ok ds =>
    unfold eDisp at p
    rw [ep] at p
    have p1 : PostG g (Rep X.K g) W σ F H (dispD ds) Q := p
    refine pairs_of fs s0 ?_
    rw [ep]
    intro ps H1 F1 x1 rp
    have hq1 : H1 q = some (.dK []) := x1.keep q _ upd_same (by intro _ z; cases z)
    have fq : F1 q = none := by
      rw [x1.old q (by rw [upd_same]; simp)]
      exact sub_none s.sub hq
    refine ⟨hq1, ?_⟩
    unfold dispD at p1
    cases e : keysD ds with
    | none => rw [e] at p1; exact p1.elim
    | some kvs =>
      rw [e] at p1
      obtain ⟨vs, e1, rd⟩ := keys_of rp e
      by_cases hk : kvs.length ≤ 15
      · simp only [if_pos hk] at p1
        have hvl : vs.length = kvs.length := by have := rd.two.1; have := congrArg List.length this; simpa using this
        refine ⟨vs, e1, by omega, ?_⟩
        have key : ∀ a o, H1 a = some o → (∀ ps, o ≠ .tbl ps) → a ≠ q → upd H1 q (.dK (mergeK [] vs)) a = some o := fun a o e _ n => by rw [upd_ne n]; exact e
        have xx := x0.trans x1
        refine .inr ⟨q, .dK (mergeK [] vs), upd_same, True.intro, fun od => ?_⟩
        rw [upd_upd]
        have x2 : Ext g F H (upd F1 q (.frz od (.dK (mergeK [] vs)))) (upd H1 q (.frz od (.dK (mergeK [] vs)))) := by
          refine ⟨fun a o e n => ?_, fun a e => ?_, fun t => ?_, fun a o e => ?_, fun a e => ?_, fun a ps e => ?_⟩
          · rw [upd_ne (ne_of_none e hq)]; exact xx.keep a o e n
          · have na : a ≠ q := fun z => by subst z; exact e hq
            rw [upd_ne na]; exact xx.dom a e
          · have t1 := xx.tabs t
            intro pr hp
            obtain ⟨qs, c1, c2, c3⟩ := t1 pr hp
            have n1 : pr.1 ≠ q := fun z => by rw [z, hq1] at c1; cases c1
            refine ⟨qs, by rw [upd_ne n1]; exact c1, c2, fun p' cv hcv => ?_⟩
            obtain ⟨c0, d1, d2⟩ := c3 p' cv hcv
            have n2 : c0 ≠ q := fun z => by
              rw [z, hq1] at d2
              have d3 := Option.some.inj d2
              cases d3
            exact ⟨c0, d1, by rw [upd_ne n2]; exact d2⟩
          · by_cases z : a = q
            · subst z; rw [upd_same] at e ⊢; exact e
            · rw [upd_ne z] at e ⊢; exact x1.sub a o e
          · have na : a ≠ q := fun z => by subst z; exact e hq
            rw [upd_ne na]; exact xx.old a e
          · by_cases z : a = q
            · subst z; rw [upd_same] at e; cases e
            · rw [upd_ne z] at e; exact xx.nt a ps e
        have le : Same F1 (upd F1 q (.frz od (.dK (mergeK [] vs)))) := fun a o e => by
          rw [upd_ne (fun z => by subst z; rw [fq] at e; cases e)]; exact e
        have rd2 := RD.merge rd (a := []) (c := []) .nil
        exact p1 (.ref q) _ _ x2 (.dct upd_same rd2.two.1 (rd2.two.2.mono le))
      · simp only [if_neg hk] at p1; exact p1.elim
end
end VL

/-! VL16: set(xs) of a list whose items are keys of one kind; how many there are. -/
namespace VL
open PySem PySem.Spec PyProof.Rows L2
section
variable {κ : Type} [DecidableEq κ]
/-- each once, in the order in which they are met -/
def onceStep (acc : List κ) (k : κ) : List κ := if k ∈ acc then acc else acc ++ [k]
def once (ks : List κ) : List κ := ks.foldl onceStep []
theorem once_snoc (ks : List κ) (k : κ) : once (ks ++ [k]) = onceStep (once ks) k := by unfold once; rw [List.foldl_append]; rfl
theorem onceStep_mem (acc : List κ) (k j : κ) : j ∈ onceStep acc k ↔ j ∈ acc ∨ j = k := by
  unfold onceStep
  by_cases h : k ∈ acc
  · rw [if_pos h]; exact ⟨.inl, fun z => z.elim id fun e => e ▸ h⟩
  · rw [if_neg h]; simp
theorem once_mem (ks : List κ) (j : κ) : j ∈ once ks ↔ j ∈ ks := by
  suffices h : ∀ (ks acc : List κ), j ∈ ks.foldl onceStep acc ↔ j ∈ acc ∨ j ∈ ks by simpa [once] using h ks []
  intro ks
  induction ks with
  | nil => intro acc; simp
  | cons k ks ih => intro acc; rw [List.foldl_cons, ih, onceStep_mem, List.mem_cons, or_assoc]
theorem onceStep_len (acc : List κ) (k : κ) : (onceStep acc k).length ≤ acc.length + 1 := by
  unfold onceStep; split <;> simp
theorem once_len (ks : List κ) : (once ks).length ≤ ks.length := by
  suffices h : ∀ (ks acc : List κ), (ks.foldl onceStep acc).length ≤ acc.length + ks.length by simpa [once] using h ks []
  intro ks
  induction ks with
  | nil => intro acc; simp
  | cons k ks ih => intro acc; rw [List.foldl_cons]; have := ih (onceStep acc k); have := onceStep_len acc k; simp only [List.length_cons]; omega
theorem once_nodup (ks : List κ) : (once ks).Nodup := by
  suffices h : ∀ (ks acc : List κ), acc.Nodup → (ks.foldl onceStep acc).Nodup from h ks [] List.nodup_nil
  intro ks
  induction ks with
  | nil => exact fun _ h => h
  | cons k ks ih =>
    intro acc h
    refine ih _ ?_
    unfold onceStep
    by_cases q : k ∈ acc
    · rw [if_pos q]; exact h
    · rw [if_neg q]
      rw [List.nodup_append]
      exact ⟨h, by simp, fun a ha b hb e => by simp at hb; subst hb; subst e; exact q ha⟩
end
section
variable {P : Program} {w : World} {A : Around} {κ : Type} [DecidableEq κ]
theorem setOf_like {kd : PySem.KeyKind P w κ} {h : Heap} {a : Addr} {f f' : κ → Bool} {n n' : Nat} (x : h.SetOf kd a f n) (e : ∀ k, f k = f' k) (en : n = n') : h.SetOf kd a f' n' := by
  have z : f = f' := funext e
  subst z
  subst en
  exact x
theorem upd_loop {kd : PySem.KeyKind P w κ} {R : Result → Shared → Prop} {I : Addr} {fp wr : List Addr} {G : Array GenState → Array GenState → Prop} {n : Nat} {Pv : Nat → Value → Prop} {St : Nat → Shared → Prop}
    (W : WalksS P w A.in1 I fp wr G n Pv St) (S : Addr) (hS : S ∉ fp) (ks : List κ) (hn : ks.length = n)
    (hv : ∀ i v, Pv i v → ∃ k, ks[i]? = some k ∧ kd.is k v = true ∧ v.scannable = true) (hb : n + 1 < scanBound) :
    ∀ (m i : Nat) (s : Shared), n - i = m → i ≤ n → St i s → s.heap.SetOf kd S (fun k => decide (k ∈ once (ks.take i))) (once (ks.take i)).length →
      (∀ s', Moved (S :: wr) G s s' → s'.heap.SetOf kd S (fun k => decide (k ∈ once ks)) (once ks).length → R (.ok (.ret .none)) s') →
      codeAny (model P w) A (.builtin "set.update.loop" ⟨[.ref S, .ref I], []⟩) R s := by
  have nw : S ∉ wr := fun z => hS (W.sub _ z)
  have sb : ∀ b ∈ wr, b ∈ S :: wr := fun b z => List.mem_cons_of_mem _ z
  intro m
  induction m with
  | zero =>
    intro i s hk hi st x fin
    have e : i = n := by omega
    subst e
    refine codeAny_builtin PyProof.Rows.F.entry_set_update_loop ?_
    rw [Around.under_plainId PyProof.Rows.F.plain_set_update_loop _]
    refine wpAny_bind (m := pyNext (.ref I)) (W.done s _ _ st fun s1 mv => ?_)
    refine wpAny_pure (fin s1 (mv.mono sb) ?_)
    rw [List.take_of_length_le (by omega)] at x
    obtain ⟨o, es, ep, t, ho, more⟩ := x
    exact ⟨o, es, ep, t, mv.heap S _ nw ho, more⟩
  | succ m ih =>
    intro i s hk hi st x fin
    have lt : i < n := by omega
    refine codeAny_builtin PyProof.Rows.F.entry_set_update_loop ?_
    rw [Around.under_plainId PyProof.Rows.F.plain_set_update_loop _]
    refine wpAny_bind (m := pyNext (.ref I)) (W.item i s _ _ lt st fun v s1 pv st1 mv => ?_)
    obtain ⟨k, ek, ik, sk⟩ := hv i v pv
    have x1 : s1.heap.SetOf kd S (fun k => decide (k ∈ once (ks.take i))) (once (ks.take i)).length := by
      obtain ⟨o, es, ep, t, ho, more⟩ := x
      exact ⟨o, es, ep, t, mv.heap S _ nw ho, more⟩
    refine wpAny_bind (m := holding [v] (setAdd S v)) (wpAny_holding ?_)
    unfold setAdd
    refine wpAny_holding (wpAny_bind (kd.pyHash ik ?_))
    have l1 : (once (ks.take i)).length ≤ i := Nat.le_trans (once_len _) (by simp; omega)
    refine wpAny_setAddHashed_of (s := { s1 with toks := s1.toks + 1 }) ik sk x1 (by omega) fun h' sm x2 => ?_
    have et : ks.take (i + 1) = ks.take i ++ [k] := by rw [List.take_add_one, ek]; rfl
    have x3 : h'.SetOf kd S (fun k => decide (k ∈ once (ks.take (i + 1)))) (once (ks.take (i + 1))).length := by
      rw [et, once_snoc]
      refine setOf_like x2 (fun j => ?_) ?_
      · rw [Bool.eq_iff_iff]
        simp only [onceStep_mem, Bool.or_eq_true, decide_eq_true_eq]
      · unfold onceStep
        by_cases q : k ∈ once (ks.take i)
        · simp [q]
        · simp [q]
    refine wpAny_pure ⟨plainId_quiet PyProof.Rows.F.plain_set_update_loop _, ih (i + 1) _ (by omega) lt (W.frame _ s1 _ _ st1 (Nat.le_succ _) fun b hb o e => ?_) x3 fun s2 mv2 x4 => ?_⟩
    · exact (sm.2 b (fun z => hS (z ▸ hb))).trans e
    · refine fin s2 (Moved.trans W.gtrans ((mv.mono sb).then_heap (Nat.le_succ _) fun b o nb e => ?_) mv2) x4
      exact (sm.2 b (fun z => nb (z ▸ List.mem_cons_self))).trans e
end
section
variable {P : Program} {w : World} {A : Around} {E : Value → Shared → Prop} {s : Shared} {κ : Type} [DecidableEq κ]
def newSet (led : Bool) : Obj := { cls := .type "set", dict := none, data := .set #[] 0 (.fresh 0 0 led) }
theorem set_list {kd : PySem.KeyKind P w κ} {l : Addr} {its : Array Value} {ks : List κ} {Q : Value → Shared → Prop} (hh : A.handled = none) (hl : s.heap.IsList l its) (hn : ks.length = its.size)
    (hv : ∀ (i : Nat) (v : Value), its[i]? = some v → ∃ k, ks[i]? = some k ∧ kd.is k v = true ∧ v.scannable = true) (hb : its.size + 1 < scanBound)
    (h : ∀ (h' : Heap) (tk : Nat), h'.SetOf kd s.heap.objs.size (fun k => decide (k ∈ once ks)) (once ks).length →
      (∀ b o, b < s.heap.objs.size → s.heap.get? b = some o → h'.get? b = some o) → Q (.ref s.heap.objs.size) { s with heap := h', toks := tk }) :
    wpAny (model P w) A (call (.type "set") [.ref l]) Q E s := by
  have fc := PySem.F.called_set
  obtain ⟨c, tl, hmro⟩ := fc.mro
  have q1 := fc.made
  have q2 := fc.sub
  have q3 := fc.notType
  have q4 := fc.canCreate
  have q5 := PySem.F.typeCall_set_1 (.ref l)
  refine wpAny_call (codeAny_of_tree ?_)
  show wpAny _ _ (callAny (.type "set") _) _ _ _
  refine wpAny_pure ⟨Code.quiet_builtin _ (by decide +kernel), codeAny_builtin PySem.F.entry_type_call ?_⟩
  rw [Around.under_plain (weight_type_call_type "set" [.ref l] []) rfl]
  repeat (any_goals (first | assumption | wp_step))
  refine codeAny_mono (PySem.code_set_new_1 (.ref l) (E := E) (Q₁ := fun ob z => ∃ led : Bool, ob = .ref s.heap.objs.size ∧ z = { s with heap := s.heap.push (newSet led) }) fun led => ⟨led, rfl, rfl⟩) fun r z hr => ?_
  cases r with
  | error e => exact hr
  | ok fl =>
    cases fl with
    | ret ob =>
      obtain ⟨led, rfl, rfl⟩ := hr
      have g1 : (s.heap.push (newSet led)).get? s.heap.objs.size = some (newSet led) := Heap.get?_push_size _ rfl
      have g2 : Shared.TypeIs { s with heap := s.heap.push (newSet led) } (.ref s.heap.objs.size) "set" := ⟨_, g1, rfl⟩
      have q6 := fc.init.lookup
      have q7 := fc.init.bind (.ref s.heap.objs.size)
      repeat (any_goals (first | assumption | wp_step))
      refine codeAny_mono (codeAny_call_builtin (R := wants (fun r z => r = .none ∧ ∃ h' tk, z = { s with heap := h', toks := tk } ∧
        h'.SetOf kd s.heap.objs.size (fun k => decide (k ∈ once ks)) (once ks).length ∧ (∀ b o, b < s.heap.objs.size → s.heap.get? b = some o → h'.get? b = some o)) E) fc.init.plain PySem.F.entry_set_init (PySem.check_set_init_1 g2 ?_)) fun r2 z2 hr2 => ?_
      · have l1 : (s.heap.push (newSet led)).IsList l its := hl.push _
        obtain ⟨ol, hol, hcl, nl, hdl⟩ := hl
        obtain ⟨oc, od, da, os⟩ := ol
        dsimp only at hcl hdl
        subst hcl hdl
        have g3 : (s.heap.push (newSet led)).get? l = some { cls := .type "list", dict := od, data := .seq its nl, slots := os } := Heap.get?_push_of_some _ hol
        have r1 := PySem.F.sub_list_set
        have r2 := PySem.F.sub_list_frozenset
        have r3 : (Value.type "list" == Value.type "dict") = false := by decide
        unfold Builtin.«set.__init__» noKeywords Builtin.Frozenset.updateFrom
        generalize hPI : pyIter = PI
        wp_walk
        subst hPI
        refine wpAny_pyIter_list l1 (wpAny_bind (wpAny_runValue ?_))
        have ls : l < s.heap.objs.size := Heap.lt_size hol
        have lz : s.heap.objs.size < (s.heap.push (newSet led)).objs.size := by rw [Heap.size_push]; exact Nat.lt_succ_self _
        have n1 : l ≠ (s.heap.push (newSet led)).objs.size := Nat.ne_of_lt (Nat.lt_trans ls lz)
        have n2 : s.heap.objs.size ≠ (s.heap.push (newSet led)).objs.size := Nat.ne_of_lt lz
        have n3 : s.heap.objs.size ∉ [(s.heap.push (newSet led)).objs.size, l] := fun z => by
          rcases List.mem_cons.mp z with z | z
          · exact n2 z
          · exact Nat.ne_of_gt ls (List.mem_singleton.mp z)
        refine upd_loop (kd := kd) ((Walks.list (A := A.in1.in1.in1) (by simp [hh]) _ l n1 its).toS) s.heap.objs.size n3 ks hn hv hb (its.size - 0) 0 _ (by omega) (Nat.zero_le _)
          ⟨⟨_, Heap.get?_push_size _ rfl, rfl, rfl⟩, l1.push _⟩ ?_ ?_
        · have g4 := Heap.get?_push_of_some ({ cls := .type "list_iterator", data := .fields #[.ref l, .int 0 0] } : Obj) g1
          exact setOf_like ((PyProof.Rows.setObjOf_fresh (knd := kd) led).setOf g4 (by unfold scanBound; omega)) (fun k => by simp [once]) rfl
        · intro s' mv x
          obtain ⟨h', g', d', tk', os'⟩ := s'
          obtain rfl : g' = s.gens := mv.gens
          obtain rfl : d' = s.drawn := mv.drawn
          obtain rfl : os' = s.os := mv.os
          refine wpAny_pure (wpAny_pure ⟨rfl, h', tk', rfl, x, fun b o hb e => ?_⟩)
          refine mv.heap b o (fun z => ?_) (Heap.get?_push_of_some _ (Heap.get?_push_of_some _ e))
          rcases List.mem_cons.mp z with z | z
          · exact Nat.ne_of_lt hb z
          · exact Nat.ne_of_lt (Nat.lt_trans hb lz) (List.mem_singleton.mp z)
      · cases r2 with
        | error e => exact hr2
        | ok f2 =>
          cases f2 with
          | ret r =>
            obtain ⟨rfl, h', tk, rfl, x, kp⟩ := hr2
            repeat (any_goals (first | assumption | wp_step))
            exact h _ _ x kp
          | _ => exact hr2.elim
    | _ => exact hr.elim
end
/-! ### len(set(xs)) of texts or ints -/
def lenSet2D : Dat → Res Dat
  | .lst ds => match strsD ds with
    | some ys => if ys.length ≤ 4000 then .ok (.int ((once ys).length : Nat)) else .stuck
    | none => lenSetD (.lst ds)
  | _ => .stuck
section
variable {X : Cx} {g : Glob} {W : WX}
def tLenSetS (K : PySem.W.Frag) (ta : TE) : TE := fun σ H Q => ta σ H fun x H1 => (∃ (l : Addr) (ys : List Str), x = .ref l ∧ SqL K H1 l (ys.map V.str) ∧ ys.length ≤ 4000 ∧ Q (.int ((once ys).length : Nat)) H1) ∨
  ∃ (l : Addr) (ns : List Int), x = .ref l ∧ SqL K H1 l (ns.map V.int) ∧ ns.length ≤ 4000 ∧ Q (.int ((once ns).length : Nat)) H1
theorem vals_key {P : Program} {w : World} {κ : Type} [DecidableEq κ] {f : κ → V} {kd : PySem.KeyKind P w κ} (hk : ∀ k u, RelV (f k) u → kd.is k u = true ∧ u.scannable = true) {ks : List κ} {us : List Value} (r : Vals (ks.map f) us) (i : Nat) (v : Value) (e : us[i]? = some v) : ∃ k, ks[i]? = some k ∧ kd.is k v = true ∧ v.scannable = true := by
  have hi : i < ks.length := by
    have := (List.getElem?_eq_some_iff.mp e).1
    have h2 := r.length
    simp at h2; omega
  obtain ⟨w, h1, h2⟩ := r.get (i := i) (x := f ks[i]) (by simp [hi])
  rw [h1] at e
  cases e
  exact ⟨ks[i], List.getElem?_eq_getElem hi, hk _ _ h2⟩
theorem pe_lenSet2 {a : Expr} {ta : TE} {p p2 q pos : Pos} (hg : Gl X "len") (hm : X.mg "len" = none) (hg2 : Gl X "set") (hm2 : X.mg "set" = none) (ha : PE X a ta) (hc : X.calm = true)
    (na : starEach [a] X.env = (false, eval a X.env) :: starEach [] X.env) : PE X (.Call (.Name "len" p) [.Call (.Name "set" p2) [a] [] q] [] pos) (tLenSetS X.K ta) := by
  refine ⟨fun pins s σ H Q I h => Call_ (ld_blt I hg hm boot_len (PyProof.Rows.callWith_builtin1 (PyProof.Rows.args_cons ?_ rfl) rfl rfl))⟩
  refine Call_ (ld_blt I hg2 hm2 boot_set (PyProof.Rows.callWith_type1 (PyProof.Rows.args_cons (thn (ha.run pins s σ H _ I h) fun v s1 ⟨x, H1, I1, r1, q1⟩ => PyProof.Rows.args_nil ?_) na) na rfl))
  rcases q1 with ⟨l, ys, rfl, hq, hl, q1⟩ | ⟨l, ys, rfl, hq, hl, q1⟩
  · cases r1
    obtain ⟨its, r, pl, hz⟩ := I1.list hq
    have hlen : ys.length = its.toArray.size := by have := r.length; simp at this; simpa using this
    refine set_list (kd := PySem.strKind X.prog X.w) (I1.ok.hd hc) pl.isList hlen (fun i v e => vals_key (f := V.str) (fun k u ru => ?_) r i v (by simpa using e)) (by unfold scanBound; omega) fun h' tk hS hk => PyProof.Rows.args_nil ?_
    · obtain ⟨t, rfl⟩ := ru
      exact ⟨strKind_is _ _ _ _, rfl⟩
    obtain ⟨o, es, ep, t, ho, hex, hd, _, _, _, hf, hn⟩ := hS
    have I2 : Inv X pins σ H1 { s1 with heap := h', toks := tk } := I1.kept fun b o e => hk b o (Heap.lt_size e) e
    have := once_len ys
    exact call_len_set ho hex hd hf (by rw [hn]; omega) ⟨.int ((once ys).length : Nat), H1, I2.tok _, ⟨_, by rw [hn]⟩, q1⟩
  · cases r1
    obtain ⟨its, r, pl, hz⟩ := I1.list hq
    have hlen : ys.length = its.toArray.size := by have := r.length; simp at this; simpa using this
    refine set_list (kd := PySem.intKind X.prog X.w) (I1.ok.hd hc) pl.isList hlen (fun i v e => vals_key (f := V.int) (fun k u ru => ?_) r i v (by simpa using e)) (by unfold scanBound; omega) fun h' tk hS hk => PyProof.Rows.args_nil ?_
    · obtain ⟨t, rfl⟩ := ru
      exact ⟨intKind_is _ _ _ _, rfl⟩
    obtain ⟨o, es, ep, t, ho, hex, hd, _, _, _, hf, hn⟩ := hS
    have I2 : Inv X pins σ H1 { s1 with heap := h', toks := tk } := I1.kept fun b o e => hk b o (Heap.lt_size e) e
    have := once_len ys
    exact call_len_set ho hex hd hf (by rw [hn]; omega) ⟨.int ((once ys).length : Nat), H1, I2.tok _, ⟨_, by rw [hn]⟩, q1⟩
def countD : Dat → Res Dat
  | .lst ds => match strsD ds, intsD ds with
    | some ys, _ => if ys.length ≤ 4000 then .ok (.int ((once ys).length : Nat)) else .stuck
    | none, some ns => if ns.length ≤ 4000 then .ok (.int ((once ns).length : Nat)) else .stuck
    | none, none => .stuck
  | _ => .stuck
theorem ve_lenSetA {a : Expr} {p p2 q pos : Pos} {f : Env → Res Dat} (hm : X.mg "len" = none) (hm2 : X.mg "set" = none) (ha : VE X g W a f) (hc : X.calm = true := by rfl) (hg : Gl X "len" := by rfl) (hg2 : Gl X "set" := by rfl) (na : starEach [a] X.env = (false, eval a X.env) :: starEach [] X.env := by rfl) : VE X g W (.Call (.Name "len" p) [.Call (.Name "set" p2) [a] [] q] [] pos) (eUn countD f) :=
  PE.imp (pe_lenSet2 hg hm hg2 hm2 ha hc na) fun σ H Q ⟨ρ, F, s, p⟩ => ⟨ρ, F, s, (PostG.bind s p).imp fun x H1 ⟨F1, a, s1, ra, x1, p1⟩ => by
    cases ra with
    | @lst aa xs ds ha rs =>
      dsimp only [countD] at p1
      cases e : strsD ds with
      | some ys =>
        rw [e] at p1
        have e2 := reps_strs rs e
        subst e2
        by_cases h : ys.length ≤ 4000
        · simp only [if_pos h] at p1
          exact .inl ⟨aa, ys, rfl, SqL.of (s1.sub _ _ ha), h, PostG.here s1.sub p1 (.int _)⟩
        · simp only [if_neg h] at p1; exact p1.elim
      | none =>
        cases e3 : intsD ds with
        | none => rw [e, e3] at p1; exact p1.elim
        | some ns =>
          rw [e, e3] at p1
          have e2 := reps_ints rs e3
          subst e2
          by_cases h : ns.length ≤ 4000
          · simp only [if_pos h] at p1
            exact .inr ⟨aa, ns, rfl, SqL.of (s1.sub _ _ ha), h, PostG.here s1.sub p1 (.int _)⟩
          · simp only [if_neg h] at p1; exact p1.elim
    | _ => exact p1.elim⟩
end
end VL

/-! VL17: written dicts and tuples of the module; .get of a dict. -/
namespace VL
open PySem PySem.Spec PyProof.Rows L2
/-- a written dict's entries: texts and ints -/
def KLit (P : Params) : List DictEntry → List (Str × Int) → Prop
  | [], [] => True
  | e :: r, p :: s => (∃ t u, e = ⟨PyData.keyHash P p.1, .str p.1 t, .int p.2 u⟩) ∧ KLit P r s
  | _, _ => False
def lookS (kvs : List (Str × Int)) (z : Str) : Option Int := (kvs.find? fun p => decide (p.1 = z)).map (·.2)
theorem klit_lit {P : Params} : ∀ {es : List DictEntry} {kvs : List (Str × Int)}, KLit P es kvs → PySem.W.KeysLit P es
  | [], [], _ => trivial
  | [], _ :: _, h => h.elim
  | _ :: _, [], h => h.elim
  | e :: r, p :: s, ⟨⟨t, u, h⟩, h2⟩ => ⟨⟨p.1, t, by rw [h], by rw [h]⟩, klit_lit h2⟩
theorem klit_find {P : Params} (z : Str) : ∀ {es : List DictEntry} {kvs : List (Str × Int)}, KLit P es kvs →
    (es.any (·.refKey)) = false ∧ ((lookS kvs z = none ∧ es.find? (·.key.isStr z) = none) ∨ ∃ i e u, lookS kvs z = some i ∧ es.find? (·.key.isStr z) = some e ∧ e.val = .int i u)
  | [], [], _ => ⟨rfl, .inl ⟨rfl, rfl⟩⟩
  | [], _ :: _, h => h.elim
  | _ :: _, [], h => h.elim
  | e :: r, p :: s, ⟨⟨t, u, h⟩, h2⟩ => by
    subst h
    obtain ⟨a, b⟩ := klit_find z h2
    have hs : Value.isStr (Value.str p.1 t) z = decide (p.1 = z) := by
      show (p.1 == z) = _
      rfl
    refine ⟨by rw [List.any_cons, a]; rfl, ?_⟩
    by_cases q : p.1 = z
    · refine .inr ⟨p.2, ⟨PyData.keyHash P p.1, .str p.1 t, .int p.2 u⟩, u, by simp [lookS, q], ?_, rfl⟩
      subst q
      rw [List.find?_cons]
      simp only [hs, decide_true]
    · have e1 : lookS (p :: s) z = lookS s z := by simp [lookS, q]
      have e2 : (⟨PyData.keyHash P p.1, .str p.1 t, .int p.2 u⟩ :: r : List DictEntry).find? (·.key.isStr z) = r.find? (·.key.isStr z) := by
        rw [List.find?_cons]
        simp only [hs, q, decide_false]
      rw [e1, e2]
      exact b
structure KDic (K : PySem.W.Frag) (w : World) (mg : Str → Option Value) (x : Str) (kvs : List (Str × Int)) : Prop where
  ex : ∃ d es n, mg x = some (.ref d) ∧ K.lookup d = some ⟨.type "dict", none, .dict es n, #[]⟩ ∧ KLit w.params es.toList kvs ∧ (d == sysModules) = false
def inKD (kvs : List (Str × Int)) : Dat → Res Dat
  | .str z => .ok (.bl (lookS kvs z).isSome)
  | _ => .stuck
def notInKD (kvs : List (Str × Int)) : Dat → Res Dat
  | .str z => .ok (.bl (!(lookS kvs z).isSome))
  | _ => .stuck
def itemKD (kvs : List (Str × Int)) : Dat → Res Dat
  | .str z => match lookS kvs z with
    | some i => .ok (.int i)
    | none => .stuck
  | _ => .stuck
section
variable {X : Cx} {g : Glob} {W : WX}
theorem kdic_get {d : Addr} {es : Array DictEntry} {n : Nat} {K : PySem.W.Frag} {P : Params} {kvs : List (Str × Int)} (h : K.lookup d = some ⟨.type "dict", none, .dict es n, #[]⟩) (l : KLit P es.toList kvs) (z : Str) :
    (lookS kvs z = none ∧ PySem.W.nsIn K d z = some none) ∨ ∃ i u, lookS kvs z = some i ∧ PySem.W.nsIn K d z = some (some (.int i u)) := by
  obtain ⟨a, b⟩ := klit_find z l
  unfold PySem.W.nsIn
  rw [h]
  rcases b with ⟨b1, b2⟩ | ⟨i, e, u, b1, b2, b3⟩
  · refine .inl ⟨b1, ?_⟩
    dsimp only
    rw [b2, a]
    rfl
  · refine .inr ⟨i, u, b1, ?_⟩
    dsimp only
    rw [b2]
    dsimp only
    rw [b3]
theorem kd_use {op : CmpOp} {x : Str} {kvs : List (Str × Int)} {m : Dat → Res Dat} {f : Env → Res Dat} {sg : Bool → Bool} (hm : ∀ z, m (.str z) = .ok (.bl (sg (lookS kvs z).isSome))) (hn : ∀ d, (∀ z, d ≠ .str z) → m d = .stuck)
    {d : Addr} {es : Array DictEntry} {n : Nat} (h : X.K.lookup d = some ⟨.type "dict", none, .dict es n, #[]⟩) (l : KLit X.w.params es.toList kvs) {σ : St} {H : Hp} {Q : VK} (q : tV X.K g W (eUn m f) σ H Q) :
    tOp (fun x y H Q => ∃ (z : Str) (r : Option Value), x = .str z ∧ y = .ref d ∧ PySem.W.nsIn X.K d z = some r ∧ Q (.bl (sg r.isSome)) H) (tV X.K g W f) (tC (.ref d)) σ H Q := by
  obtain ⟨ρ, F, s, p⟩ := q
  refine ⟨ρ, F, s, (PostG.bind s p).imp fun x H1 ⟨F1, a, s1, ra, x1, p1⟩ => ?_⟩
  cases ra with
  | str z =>
    rw [hm] at p1
    rcases kdic_get h l z with ⟨b1, b2⟩ | ⟨i, u, b1, b2⟩
    · exact ⟨z, none, rfl, rfl, b2, by rw [b1] at p1; exact PostG.here s1.sub p1 (.bl _)⟩
    · exact ⟨z, some (.int i u), rfl, rfl, b2, by rw [b1] at p1; exact PostG.here s1.sub p1 (.bl _)⟩
  | _ => rw [hn _ (by intro z e; cases e)] at p1; exact p1.elim
theorem ve_inK {a : Expr} {x : Str} {p pos : Pos} {kvs : List (Str × Int)} {f : Env → Res Dat} (D : KDic X.K X.w X.mg x kvs) (ha : VE X g W a f) (hg : Gl X x := by rfl) (hd : (x == ("__debug__" : Str)) = false := by decide) (hm : behindInMarks .In (.Name x p) = false := by rfl) : VE X g W (.Compare a [.In] [.Name x p] pos) (eUn (inKD kvs) f) := by
  obtain ⟨d, es, n, h1, h2, h3, h4⟩ := D.ex
  exact PE.imp (pe_cmpR (op_in_kd (X := X) ⟨h2, klit_lit h3, h4⟩) ha (pe_glob hg h1 (v := .ref d) rfl hd) hm) fun σ H Q q => kd_use (op := .In) (x := x) (sg := fun b => b) (fun _ => rfl) (fun d h => by cases d <;> first | rfl | exact absurd rfl (h _)) h2 h3 q
theorem ve_notInK {a : Expr} {x : Str} {p pos : Pos} {kvs : List (Str × Int)} {f : Env → Res Dat} (D : KDic X.K X.w X.mg x kvs) (ha : VE X g W a f) (hg : Gl X x := by rfl) (hd : (x == ("__debug__" : Str)) = false := by decide) (hm : behindInMarks .NotIn (.Name x p) = false := by rfl) : VE X g W (.Compare a [.NotIn] [.Name x p] pos) (eUn (notInKD kvs) f) := by
  obtain ⟨d, es, n, h1, h2, h3, h4⟩ := D.ex
  exact PE.imp (pe_cmpR (op_notIn_kd (X := X) ⟨h2, klit_lit h3, h4⟩) ha (pe_glob hg h1 (v := .ref d) rfl hd) hm) fun σ H Q q => kd_use (op := .NotIn) (x := x) (sg := fun b => !b) (fun _ => rfl) (fun d h => by cases d <;> first | rfl | exact absurd rfl (h _)) h2 h3 q
theorem vt_inK {a : Expr} {x : Str} {p pos : Pos} {kvs : List (Str × Int)} {f : Env → Res Dat} (D : KDic X.K X.w X.mg x kvs) (ha : VE X g W a f) (hg : Gl X x := by rfl) (hd : (x == ("__debug__" : Str)) = false := by decide) (hm : behindInMarks .In (.Name x p) = false := by rfl) : VT X g W (.Compare a [.In] [.Name x p] pos) (eTest (eUn (inKD kvs) f)) := by
  obtain ⟨d, es, n, h1, h2, h3, h4⟩ := D.ex
  exact PT.imp (pt_cmpR (op_in_kd (X := X) ⟨h2, klit_lit h3, h4⟩) ha (pe_glob hg h1 (v := .ref d) rfl hd) hm) fun σ H Q q => test_of (fun Q' q => kd_use (op := .In) (x := x) (sg := fun b => b) (fun _ => rfl) (fun d h => by cases d <;> first | rfl | exact absurd rfl (h _)) h2 h3 q) q
theorem vt_notInK {a : Expr} {x : Str} {p pos : Pos} {kvs : List (Str × Int)} {f : Env → Res Dat} (D : KDic X.K X.w X.mg x kvs) (ha : VE X g W a f) (hg : Gl X x := by rfl) (hd : (x == ("__debug__" : Str)) = false := by decide) (hm : behindInMarks .NotIn (.Name x p) = false := by rfl) : VT X g W (.Compare a [.NotIn] [.Name x p] pos) (eTest (eUn (notInKD kvs) f)) := by
  obtain ⟨d, es, n, h1, h2, h3, h4⟩ := D.ex
  exact PT.imp (pt_cmpR (op_notIn_kd (X := X) ⟨h2, klit_lit h3, h4⟩) ha (pe_glob hg h1 (v := .ref d) rfl hd) hm) fun σ H Q q => test_of (fun Q' q => kd_use (op := .NotIn) (x := x) (sg := fun b => !b) (fun _ => rfl) (fun d h => by cases d <;> first | rfl | exact absurd rfl (h _)) h2 h3 q) q
theorem ix_kd {d : Addr} {es : Array DictEntry} {n : Nat} (D : KDict X.K X.w d es n) : IxR X (fun x y H Q => ∃ (z : Str) (u0 : Value) (v0 : V), x = .ref d ∧ y = .str z ∧ PySem.W.nsIn X.K d z = some (some u0) ∧ RelV v0 u0 ∧ Q v0 H) := by
  intro value slice pins s σ H x y v u Q I rx ry h hs
  have hx : x = .ref d := let ⟨_, _, _, e, _⟩ := h; e
  subst hx
  have o := op_item_kd D pins s σ H (.ref d) y v u Q I rx ry h
  cases rx
  exact tail_any (kd_type D I) PySem.slot_dict_getitem.lookup o hs
theorem ve_itemK {b : Expr} {x : Str} {p pos : Pos} {kvs : List (Str × Int)} {f : Env → Res Dat} (D : KDic X.K X.w X.mg x kvs) (ha : VE X g W b f) (hg : Gl X x := by rfl) (hd : (x == ("__debug__" : Str)) = false := by decide) (hs : PlainIx b := by exact fun _ _ => rfl) : VE X g W (.Subscript (.Name x p) b pos) (eUn (itemKD kvs) f) := by
  obtain ⟨d, es, n, h1, h2, h3, h4⟩ := D.ex
  refine PE.imp (pe_ix (ix_kd (X := X) ⟨h2, klit_lit h3, h4⟩) (pe_glob hg h1 (v := .ref d) rfl hd) ha hs) fun σ H Q ⟨ρ, F, s, p⟩ => ?_
  refine ⟨ρ, F, s, (PostG.bind s p).imp fun y H1 ⟨F1, a, s1, ra, x1, p1⟩ => ?_⟩
  cases ra with
  | str z =>
    rcases kdic_get h2 h3 z with ⟨b1, b2⟩ | ⟨i, u, b1, b2⟩
    · unfold itemKD at p1; simp only [b1] at p1; exact p1.elim
    · unfold itemKD at p1; simp only [b1] at p1
      exact ⟨z, _, .int i, rfl, rfl, b2, ⟨u, rfl⟩, PostG.here s1.sub p1 (.int _)⟩
  | _ => exact p1.elim
/-- a written tuple -/
def StrsW : List Value → List Str → Prop
  | [], [] => True
  | v :: r, p :: s => (∃ t, v = .str p t) ∧ StrsW r s
  | _, _ => False
theorem strsW_vals : ∀ {us : List Value} {ys : List Str}, StrsW us ys → Vals (ys.map V.str) us
  | [], [], _ => .nil
  | [], _ :: _, h => h.elim
  | _ :: _, [], h => h.elim
  | v :: r, p :: s, ⟨h, h2⟩ => .cons h (strsW_vals h2)
theorem reps_strs' {K : PySem.W.Frag} {F : Hp} : ∀ ys : List Str, Reps K g F (ys.map V.str) (ys.map Dat.str)
  | [] => .nil
  | y :: ys => .cons (.str y) (reps_strs' ys)
structure KTup (K : PySem.W.Frag) (mg : Str → Option Value) (x : Str) (ys : List Str) : Prop where
  ex : ∃ (a : Addr) (od : Option Addr) (its : Array Value) (n : Nat) (sl : Array (Option Value)), mg x = some (.ref a) ∧ K.lookup a = some ⟨.type "tuple", od, .seq its n, sl⟩ ∧ StrsW its.toList ys ∧ its.size ≤ 1000
theorem ve_globT {x : Str} {ys : List Str} {ds : List Dat} {pos : Pos} (T : KTup X.K X.mg x ys) (hds : ys.map Dat.str = ds := by rfl) (hg : Gl X x := by rfl) (hd : (x == ("__debug__" : Str)) = false := by decide) : VE X g W (.Name x pos) (eC (.tup ds)) := by
  subst hds
  obtain ⟨a, od, its, n, sl, h1, h2, h3, h4⟩ := T.ex
  exact ve_const (pe_glob hg h1 (v := .ref a) rfl hd) fun F => .tup (.inr ⟨_, its, n, h2, rfl, rfl, Nat.le_trans h4 (by decide), strsW_vals h3⟩) (reps_strs' ys)
/-! ### d.get(k, x) -/
def isDctD : Dat → Bool
  | .dct _ => true
  | _ => false
def getD : Dat → Dat → Dat → Res Dat
  | .dct kvs, k, z => match keyOf k with
    | some k => .ok ((dLook kvs k).getD z)
    | none => .stuck
  | _, _, _ => .stuck
def eMth2 (c : Dat → Bool) (op : Dat → Dat → Dat → Res Dat) (f h l : Env → Res Dat) : Env → Res Dat := fun ρ => (f ρ).bind fun a => if c a = true then (h ρ).bind fun b => (l ρ).bind fun z => op a b z else .stuck
theorem rep_dget {K : PySem.W.Frag} {F H : Hp} {a : Addr} {y : V} {kvs : List (Key × V)} {ds : List (Key × Dat)} {d : Dat} {k : Key} (s : Same F H) {od : Obj} (ha : F a = some (.frz od (.dK kvs))) (h1 : kvs.map Prod.fst = ds.map Prod.fst) (h2 : Reps K g F (kvs.map Prod.snd) (ds.map Prod.snd)) (ry : Rep K g F y d) (hk : keyOf d = some k) :
    ∃ o, DGet H a y o ∧ ((o = none ∧ dLook ds k = none) ∨ ∃ v e, o = some v ∧ dLook ds k = some e ∧ Rep K g F v e) := by
  refine ⟨valV kvs k, .inl ⟨kvs, k, .inr ⟨_, s _ _ ha⟩, rep_key ry hk, rfl⟩, ?_⟩
  rcases (RD.of h1 h2).look (k := k) with ⟨a1, a2⟩ | ⟨v, e, a1, a2, a3⟩
  · exact .inl ⟨a1, a2⟩
  · exact .inr ⟨v, e, a1, a2, a3⟩
theorem ve_get {k : Nat} {o e f : Expr} {apos cpos : Pos} {fo fe ff : Env → Res Dat} (hr : Room k X.A) (ho : VE X g W o fo) (he : VE X g W e fe) (hf : VE X g W f ff) (hb : attributeBase o "get" X.env (eval o X.env) = eval o X.env := by rfl)
    (hw : ((backTo cpos (starEach [e, f] X.env)).all (fun x => !x.1) && (backToKw cpos (keywordEach [] X.env)).all (fun x => x.1.isSome) && decide (([e, f] : List Expr).length + ([] : List Keyword).length + (if ([] : List Keyword).isEmpty then 0 else 1) < 30)) = true := by rfl)
    (hl : (apos.endLine == cpos.line) = true := by rfl) (ht : backTo cpos (starEach [e, f] X.env) = [(false, eval e X.env), (false, eval f X.env)] := by rfl) : VE X g W (.Call (.Attribute o "get" apos) [e, f] [] cpos) (eMth2 isDctD getD fo fe ff) :=
  PE.imp (pe_dget2 (hu_of hr) ho he hf ⟨hb, hw, hl, ht⟩) fun σ H Q ⟨ρ, F, s, p⟩ => ⟨ρ, F, s, (PostG.bind s p).imp fun x H1 ⟨F1, a, s1, ra, x1, p1⟩ => by
    cases ra with
    | @dct aa od kvs ds ha h1 h2 =>
      rw [if_pos (by rfl)] at p1
      refine ⟨aa, rfl, .inl ⟨kvs, .inr ⟨_, s1.sub _ _ ha⟩⟩, ρ, F1, s1, (PostG.bind s1 p1).imp fun y H2 ⟨F2, b, s2, rb, x2, p2⟩ => ?_⟩
      refine ⟨ρ, F2, s2, (PostG.bind s2 p2).imp fun z H3 ⟨F3, c, s3, rc, x3, p3⟩ => ?_⟩
      have le := (x2.le s1.sub).trans (x3.le s2.sub)
      dsimp only [getD] at p3
      cases ek : keyOf b with
      | none => rw [ek] at p3; exact p3.elim
      | some kk =>
        rw [ek] at p3
        dsimp only at p3
        obtain ⟨oo, dg, q⟩ := rep_dget s3.sub (le _ _ ha) h1 (h2.mono le) (rb.mono (x3.le s2.sub)) ek
        refine ⟨oo, dg, ?_⟩
        rcases q with ⟨q1, q2⟩ | ⟨v, e, q1, q2, q3⟩
        · subst q1; rw [q2] at p3; exact PostG.here s3.sub p3 rc
        · subst q1; rw [q2] at p3; exact PostG.here s3.sub p3 q3
    | _ => exact p1.elim⟩
/-- the pairs of a display -/
theorem vpp_nil {pos : Pos} : PPs X pos [] [] (([] : List FF).map fun p => (tV X.K g W p.1, tV X.K g W p.2)) := pps_nil
theorem vpp_cons {pos : Pos} {k v : Expr} {ks : List (Option Expr)} {vs : List Expr} {fs : List FF} {f h : Env → Res Dat} (hk : VE X g W k f) (hv : VE X g W v h) (hr : PPs X pos ks vs (fs.map fun p => (tV X.K g W p.1, tV X.K g W p.2))) :
    PPs X pos (some k :: ks) (v :: vs) (((f, h) :: fs).map fun p => (tV X.K g W p.1, tV X.K g W p.2)) := pps_cons hk hv hr
end
end VL

/-! VL18: further equations for the pure part. -/
namespace VL
open PySem PySem.Spec PyProof.Rows L2
@[simp] theorem isi_non_int : isiD [.non, .ty "int"] = .ok (.bl false) := Eq.trans rfl rfl
@[simp] theorem isi_non_bool : isiD [.non, .ty "bool"] = .ok (.bl false) := Eq.trans rfl rfl
@[simp] theorem isi_non_str : isiD [.non, .ty "str"] = .ok (.bl false) := Eq.trans rfl rfl
@[simp] theorem isi_non_list : isiD [.non, .ty "list"] = .ok (.bl false) := Eq.trans rfl rfl
@[simp] theorem isi_non_tuple : isiD [.non, .ty "tuple"] = .ok (.bl false) := Eq.trans rfl rfl
@[simp] theorem isi_non_dict : isiD [.non, .ty "dict"] = .ok (.bl false) := Eq.trans rfl rfl
@[simp] theorem isi_bl_int {b : Bool} : isiD [.bl b, .ty "int"] = .ok (.bl true) := Eq.trans rfl rfl
@[simp] theorem isi_bl_bool {b : Bool} : isiD [.bl b, .ty "bool"] = .ok (.bl true) := Eq.trans rfl rfl
@[simp] theorem isi_bl_str {b : Bool} : isiD [.bl b, .ty "str"] = .ok (.bl false) := Eq.trans rfl rfl
@[simp] theorem isi_bl_list {b : Bool} : isiD [.bl b, .ty "list"] = .ok (.bl false) := Eq.trans rfl rfl
@[simp] theorem isi_bl_tuple {b : Bool} : isiD [.bl b, .ty "tuple"] = .ok (.bl false) := Eq.trans rfl rfl
@[simp] theorem isi_bl_dict {b : Bool} : isiD [.bl b, .ty "dict"] = .ok (.bl false) := Eq.trans rfl rfl
@[simp] theorem isi_int_int {i : Int} : isiD [.int i, .ty "int"] = .ok (.bl true) := Eq.trans rfl rfl
@[simp] theorem isi_int_bool {i : Int} : isiD [.int i, .ty "bool"] = .ok (.bl false) := Eq.trans rfl rfl
@[simp] theorem isi_int_str {i : Int} : isiD [.int i, .ty "str"] = .ok (.bl false) := Eq.trans rfl rfl
@[simp] theorem isi_int_list {i : Int} : isiD [.int i, .ty "list"] = .ok (.bl false) := Eq.trans rfl rfl
@[simp] theorem isi_int_tuple {i : Int} : isiD [.int i, .ty "tuple"] = .ok (.bl false) := Eq.trans rfl rfl
@[simp] theorem isi_int_dict {i : Int} : isiD [.int i, .ty "dict"] = .ok (.bl false) := Eq.trans rfl rfl
@[simp] theorem isi_str_int {s : Str} : isiD [.str s, .ty "int"] = .ok (.bl false) := Eq.trans rfl rfl
@[simp] theorem isi_str_bool {s : Str} : isiD [.str s, .ty "bool"] = .ok (.bl false) := Eq.trans rfl rfl
@[simp] theorem isi_str_str {s : Str} : isiD [.str s, .ty "str"] = .ok (.bl true) := Eq.trans rfl rfl
@[simp] theorem isi_str_list {s : Str} : isiD [.str s, .ty "list"] = .ok (.bl false) := Eq.trans rfl rfl
@[simp] theorem isi_str_tuple {s : Str} : isiD [.str s, .ty "tuple"] = .ok (.bl false) := Eq.trans rfl rfl
@[simp] theorem isi_str_dict {s : Str} : isiD [.str s, .ty "dict"] = .ok (.bl false) := Eq.trans rfl rfl
@[simp] theorem isi_lst_int {xs : List Dat} : isiD [.lst xs, .ty "int"] = .ok (.bl false) := Eq.trans rfl rfl
@[simp] theorem isi_lst_bool {xs : List Dat} : isiD [.lst xs, .ty "bool"] = .ok (.bl false) := Eq.trans rfl rfl
@[simp] theorem isi_lst_str {xs : List Dat} : isiD [.lst xs, .ty "str"] = .ok (.bl false) := Eq.trans rfl rfl
@[simp] theorem isi_lst_list {xs : List Dat} : isiD [.lst xs, .ty "list"] = .ok (.bl true) := Eq.trans rfl rfl
@[simp] theorem isi_lst_tuple {xs : List Dat} : isiD [.lst xs, .ty "tuple"] = .ok (.bl false) := Eq.trans rfl rfl
@[simp] theorem isi_lst_dict {xs : List Dat} : isiD [.lst xs, .ty "dict"] = .ok (.bl false) := Eq.trans rfl rfl
@[simp] theorem isi_tup_int {xs : List Dat} : isiD [.tup xs, .ty "int"] = .ok (.bl false) := Eq.trans rfl rfl
@[simp] theorem isi_tup_bool {xs : List Dat} : isiD [.tup xs, .ty "bool"] = .ok (.bl false) := Eq.trans rfl rfl
@[simp] theorem isi_tup_str {xs : List Dat} : isiD [.tup xs, .ty "str"] = .ok (.bl false) := Eq.trans rfl rfl
@[simp] theorem isi_tup_list {xs : List Dat} : isiD [.tup xs, .ty "list"] = .ok (.bl false) := Eq.trans rfl rfl
@[simp] theorem isi_tup_tuple {xs : List Dat} : isiD [.tup xs, .ty "tuple"] = .ok (.bl true) := Eq.trans rfl rfl
@[simp] theorem isi_tup_dict {xs : List Dat} : isiD [.tup xs, .ty "dict"] = .ok (.bl false) := Eq.trans rfl rfl
@[simp] theorem isi_dct_int {kvs : List (Key × Dat)} : isiD [.dct kvs, .ty "int"] = .ok (.bl false) := Eq.trans rfl rfl
@[simp] theorem isi_dct_bool {kvs : List (Key × Dat)} : isiD [.dct kvs, .ty "bool"] = .ok (.bl false) := Eq.trans rfl rfl
@[simp] theorem isi_dct_str {kvs : List (Key × Dat)} : isiD [.dct kvs, .ty "str"] = .ok (.bl false) := Eq.trans rfl rfl
@[simp] theorem isi_dct_list {kvs : List (Key × Dat)} : isiD [.dct kvs, .ty "list"] = .ok (.bl false) := Eq.trans rfl rfl
@[simp] theorem isi_dct_tuple {kvs : List (Key × Dat)} : isiD [.dct kvs, .ty "tuple"] = .ok (.bl false) := Eq.trans rfl rfl
@[simp] theorem isi_dct_dict {kvs : List (Key × Dat)} : isiD [.dct kvs, .ty "dict"] = .ok (.bl true) := Eq.trans rfl rfl
def isNon : Dat → Bool
  | .non => true
  | _ => false
section
variable {a b c d : Dat} {r xs : List Dat} {ρ : SEnv} {js : List Nat} {n i : Nat}
@[simp] theorem ix_t0 : ixD (.tup (a :: r)) (.int 0) = .ok a := ixD_tup (by decide) rfl
@[simp] theorem ix_t1 : ixD (.tup (a :: b :: r)) (.int 1) = .ok b := ixD_tup (by decide) rfl
@[simp] theorem ix_t2 : ixD (.tup (a :: b :: c :: r)) (.int 2) = .ok c := ixD_tup (by decide) rfl
@[simp] theorem ix_l0 : ixD (.lst (a :: r)) (.int 0) = .ok a := ixD_lst (by decide) rfl
@[simp] theorem ix_l1 : ixD (.lst (a :: b :: r)) (.int 1) = .ok b := ixD_lst (by decide) rfl
@[simp] theorem ix_l2 : ixD (.lst (a :: b :: c :: r)) (.int 2) = .ok c := ixD_lst (by decide) rfl
@[simp] theorem seqD_lst : seqD (.lst xs) = .ok xs := Eq.trans rfl rfl
@[simp] theorem seqD_tup : seqD (.tup xs) = .ok xs := Eq.trans rfl rfl
@[simp] theorem seqD_rls : seqD (.rls xs) = .ok xs := Eq.trans rfl rfl
@[simp] theorem seqD_str {z : Str} : seqD (.str z) = .ok (z.cps.toList.map fun c => Dat.str ⟨#[c]⟩) := Eq.trans rfl rfl
@[simp] theorem forD_nil {p : Pat} {b : SEnv → SRes} : forD p b [] ρ = .next ρ := Eq.trans rfl rfl
theorem forD_cons {p : Pat} {b : SEnv → SRes} : forD p b (d :: r) ρ = match bindU p d with
    | none => .stuck
    | some us => (b (setS ρ us)).turn (forD p b r) := Eq.trans rfl rfl
theorem forD_nm {b : SEnv → SRes} : forD (.nm i) b (d :: r) ρ = (b (ρ.set i (some (.frz d)))).turn (forD (.nm i) b r) := Eq.trans rfl rfl
@[simp] theorem turn_next {k : SEnv → SRes} : (SRes.next ρ).turn k = k ρ := Eq.trans rfl rfl
@[simp] theorem turn_ret {k : SEnv → SRes} : (SRes.ret d).turn k = .ret d := Eq.trans rfl rfl
@[simp] theorem turn_exc {k : SEnv → SRes} {c : Str} : (SRes.exc c).turn k = .exc c := Eq.trans rfl rfl
@[simp] theorem viewAt_own : viewAt js n (some (.own xs)) = if n ∈ js then some (.lst xs) else none := Eq.trans rfl rfl
@[simp] theorem viewAt_none : viewAt js n none = none := Eq.trans rfl rfl
@[simp] theorem sOwn_eq {f : Env → Res (List Dat)} : sOwn i js f ρ = (f (view js ρ)).toS fun ds => if ds.length ≤ big then .next ((afterL js ρ ds).set i (some (.own ds))) else .stuck := Eq.trans rfl rfl
@[simp] theorem eMth_eq {c : Dat → Bool} {op : Dat → Dat → Res Dat} {f h : Env → Res Dat} {ρ : Env} : eMth c op f h ρ = (f ρ).bind fun a => if c a = true then (h ρ).bind fun b => op a b else .stuck := Eq.trans rfl rfl
@[simp] theorem eMth2_eq {c : Dat → Bool} {op : Dat → Dat → Dat → Res Dat} {f h l : Env → Res Dat} {ρ : Env} : eMth2 c op f h l ρ = (f ρ).bind fun a => if c a = true then (h ρ).bind fun b => (l ρ).bind fun z => op a b z else .stuck := Eq.trans rfl rfl
@[simp] theorem isLst_lst : isLstD (.lst xs) = true := Eq.trans rfl rfl
@[simp] theorem isStr_str {z : Str} : isStrD (.str z) = true := Eq.trans rfl rfl
@[simp] theorem isDct_dct {kvs : List (Key × Dat)} : isDctD (.dct kvs) = true := Eq.trans rfl rfl
@[simp] theorem negD_int {z : Int} : negD (.int z) = .ok (.int (-z)) := Eq.trans rfl rfl
@[simp] theorem sRetN_eq : sRetN ρ = .ret .non := Eq.trans rfl rfl
@[simp] theorem sBind_eq {p : Pat} {f : Env → Res Dat} : sBind p js f ρ = (f (view js ρ)).toS fun d => bindS p d (after js ρ d) := Eq.trans rfl rfl
theorem bindS_eq {p : Pat} : bindS p d ρ = match bindU p d with
  | some us => .next (setS ρ us)
  | none => .stuck := Eq.trans rfl rfl
@[simp] theorem setS_nil : setS ρ [] = ρ := Eq.trans rfl rfl
@[simp] theorem setS_cons {us : List (Nat × Dat)} : setS ρ ((i, d) :: us) = setS (ρ.set i (some (.frz d))) us := Eq.trans rfl rfl
@[simp] theorem setE_nil {ρ : Env} : setE ρ [] = ρ := Eq.trans rfl rfl
@[simp] theorem setE_cons {ρ : Env} {us : List (Nat × Dat)} : setE ρ ((i, d) :: us) = setE (ρ.set i (some d)) us := Eq.trans rfl rfl
@[simp] theorem bindU_nm : bindU (.nm i) d = some [(i, d)] := by unfold bindU; rfl
@[simp] theorem bindU_tp {ps : List Pat} : bindU (.tp ps) (.tup xs) = bindUs ps xs := by rw [bindU]
@[simp] theorem bindUs_nil : bindUs [] [] = some [] := by rw [bindUs]
@[simp] theorem bindUs_nm {ps : List Pat} : bindUs (.nm i :: ps) (d :: r) = (bindUs ps r).map ((i, d) :: ·) := by
  rw [bindUs, bindU_nm]
  cases bindUs ps r <;> rfl
/-- an own list grows -/
theorem sApp_step {f : Env → Res Dat} {ds : List Dat} (h0 : ρ[i]? = some (some (.own ds))) (h : f (view js ρ) = .ok d) (h1 : (after js ρ d)[i]? = some (some (.own ds))) (hl : ds.length < big) : sApp i js f ρ = .next ((after js ρ d).set i (some (.own (ds ++ [d])))) := by
  unfold sApp
  rw [h0]
  show (f (view js ρ)).toS (fun d => appS i d (after js ρ d)) = _
  rw [h, Res.toS_ok]
  unfold appS
  rw [h1]
  show (if ds.length < big then _ else _) = _
  rw [if_pos hl]
@[simp] theorem noL_non : noL .non = true := by rw [noL] <;> simp
@[simp] theorem noL_bl {z : Bool} : noL (.bl z) = true := by rw [noL] <;> simp
@[simp] theorem noL_int {z : Int} : noL (.int z) = true := by rw [noL] <;> simp
@[simp] theorem noL_str {z : Str} : noL (.str z) = true := by rw [noL] <;> simp
@[simp] theorem noL_tup : noL (.tup xs) = noLs xs := by rw [noL]
@[simp] theorem noL_lst : noL (.lst xs) = false := by rw [noL]
@[simp] theorem noL_dct {kvs : List (Key × Dat)} : noL (.dct kvs) = false := by rw [noL]
@[simp] theorem noLs_nil : noLs [] = true := by rw [noLs]
@[simp] theorem noLs_co : noLs (d :: xs) = (noL d && noLs xs) := by rw [noLs]
@[simp] theorem after_non : after js ρ .non = ρ := if_pos noL_non
@[simp] theorem after_bl {z : Bool} : after js ρ (.bl z) = ρ := if_pos noL_bl
@[simp] theorem after_int {z : Int} : after js ρ (.int z) = ρ := if_pos noL_int
@[simp] theorem after_str {z : Str} : after js ρ (.str z) = ρ := if_pos noL_str
theorem after_no (h : noL d = true) : after js ρ d = ρ := if_pos h
@[simp] theorem eqD_str {x y : Str} : eqD (.str x) (.str y) = .ok (.bl (decide (x = y))) := Eq.trans rfl rfl
@[simp] theorem neD_str {x y : Str} : neD (.str x) (.str y) = .ok (.bl (!decide (x = y))) := Eq.trans rfl rfl
@[simp] theorem isND_eq : isND d = .ok (.bl (isNon d)) := by cases d <;> rfl
@[simp] theorem notND_eq : notND d = .ok (.bl (!isNon d)) := by cases d <;> rfl
@[simp] theorem isNon_non : isNon .non = true := Eq.trans rfl rfl
@[simp] theorem isNon_str {s : Str} : isNon (.str s) = false := Eq.trans rfl rfl
@[simp] theorem isNon_int {z : Int} : isNon (.int z) = false := Eq.trans rfl rfl
@[simp] theorem isNon_bl {z : Bool} : isNon (.bl z) = false := Eq.trans rfl rfl
@[simp] theorem isNon_lst : isNon (.lst xs) = false := Eq.trans rfl rfl
@[simp] theorem isNon_tup : isNon (.tup xs) = false := Eq.trans rfl rfl
@[simp] theorem lcD_nil {p : Pat} {t : Env → Res Bool} {f : Env → Res Dat} {ρ : Env} : lcD p t f ρ [] = .ok [] := Eq.trans rfl rfl
theorem lcD_cons {p : Pat} {t : Env → Res Bool} {f : Env → Res Dat} {ρ : Env} : lcD p t f ρ (d :: r) = match bindU p d with
    | none => .stuck
    | some us => (nx (t (setE ρ us))).bind fun b => if b = true then (nx (f (setE ρ us))).bind fun y => (lcD p t f ρ r).bind fun ys => .ok (y :: ys) else lcD p t f ρ r := Eq.trans rfl rfl
/-- a comprehension, item by item -/
theorem lcD_gen {p : Pat} {t : Env → Res Bool} {f : Env → Res Dat} {ρ : Env} {α : Type} {x : α → Dat} {y : α → Dat} {tb : α → Bool} : ∀ l : List α, (∀ a ∈ l, ∃ us, bindU p (x a) = some us ∧ t (setE ρ us) = .ok (tb a) ∧ (tb a = true → f (setE ρ us) = .ok (y a))) → lcD p t f ρ (l.map x) = .ok ((l.filter tb).map y)
  | [], _ => rfl
  | a :: l, h => by
    obtain ⟨us, h1, h2, h3⟩ := h a List.mem_cons_self
    have ih := lcD_gen (p := p) (t := t) (f := f) (ρ := ρ) (x := x) (y := y) (tb := tb) l fun b hb => h b (List.mem_cons_of_mem _ hb)
    rw [List.map_cons, lcD_cons, h1]
    show (nx (t (setE ρ us))).bind _ = _
    rw [h2]
    show (if tb a = true then _ else _) = _
    cases e : tb a with
    | false => rw [if_neg (by decide), ih, List.filter_cons_of_neg (by simp [e])]
    | true =>
      rw [if_pos rfl, h3 e, ih, List.filter_cons_of_pos (by simp [e])]
      rfl
theorem lcD_every {p : Pat} {f : Env → Res Dat} {ρ : Env} {α : Type} {x : α → Dat} {y : α → Dat} (l : List α) (h : ∀ a ∈ l, ∃ us, bindU p (x a) = some us ∧ f (setE ρ us) = .ok (y a)) : lcD p bYes f ρ (l.map x) = .ok (l.map y) := by
  have := lcD_gen (p := p) (t := bYes) (f := f) (ρ := ρ) (x := x) (y := y) (tb := fun _ => true) l fun a ha => let ⟨us, h1, h2⟩ := h a ha; ⟨us, h1, rfl, fun _ => h2⟩
  rw [this, List.filter_eq_self.mpr fun _ _ => rfl]
theorem boolsD_map : ∀ bs : List Bool, boolsD (bs.map Dat.bl) = some bs
  | [] => rfl
  | b :: bs => by show (boolsD (bs.map Dat.bl)).map (b :: ·) = _; rw [boolsD_map bs]; rfl
theorem allD_map (bs : List Bool) : allD [.lst (bs.map Dat.bl)] = .ok (.bl (bs.all id)) := by
  show (match boolsD (bs.map Dat.bl) with | some bs => Res.ok (Dat.bl (bs.all id)) | none => .stuck) = _
  rw [boolsD_map]
end
/-! ### plain data -/
mutual
/-- plain: nothing but None, truths, ints, texts, lists, tuples -/
def pl : Dat → Bool
  | .non => true
  | .bl _ => true
  | .int _ => true
  | .str s => decide (s.length ≤ 1000) && PyData.strOk s
  | .lst xs => pls xs
  | .tup xs => pls xs
  | _ => false
def pls : List Dat → Bool
  | [] => true
  | d :: ds => pl d && pls ds
end
mutual
def dep : Dat → Nat
  | .lst xs => deps xs + 1
  | .tup xs => deps xs + 1
  | _ => 0
def deps : List Dat → Nat
  | [] => 0
  | d :: ds => max (dep d) (deps ds)
end
mutual
theorem pl_py : ∀ d : Dat, pl d = true → ∃ x, toPy d = some x ∧ x.canLay0 = true ∧ x.depth = dep d
  | .non, _ => ⟨_, by rw [toPy], by rw [PyData.canLay0], by rw [PyData.depth, dep]; all_goals (intros; simp_all)⟩
  | .bl b, _ => ⟨_, by rw [toPy], by rw [PyData.canLay0], by rw [PyData.depth, dep]; all_goals (intros; simp_all)⟩
  | .int i, _ => ⟨_, by rw [toPy], by rw [PyData.canLay0], by rw [PyData.depth, dep]; all_goals (intros; simp_all)⟩
  | .str s, h => by
    rw [pl, Bool.and_eq_true] at h
    exact ⟨_, by rw [toPy], by rw [PyData.canLay0]; exact h.2, by rw [PyData.depth, dep]; all_goals (intros; simp_all)⟩
  | .lst xs, h => by
    rw [pl] at h
    obtain ⟨ys, h1, h2, h3⟩ := pls_py xs h
    exact ⟨.list ys, by rw [toPy, h1]; rfl, by rw [PyData.canLay0]; exact h2, by rw [PyData.depth, dep, h3]⟩
  | .tup xs, h => by
    rw [pl] at h
    obtain ⟨ys, h1, h2, h3⟩ := pls_py xs h
    exact ⟨.tuple ys, by rw [toPy, h1]; rfl, by rw [PyData.canLay0]; exact h2, by rw [PyData.depth, dep, h3]⟩
  | .rls _, h => by simp [pl] at h
  | .dct _, h => by simp [pl] at h
  | .ins _ _, h => by simp [pl] at h
  | .ty _, h => by simp [pl] at h
  | .opq _, h => by simp [pl] at h
theorem pls_py : ∀ ds : List Dat, pls ds = true → ∃ xs, toPys ds = some xs ∧ PyData.canLayAll0 xs = true ∧ PyData.depthAll xs = deps ds
  | [], _ => ⟨[], by rw [toPys], by rw [PyData.canLayAll0], by rw [PyData.depthAll, deps]⟩
  | d :: ds, h => by
    rw [pls, Bool.and_eq_true] at h
    obtain ⟨x, h1, h2, h3⟩ := pl_py d h.1
    obtain ⟨xs, k1, k2, k3⟩ := pls_py ds h.2
    exact ⟨x :: xs, by rw [toPys, h1, k1], by rw [PyData.canLayAll0, h2, k2]; rfl, by rw [PyData.depthAll, deps, h3, k3]⟩
end
theorem pl_shaped {d : Dat} (h : pl d = true) (hd : dep d ≤ 64) : ∃ x, toPy d = some x ∧ SeqAt.shaped x = true := by
  obtain ⟨x, h1, h2, h3⟩ := pl_py d h
  exact ⟨x, h1, by unfold SeqAt.shaped; rw [h2, h3]; simp [hd]⟩
theorem pl_same {d : Dat} (h : pl d = true) (hd : dep d ≤ 64) : sameD d = true := by
  obtain ⟨x, h1, h2⟩ := pl_shaped h hd
  unfold sameD
  rw [h1]
  exact h2
theorem pls_mem {ds : List Dat} : pls ds = true ↔ ∀ d ∈ ds, pl d = true := by
  induction ds with
  | nil => simp [pls]
  | cons d ds ih => rw [pls, Bool.and_eq_true, ih]; simp
theorem deps_le {ds : List Dat} {n : Nat} : deps ds ≤ n ↔ ∀ d ∈ ds, dep d ≤ n := by
  induction ds with
  | nil => simp [deps]
  | cons d ds ih => rw [deps, Nat.max_le, ih]; simp
/-- a plain thing and an empty tuple or list -/
theorem eq_tup0 {xs : List Dat} (h : pl (.tup xs) = true) (hd : dep (.tup xs) ≤ 64) : eqD (.tup xs) (.tup []) = .ok (.bl xs.isEmpty) := by
  obtain ⟨x, h1, h2⟩ := pl_shaped h hd
  unfold eqD eqB
  show (match eqPy (.tup xs) (.tup []) with | some c => Res.ok (Dat.bl c) | none => .stuck) = _
  unfold eqPy
  have e0 : toPy (.tup []) = some (.tuple []) := by simp [toPy, toPys]
  rw [h1, e0]
  simp only [h2, Bool.true_and]
  rw [if_pos (by decide)]
  rw [toPy] at h1
  cases e : toPys xs with
  | none => rw [e] at h1; cases h1
  | some ys =>
    rw [e] at h1
    cases h1
    cases xs with
    | nil => rw [toPys] at e; cases e; simp [PyData.eqv, PyData.eqvAll]
    | cons z zs =>
      cases ys with
      | nil => rw [toPys] at e; split at e <;> cases e
      | cons y ys => simp [PyData.eqv, PyData.eqvAll]
theorem toPys_strs : ∀ ys : List Str, toPys (ys.map Dat.str) = some (ys.map PyData.str)
  | [] => by simp [toPys]
  | y :: ys => by rw [List.map_cons, toPys, toPys_strs ys]; simp [toPy]
theorem shaped_strs {ys : List Str} (h : ∀ y ∈ ys, PyData.strOk y = true) : SeqAt.shaped (.list (ys.map PyData.str)) = true := by
  have h1 : PyData.canLayAll0 (ys.map PyData.str) = true := by
    induction ys with
    | nil => rfl
    | cons y ys ih => rw [List.map_cons, PyData.canLayAll0, ih fun z hz => h z (List.mem_cons_of_mem _ hz), PyData.canLay0, h y List.mem_cons_self]; rfl
  have h2 : PyData.depthAll (ys.map PyData.str) = 0 := by
    clear h h1
    induction ys with
    | nil => rfl
    | cons y ys ih => rw [List.map_cons, PyData.depthAll, ih]; simp [PyData.depth]
  unfold SeqAt.shaped
  rw [PyData.canLay0, h1, PyData.depth, h2]
  rfl
theorem inB_strs {x : Str} {ys : List Str} (hx : PyData.strOk x = true) (h : ∀ y ∈ ys, PyData.strOk y = true) : inB (.str x) (.lst (ys.map Dat.str)) = some (decide (x ∈ ys)) := by
  show inL (.str x) (ys.map Dat.str) = _
  unfold inL
  have e1 : toPy (.str x) = some (.str x) := by rw [toPy]
  have e2 : SeqAt.shaped (.str x) = true := by unfold SeqAt.shaped; rw [PyData.canLay0, hx]; simp [PyData.depth]
  rw [e1, toPys_strs]
  simp only [e2, shaped_strs h, Bool.and_self, if_true]
  congr 1
  rw [Bool.eq_iff_iff, List.any_eq_true, decide_eq_true_eq]
  constructor
  · rintro ⟨z, hz, e⟩
    obtain ⟨y, hy, rfl⟩ := List.mem_map.mp hz
    have : y = x := by simpa [PyData.eqv] using e
    exact this ▸ hy
  · intro hx
    exact ⟨.str x, List.mem_map.mpr ⟨x, hx, rfl⟩, by simp [PyData.eqv]⟩
theorem inD_strs {x : Str} {ys : List Str} (hx : PyData.strOk x = true) (h : ∀ y ∈ ys, PyData.strOk y = true) : inD (.str x) (.lst (ys.map Dat.str)) = .ok (.bl (decide (x ∈ ys))) := by
  unfold inD; rw [inB_strs hx h]
theorem notInD_strs {x : Str} {ys : List Str} (hx : PyData.strOk x = true) (h : ∀ y ∈ ys, PyData.strOk y = true) : notInD (.str x) (.lst (ys.map Dat.str)) = .ok (.bl (!decide (x ∈ ys))) := by
  unfold notInD; rw [inB_strs hx h]
end VL

/-! VL19: instances: fields, methods, making. -/
namespace VL
open PySem PySem.Spec PyProof.Rows L2
section
variable {X : Cx} {CX : CXT} {k : Nat} {f C : Addr} {fd : FuncData} {ps : List Str} {sp : Sp} {E : St → XK} {x m : Str} {p pos apos : Pos} {e o : Expr} {es : List Expr} {ta : TE} {t : TA}
/-- o.m(..), what is raised passes -/
def tMethV (C : Addr) (m : Str) (sp : Sp) (E : St → XK) (ta : TE) (t : TA) : TE := fun σ H Q => ta σ H fun x H1 => ∃ a dx fs, x = .ref a ∧ H1 a = some (.ins C dx fs) ∧ fs.lookup m = none ∧ t σ H1 fun vs H2 => sp (x :: vs) H2 Q (E σ)
theorem pe_methV {pl : Sem Bool} (he : PE X o ta) (c : Cls X.K C) (hm : Meth X.K C m f) (F : FnOk X.prog X.w X.K X.mg X.base CX k f fd ps sp) (hr : Room k X.A) (hb : Binds X.K fd ps []) (hx : ∀ σ, PassesAt CX X σ (E σ)) (ha : PA X (e :: es) t)
    (h1 : starEach (e :: es) X.env = (false, eval e X.env) :: starEach es X.env) (h2 : (backTo pos (starEach es X.env)).any (·.1) = false)
    (ht : eval (.Call (.Attribute o m apos) (e :: es) [] pos) X.env = (do let ov ← eval o X.env; standAt apos.atName; let (f, first) ← holding [ov] (getMethod ov m pl); callWith pos f first (backTo pos (starEach (e :: es) X.env)) (backToKw pos (keywordEach [] X.env)))) :
    PE X (.Call (.Attribute o m apos) (e :: es) [] pos) (tMethV C m sp E ta t) :=
  ⟨fun pins s σ H Q I h => PySem.W.methodCall_KW (pl := pl) (thn (he.run pins s σ H _ I h) fun u s1 ⟨x, H1, I1, rx, a, dx, fs, ex, ea, l, q⟩ => by
    subst ex
    cases rx
    exact getmeth_ok I1 ea c hm l (PySem.W.callWith_K (first := [.ref a]) (h₀ := X.base) I.ok.mod.kin hm.kp (thn (ha.run pos pins s1 σ H1 _ I1 q) fun us s2 ⟨vs, H2, I2, r, q2⟩ => ⟨I2.kIn, run_fnS (us := .ref a :: us) (vs := .ref a :: vs) F hr hb (hx σ) I2 (.cons rfl r) q2⟩) h1 h2)) ht⟩
theorem pe_methV0 {pl : Sem Bool} (he : PE X o ta) (c : Cls X.K C) (hm : Meth X.K C m f) (F : FnOk X.prog X.w X.K X.mg X.base CX k f fd ps sp) (hr : Room k X.A) (hb : Binds X.K fd ps []) (hx : ∀ σ, PassesAt CX X σ (E σ))
    (ht : eval (.Call (.Attribute o m apos) [] [] pos) X.env = (do let ov ← eval o X.env; standAt apos.atName; let (f, first) ← holding [ov] (getMethod ov m pl); callWith pos f first (backTo pos (starEach [] X.env)) (backToKw pos (keywordEach [] X.env)))) :
    PE X (.Call (.Attribute o m apos) [] [] pos) (tMethV C m sp E ta tNil) :=
  ⟨fun pins s σ H Q I h => PySem.W.methodCall_KW (pl := pl) (thn (he.run pins s σ H _ I h) fun u s1 ⟨x, H1, I1, rx, a, dx, fs, ex, ea, l, q⟩ => by
    subst ex
    cases rx
    exact getmeth_ok I1 ea c hm l (PySem.W.callWith_K0 (first := [.ref a]) I1.kIn hm.kp (run_fnS (us := [.ref a]) (vs := [.ref a]) F hr hb (hx σ) I1 (.cons rfl .nil) q))) ht⟩
/-- C(..), what __init__ raises passes -/
def tMakeV (C : Addr) (sp : Sp) (E : St → XK) (t : TA) : TE := fun σ H Q => t σ H fun vs H1 => ∀ x dx, H1 x = none → H1 dx = none → dx ≠ x → sp (.ref x :: vs) (upd (upd H1 dx (.own x)) x (.ins C dx [])) (fun v H2 => v = .non ∧ Q (.ref x) H2) (E σ)
theorem run_makeV {pins : List (Addr × Obj)} {σ : St} {H : Hp} {s : Shared} {Q : VK} {us : List Value} {vs : List V} (M : Mk X.K C f) (F : FnOk X.prog X.w X.K X.mg X.base CX k f fd ps sp) (hr : Room (k + 1) X.A) (hb : Binds X.K fd ps []) (hx : PassesAt CX X σ (E σ)) (I : Inv X pins σ H s) (r : Vals vs us)
    (h : ∀ x dx, H x = none → H dx = none → dx ≠ x → sp (.ref x :: vs) (upd (upd H dx (.own x)) x (.ins C dx [])) (fun v H2 => v = .non ∧ Q (.ref x) H2) (E σ)) : wpAny (model X.prog X.w) X.A (call (.ref C) us) (EP X pins σ Q) X.xe s := by
  have n := s.heap.objs.size
  have hq := h (s.heap.objs.size + 1) s.heap.objs.size (I.hok.fresh (Nat.le_succ _)) (I.hok.fresh (Nat.le_refl _)) (Nat.ne_of_lt (Nat.lt_succ_self _))
  have J := Inv.made (C := C) I
  have r2 : Vals (V.ref (s.heap.objs.size + 1) :: vs) (Value.ref (s.heap.objs.size + 1) :: us) := .cons rfl r
  have hl : (Value.ref (s.heap.objs.size + 1) :: us).length = ps.length := by rw [← r2.length]; exact F.len _ _ _ _ hq
  have bb := hb _ (Value.ref (s.heap.objs.size + 1) :: us) J.kIn (by rw [List.append_nil]; exact hl)
  rw [List.append_nil] at bb
  refine wpAny_call (make_map (f := f) I.kIn M.makes M.init (beq_iff_eq.mp M.fn) (codeAny_mono (F.run _ X.stack _ _ ⟨Value.ref (s.heap.objs.size + 1) :: us, []⟩ _ _ _ (E σ) (hr.make C us []) (J.env0.make C us []) bb r2 hq) fun z s' hz => ?_))
  cases z with
  | error e => exact hx pins _ _ e s' J hz
  | ok fl =>
    cases fl with
    | ret u =>
      obtain ⟨v, H', I3, rv, ev, q3⟩ := J.after hz
      subst ev
      exact ⟨rv, V.ref (s.heap.objs.size + 1), H', I3, rfl, q3⟩
    | next => exact hz.elim
    | brk => exact hz.elim
    | cont => exact hz.elim
theorem pe_makeV (M : Mk X.K C f) (F : FnOk X.prog X.w X.K X.mg X.base CX k f fd ps sp) (hr : Room (k + 1) X.A) (hg : Gl X x) (hm : X.mg x = some (.ref C)) (hb : Binds X.K fd ps []) (hx : ∀ σ, PassesAt CX X σ (E σ)) (ha : PA X (e :: es) t)
    (hdb : (x == ("__debug__" : Str)) = false) (he : starEach (e :: es) X.env = (false, eval e X.env) :: starEach es X.env) (hpl : (backTo pos (starEach es X.env)).any (·.1) = false) : PE X (.Call (.Name x p) (e :: es) [] pos) (tMakeV C sp E t) :=
  ⟨fun pins s σ H Q I h => wpAny_Call_Name_kw (ld_glob I hg hm (PySem.W.callWith_K (h₀ := X.base) I.ok.mod.kin M.kp (thn (ha.run pos pins s σ H _ I h) fun us s1 ⟨vs, H1, I1, r, q⟩ => ⟨I1.kIn, run_makeV M F hr hb (hx σ) I1 r q⟩) he hpl) hdb)⟩
end
/-! ### upon plain data -/
theorem look_fld {K : PySem.W.Frag} {g : Glob} {F : Hp} (m : Str) : ∀ {fs : List (Str × V)} {ds : List (Str × Dat)}, fs.map Prod.fst = ds.map Prod.fst → Reps K g F (fs.map Prod.snd) (ds.map Prod.snd) →
    (fs.lookup m = none ∧ ds.lookup m = none) ∨ ∃ v d, fs.lookup m = some v ∧ ds.lookup m = some d ∧ Rep K g F v d
  | [], [], _, _ => .inl ⟨rfl, rfl⟩
  | [], _ :: _, h, _ => by simp at h
  | _ :: _, [], h, _ => by simp at h
  | (k, v) :: r, (k', d) :: s, h, q => by
    simp only [List.map_cons, List.cons.injEq] at h
    obtain ⟨rfl, h2⟩ := h
    cases q with
    | cons a b =>
      rw [List.lookup_cons, List.lookup_cons]
      cases e : m == k with
      | true => exact .inr ⟨v, d, rfl, rfl, a⟩
      | false => exact look_fld m h2 b
def fldD (C f : Str) : Dat → Res Dat
  | .ins C' fs => if C' = C then match fs.lookup f with
      | some d => .ok d
      | none => .stuck
    else .stuck
  | _ => .stuck
def isIns (C m : Str) : Dat → Bool
  | .ins C' fs => decide (C' = C) && (fs.lookup m).isNone
  | _ => false
def eMet (C m : Str) (mir : List Dat → Res Dat) (f : Env → Res Dat) (as : Env → Res (List Dat)) : Env → Res Dat := fun ρ => (f ρ).bind fun o => if isIns C m o = true then (as ρ).bind fun ds => mir (o :: ds) else .stuck
structure VMth (P : Program) (w : World) (K : PySem.W.Frag) (mg : Str → Option Value) (base : Heap) (g : Glob) (k : Nat) (C m : Str) (mir : List Dat → Res Dat) : Prop where
  ex : ∃ f fd ps, Cls K (g.cls C) ∧ Meth K (g.cls C) m f ∧ Binds K fd ps [] ∧ FnOk P w K mg base (L2N.CX P w) k f fd ps (spV K g mir)
section
variable {X : Cx} {g : Glob} {W : WX}
theorem ve_fld {C f : Str} {e : Expr} {pos : Pos} {h : Env → Res Dat} (hc : Cls X.K (g.cls C)) (hn : NoAttr X.K (g.cls C) f) (he : VE X g W e h) (hb : attributeBase e f X.env (eval e X.env) = eval e X.env := by rfl) : VE X g W (.Attribute e f pos) (eUn (fldD C f) h) :=
  PE.imp (pe_fld he hb) fun σ H Q ⟨ρ, F, s, p⟩ => ⟨ρ, F, s, (PostG.bind s p).imp fun x H1 ⟨F1, a, s1, ra, x1, p1⟩ => by
    cases ra with
    | @ins aa dx C' fs ds ha hk rs =>
      dsimp only [fldD] at p1
      by_cases q : C' = C
      · subst q
        simp only [if_true] at p1
        rcases look_fld f hk rs with ⟨h1, h2⟩ | ⟨v, d, h1, h2, h3⟩
        · rw [h2] at p1; exact p1.elim
        · rw [h2] at p1
          exact ⟨aa, _, dx, fs, v, rfl, s1.sub _ _ ha, hc, hn, h1, PostG.here s1.sub p1 h3⟩
      · simp only [if_neg q] at p1; exact p1.elim
    | _ => exact p1.elim⟩
theorem is_ins {C m : Str} {K : PySem.W.Frag} {F H : Hp} {x : V} {a : Dat} (s : Same F H) (ra : Rep K g F x a) (h : isIns C m a = true) : ∃ aa dx fs, x = .ref aa ∧ H aa = some (.ins (g.cls C) dx fs) ∧ fs.lookup m = none := by
  cases ra with
  | @ins aa dx C' fs ds ha hk rs =>
    unfold isIns at h
    simp only [Bool.and_eq_true, decide_eq_true_eq, Option.isNone_iff_eq_none] at h
    obtain ⟨rfl, h2⟩ := h
    rcases look_fld m hk rs with ⟨h1, _⟩ | ⟨v, d, _, h3, _⟩
    · exact ⟨aa, dx, fs, rfl, s _ _ ha, h1⟩
    · rw [h3] at h2; cases h2
  | _ => simp [isIns] at h
theorem ve_meth {pl : Sem Bool} {k j : Nat} {C m : Str} {o e : Expr} {es : List Expr} {apos pos : Pos} {mir : List Dat → Res Dat} {f : Env → Res Dat} {as : Env → Res (List Dat)} (M : VMth X.prog X.w X.K X.mg X.base g k C m mir) (hr : Room j X.A) (hk : k ≤ j) (tk : L2N.Takes X W) (ho : VE X g W o f) (ha : VA X g W (e :: es) as)
    (h1 : starEach (e :: es) X.env = (false, eval e X.env) :: starEach es X.env := by rfl) (h2 : (backTo pos (starEach es X.env)).any (·.1) = false := by rfl)
    (ht : eval (.Call (.Attribute o m apos) (e :: es) [] pos) X.env = (do let ov ← eval o X.env; standAt apos.atName; let (f, first) ← holding [ov] (getMethod ov m pl); callWith pos f first (backTo pos (starEach (e :: es) X.env)) (backToKw pos (keywordEach [] X.env))) := by rfl) :
    VE X g W (.Call (.Attribute o m apos) (e :: es) [] pos) (eMet C m mir f as) := by
  obtain ⟨fa, fd, ps, c, hm, hb, F⟩ := M.ex
  refine PE.imp (pe_methV (pl := pl) ho c hm F (hr.mono hk) hb (fun σ => L2N.passAt tk σ) ha h1 h2 ht) fun σ H Q ⟨ρ, F, s, p⟩ => ⟨ρ, F, s, (PostG.bind s p).imp fun x H1 ⟨F1, a, s1, ra, x1, p1⟩ => ?_⟩
  by_cases q : isIns C m a = true
  · rw [if_pos q] at p1
    obtain ⟨aa, dx, fs, rfl, ea, el⟩ := is_ins s1.sub ra q
    refine ⟨aa, dx, fs, rfl, ea, el, ρ, F1, s1, (PostG.bind s1 p1).imp fun vs H2 ⟨F2, ds, s2, rs, x2, p2⟩ => ?_⟩
    refine ⟨F2, a :: ds, s2.sub, s2.tabs, s2.nt, .cons (ra.mono (x2.le s1.sub)) rs, ?_⟩
    cases e2 : mir (a :: ds) with
    | stuck => rw [e2] at p2; exact p2.elim
    | exc c => rw [e2] at p2; exact p2
    | ok d => rw [e2] at p2; exact p2
  · rw [if_neg q] at p1; exact p1.elim
theorem ve_meth0 {pl : Sem Bool} {k j : Nat} {C m : Str} {o : Expr} {apos pos : Pos} {mir : List Dat → Res Dat} {f : Env → Res Dat} (M : VMth X.prog X.w X.K X.mg X.base g k C m mir) (hr : Room j X.A) (hk : k ≤ j) (tk : L2N.Takes X W) (ho : VE X g W o f)
    (ht : eval (.Call (.Attribute o m apos) [] [] pos) X.env = (do let ov ← eval o X.env; standAt apos.atName; let (f, first) ← holding [ov] (getMethod ov m pl); callWith pos f first (backTo pos (starEach [] X.env)) (backToKw pos (keywordEach [] X.env))) := by rfl) :
    VE X g W (.Call (.Attribute o m apos) [] [] pos) (eMet C m mir f aNil) := by
  obtain ⟨fa, fd, ps, c, hm, hb, F⟩ := M.ex
  refine PE.imp (pe_methV0 (pl := pl) ho c hm F (hr.mono hk) hb (fun σ => L2N.passAt tk σ) ht) fun σ H Q ⟨ρ, F, s, p⟩ => ⟨ρ, F, s, (PostG.bind s p).imp fun x H1 ⟨F1, a, s1, ra, x1, p1⟩ => ?_⟩
  by_cases q : isIns C m a = true
  · rw [if_pos q] at p1
    obtain ⟨aa, dx, fs, rfl, ea, el⟩ := is_ins s1.sub ra q
    refine ⟨aa, dx, fs, rfl, ea, el, ?_⟩
    have p2 : PostG g (Rep X.K g) W σ F1 H1 (mir [a]) Q := p1
    refine ⟨F1, [a], s1.sub, s1.tabs, s1.nt, .cons ra .nil, ?_⟩
    cases e2 : mir [a] with
    | stuck => rw [e2] at p2; exact p2.elim
    | exc c => rw [e2] at p2; exact p2
    | ok d => rw [e2] at p2; exact p2
  · rw [if_neg q] at p1; exact p1.elim
end
/-! ### making -/
/-- an __init__ that computes the fields m of its arguments -/
def spI (K : PySem.W.Frag) (g : Glob) (C : Str) (m : List Dat → Res (List (Str × Dat))) : Sp := fun vs H Q E => ∃ a dx H0 F0 vs' ds, vs = .ref a :: vs' ∧ H = upd (upd H0 dx (.own a)) a (.ins (g.cls C) dx []) ∧ H0 a = none ∧ H0 dx = none ∧ dx ≠ a ∧
  Same F0 H0 ∧ LamX.Tabs g.tabs H0 ∧ (∀ a ps, F0 a ≠ some (.tbl ps)) ∧ Reps K g F0 vs' ds ∧ match m ds with
    | .ok fl => ∀ H' F', Ext g F0 H0 F' H' → Rep K g F' (.ref a) (.ins C fl) → Q .non H'
    | .exc c => ∀ H' F', Ext g F0 H0 F' H' → E (.ref (g.cls c)) none H'
    | .stuck => False
structure VMk (P : Program) (w : World) (K : PySem.W.Frag) (mg : Str → Option Value) (base : Heap) (g : Glob) (k : Nat) (C : Str) (m : List Dat → Res (List (Str × Dat))) : Prop where
  ex : ∃ f fd ps, Mk K (g.cls C) f ∧ mg C = some (.ref (g.cls C)) ∧ Binds K fd ps [] ∧ FnOk P w K mg base (L2N.CX P w) k f fd ps (spI K g C m)
def eMake (C : Str) (m : List Dat → Res (List (Str × Dat))) (as : Env → Res (List Dat)) : Env → Res Dat := fun ρ => (as ρ).bind fun ds => (m ds).bind fun fl => .ok (.ins C fl)
section
variable {X : Cx} {g : Glob} {W : WX}
theorem ve_make {k j : Nat} {C : Str} {e : Expr} {es : List Expr} {p pos : Pos} {m : List Dat → Res (List (Str × Dat))} {as : Env → Res (List Dat)} (M : VMk X.prog X.w X.K X.mg X.base g k C m) (hr : Room j X.A) (hk : k + 1 ≤ j) (tk : L2N.Takes X W) (ha : VA X g W (e :: es) as) (hg : Gl X C := by rfl)
    (hdb : (C == ("__debug__" : Str)) = false := by decide) (he : starEach (e :: es) X.env = (false, eval e X.env) :: starEach es X.env := by rfl) (hpl : (backTo pos (starEach es X.env)).any (·.1) = false := by rfl) : VE X g W (.Call (.Name C p) (e :: es) [] pos) (eMake C m as) := by
  obtain ⟨fa, fd, ps, M1, hm, hb, F⟩ := M.ex
  refine PE.imp (pe_makeV M1 F (hr.mono hk) hg hm hb (fun σ => L2N.passAt tk σ) ha hdb he hpl) fun σ H Q ⟨ρ, F, s, p⟩ => ⟨ρ, F, s, (PostG.bind s p).imp fun vs H1 ⟨F1, ds, s1, rs, x1, p1⟩ x dx nx ndx ne => ?_⟩
  refine ⟨x, dx, H1, F1, vs, ds, rfl, rfl, nx, ndx, ne, s1.sub, s1.tabs, s1.nt, rs, ?_⟩
  cases e2 : m ds with
  | stuck => rw [e2] at p1; exact p1.elim
  | exc c => rw [e2] at p1; exact p1
  | ok fl =>
    rw [e2] at p1
    exact fun H' F' xx rr => ⟨rfl, p1 _ _ _ xx rr⟩
end
end VL

/-! VL20: an __init__ that sets plan, seed and a dict of places. -/
namespace VL
open PySem PySem.Spec PyProof.Rows L2
/-- no table, no code object -/
def Plain (o : HO) : Prop := (∀ ps, o ≠ .tbl ps) ∧ ∀ c q, o ≠ LamX.CodeO c q
theorem plain_ins {C dx : Addr} {fs : List (Str × V)} : Plain (.ins C dx fs) := ⟨fun _ z => (by cases z), fun _ _ z => (by unfold LamX.CodeO at z; cases z)⟩
theorem plain_dk {kvs : List (Key × V)} : Plain (.dK kvs) := ⟨fun _ z => (by cases z), fun _ _ z => (by unfold LamX.CodeO at z; cases z)⟩
theorem plain_frz {o : Obj} {kvs : List (Key × V)} : Plain (.frz o (.dK kvs)) := ⟨fun _ z => (by cases z), fun _ _ z => (by unfold LamX.CodeO at z; cases z)⟩
theorem tabs_put {T : List (Addr × Str)} {H : Hp} {p : Addr} {o o' : HO} (t : LamX.Tabs T H) (h : H p = some o) (hp : Plain o) : LamX.Tabs T (upd H p o') := by
  intro q hq
  obtain ⟨ps, h1, h2, h3⟩ := t q hq
  refine ⟨ps, ?_, h2, fun pos cv hc => ?_⟩
  · rw [upd_ne (ne_of h1 h fun z => hp.1 ps z.symm)]; exact h1
  · obtain ⟨c, e1, e2⟩ := h3 pos cv hc
    exact ⟨c, e1, by rw [upd_ne (ne_of e2 h fun z => hp.2 _ _ z.symm)]; exact e2⟩
/-- what is not frozen, new since (F, H), is changed -/
theorem Ext.putO {g : Glob} {F H F' H' : Hp} {p : Addr} {o o' : HO} (x : Ext g F H F' H') (h0 : H p = none) (hF : F' p = none) (h : H' p = some o) (hp : Plain o) : Ext g F H F' (upd H' p o') where
  keep := fun a u e n => by rw [upd_ne (ne_of_none e h0)]; exact x.keep a u e n
  dom := fun a e => by
    by_cases q : a = p
    · subst q; rw [upd_same]; simp
    · rw [upd_ne q]; exact x.dom a e
  tabs := fun t => tabs_put (x.tabs t) h hp
  sub := fun a u e => by
    by_cases q : a = p
    · subst q; rw [hF] at e; cases e
    · rw [upd_ne q]; exact x.sub a u e
  old := x.old
  nt := x.nt
/-- what is not frozen, new since (F, H), is frozen as it is -/
theorem Ext.frz {g : Glob} {F H F' H' : Hp} {p : Addr} {o : HO} (x : Ext g F H F' H') (h0 : H p = none) (h : H' p = some o) (hp : Plain o) : Ext g F H (upd F' p o) H' where
  keep := x.keep
  dom := x.dom
  tabs := x.tabs
  sub := fun a u e => by
    by_cases q : a = p
    · subst q; rw [upd_same] at e; rw [h]; exact e
    · rw [upd_ne q] at e; exact x.sub a u e
  old := fun a e => by rw [upd_ne fun q => by subst q; exact e h0]; exact x.old a e
  nt := fun a ps e => by
    by_cases q : a = p
    · subst q; rw [upd_same] at e; exact absurd (Option.some.inj e) (hp.1 ps)
    · rw [upd_ne q] at e; exact x.nt a ps e
def putsD (p : Pat) (fk fv : Env → Res Dat) : List Dat → Env → List (Key × Dat) → Res (List (Key × Dat))
  | [], _, kvs => .ok kvs
  | d :: r, ρ, kvs => match bindU p d with
    | none => .stuck
    | some us => (nx (fv (setE ρ us))).bind fun v => (nx (fk (setE ρ us))).bind fun k => match keyOf k with
      | some k => if kvs.length < big then putsD p fk fv r (setE ρ us) (putD kvs k v) else .stuck
      | none => .stuck
def startI (l : Nat) (ds : List Dat) : Env := none :: (ds.map some ++ List.replicate (l - 1 - ds.length) none)
def initW (n l : Nat) (f1 f2 f3 f4 : Env → Res Dat) (p : Pat) (fk fv : Env → Res Dat) : List Dat → Res (List (Str × Dat)) := fun ds =>
  if ds.length = n then (f1 (startI l ds)).bind fun _ => (f2 (startI l ds)).bind fun _ => (f3 (startI l ds)).bind fun a => (f4 (startI l ds)).bind fun b => (enumD [a]).bind fun its =>
    if its.length ≤ big then (putsD p fk fv its (startI l ds) []).bind fun kvs => .ok [("plan", a), ("seed", b), ("places", .dct kvs)] else .stuck
  else .stuck
section
variable {K : PySem.W.Frag} {g : Glob} {W : WX} {F0 H0 F H F1 H1 : Hp} {σ : St} {ρ : Env} {a dx Ca : Addr} {fs : List (Str × V)}
/-- self, on its way -/
structure IJ (K : PySem.W.Frag) (g : Glob) (F0 H0 F H : Hp) (σ : St) (ρ : Env) (a dx Ca : Addr) (fs : List (Str × V)) : Prop where
  st : Stt K g F H σ ρ
  ex : Ext g F0 H0 F H
  ha : H a = some (.ins Ca dx fs)
  na : F a = none
  n0 : H0 a = none
theorem IJ.ext (j : IJ K g F0 H0 F H σ ρ a dx Ca fs) (x : Ext g F H F1 H1) : IJ K g F0 H0 F1 H1 σ ρ a dx Ca fs :=
  ⟨j.st.ext x, j.ex.trans x, x.keep _ _ j.ha plain_ins.1, by rw [x.old a (by rw [j.ha]; simp)]; exact j.na, j.n0⟩
theorem IJ.put (j : IJ K g F0 H0 F H σ ρ a dx Ca fs) (f : Str) (v : V) : IJ K g F0 H0 F (upd H a (.ins Ca dx (putF f v fs))) σ ρ a dx Ca (putF f v fs) :=
  ⟨⟨(j.ex.putO j.n0 j.na j.ha plain_ins).sub, tabs_put j.st.tabs j.ha plain_ins, j.st.env, j.st.len, j.st.nt⟩, j.ex.putO j.n0 j.na j.ha plain_ins, upd_same, j.na, j.n0⟩
/-- what is asked behind an __init__ -/
def IPost (K : PySem.W.Frag) (g : Glob) (E : XK) (F0 H0 : Hp) (a : Addr) (C : Str) (Q : VK) : Res (List (Str × Dat)) → Prop
  | .ok fl => ∀ H' F', Ext g F0 H0 F' H' → Rep K g F' (.ref a) (.ins C fl) → Q .non H'
  | .exc c => ∀ H' F', Ext g F0 H0 F' H' → E (.ref (g.cls c)) none H'
  | .stuck => False
theorem IJ.go {E : XK} {C : Str} {Q : VK} {f : Env → Res Dat} {k : Dat → Res (List (Str × Dat))} {Qv : V → Hp → Prop} (j : IJ K g F0 H0 F H σ ρ a dx Ca fs) (hp : IPost K g E F0 H0 a C Q ((f ρ).bind k))
    (hn : ∀ d v H1 F1, IJ K g F0 H0 F1 H1 σ ρ a dx Ca fs → Ext g F H F1 H1 → Rep K g F1 v d → IPost K g E F0 H0 a C Q (k d) → Qv v H1) : tV K g (fun cls d _ H' => E cls d H') f σ H Qv := by
  refine ⟨ρ, F, j.st, ?_⟩
  cases e : f ρ with
  | stuck => rw [e] at hp; exact hp.elim
  | exc c => rw [e] at hp; exact fun H' F' x => hp H' F' (j.ex.trans x)
  | ok d => rw [e] at hp; exact fun v H1 F1 x r => hn d v H1 F1 (j.ext x) x r hp
end
section
variable {P : Program} {w : World} {K : PySem.W.Frag} {mg : Str → Option Value} {base : Heap} {g : Glob}
def tInit (K : PySem.W.Frag) (g : Glob) (W : WX) (C : Str) (f1 f2 f3 f4 : Env → Res Dat) (p : Pat) (fk fv : Env → Res Dat) : TS :=
  tSeq (tDrop (tV K g W f1)) (tSeq (tDrop (tV K g W f2)) (tSeq (sFld K (tVar 0) (tV K g W f3) "plan") (tSeq (sFld K (tVar 0) (tV K g W f4) "seed") (tSeq (sFld K (tVar 0) tDNewK "places")
    (tFor (tG K g (Iters K g) W (iArg enumD (aCons (eUn (fldD C "plan") (eVar 0)) aNil))) (gP K g p) (sDPut (tFld K (tVar 0) "places") (tV K g W fk) (tV K g W fv)))))))
theorem setE_zero : ∀ (us : List (Nat × Dat)) (ρ : Env), (∀ u ∈ us, u.1 ≠ 0) → (setE ρ us)[0]? = ρ[0]?
  | [], _, _ => rfl
  | (i, d) :: us, ρ, h => by
    show (setE (ρ.set i (some d)) us)[0]? = _
    rw [setE_zero us _ fun u hu => h u (List.mem_cons_of_mem _ hu), List.getElem?_set_ne (h (i, d) List.mem_cons_self)]
theorem setV_zero : ∀ (ws : List (Nat × V)) (σ : St), (∀ u ∈ ws, u.1 ≠ 0) → (setV σ ws)[0]? = σ[0]?
  | [], _, _ => rfl
  | (i, d) :: us, σ, h => by
    show (setV (σ.set i (some d)) us)[0]? = _
    rw [setV_zero us _ fun u hu => h u (List.mem_cons_of_mem _ hu), List.getElem?_set_ne (h (i, d) List.mem_cons_self)]

theorem nx_ok {α : Type} {r : Res α} {a : α} (h : nx r = .ok a) : r = .ok a := by cases r <;> first | exact h | cases h
theorem patIx_us {p : Pat} {d : Dat} {us : List (Nat × Dat)} (h : bindU p d = some us) {i : Nat} (hi : ∀ j ∈ patIx p, j ≠ i) : ∀ u ∈ us, u.1 ≠ i := fun u hu => hi u.1 (by rw [← bindU_ix p d us h]; exact List.mem_map.mpr ⟨u, hu, rfl⟩)
/-- the loop that fills the dict -/
theorem puts_loop {W : WX} {Q : VK} {fk fv : Env → Res Dat} {p : Pat} {F0 H0 F1 H1 : Hp} {σ : St} {ρ : Env} {a b dx Ca : Addr} {vp vs : V} {J : It} {its : List Dat} {kvs0 : List (Key × V)} {ks0 : List (Key × Dat)} (hcl : Cls K Ca) (nc : NoAttr K Ca "places") (hpat : ∀ i ∈ patIx p, i ≠ 0) (it : Iters K g F1 J its)
    (st : Stt K g F1 H1 σ ρ) (s0 : σ[0]? = some (some (.ref a))) (ex : Ext g F0 H0 F1 H1) (fa : F1 a = some (.ins Ca dx [("plan", vp), ("seed", vs), ("places", .ref b)])) (hb : H1 b = some (.dK kvs0)) (fb : F1 b = none) (b0 : H0 b = none) (rd : RD K g F1 kvs0 ks0)
    (hns : putsD p fk fv its ρ ks0 ≠ .stuck) (hne : ∀ c, putsD p fk fv its ρ ks0 ≠ .exc c)
    (fin : ∀ (kvs : List (Key × V)) (ks : List (Key × Dat)) (F' H' : Hp), putsD p fk fv its ρ ks0 = .ok ks → Same F1 F' → Ext g F0 H0 F' H' → F' a = some (.ins Ca dx [("plan", vp), ("seed", vs), ("places", .ref b)]) → H' b = some (.dK kvs) → F' b = none → RD K g F' kvs ks → Q .non H') :
    ∃ W' : Nat → Nat → St → Hp → Prop, (∃ m, W' 0 m σ H1) ∧ ∀ i m σ H, W' i m σ H → (J.stop i H ∧ Q .non H) ∨ (J.go i H ∧ ∃ N : St → Hp → Prop, (∀ σ' H', N σ' H' → ∃ m', m' < m ∧ W' (i + 1) m' σ' H') ∧
      ∀ x H', J.yld i H x H' → gP K g p x σ H' fun σ2 H2 => sDPut (tFld K (tVar 0) "places") (tV K g W fk) (tV K g W fv) { nx := N, ct := N, bk := fun _ H' => Q .non H', rt := Q } σ2 H2) := by
  refine ⟨fun i m σ H => m = its.length - i ∧ i ≤ its.length ∧ ∃ (ρ' : Env) (F : Hp) (kvs : List (Key × V)) (ks : List (Key × Dat)), Same F1 F ∧ Stt K g F H σ ρ' ∧ σ[0]? = some (some (.ref a)) ∧ Ext g F0 H0 F H ∧ F a = some (.ins Ca dx [("plan", vp), ("seed", vs), ("places", .ref b)]) ∧ H b = some (.dK kvs) ∧ F b = none ∧ RD K g F kvs ks ∧ putsD p fk fv its ρ ks0 = putsD p fk fv (its.drop i) ρ' ks, ⟨its.length, by simp, Nat.zero_le _, ρ, F1, kvs0, ks0, Same.refl _, st, s0, ex, fa, hb, fb, rd, rfl⟩, ?_⟩
  rintro i m σ2 H2 ⟨rfl, hi, ρ2, F2, kvs, ks, le2, st2, sz, ex2, fa2, hb2, fb2, rd2, eq2⟩
  obtain ⟨go, stop⟩ := it i F2 H2 le2 st2.sub
  by_cases hlt : i < its.length
  · right
    obtain ⟨d, hd⟩ : ∃ d, its[i]? = some d := ⟨its[i], by simp [hlt]⟩
    obtain ⟨g1, g2⟩ := go d hd
    have hdrop : its.drop i = d :: its.drop (i + 1) := by
      rw [List.drop_eq_getElem_cons hlt]
      congr 1
      rw [List.getElem?_eq_getElem hlt] at hd
      exact Option.some.inj hd
    rw [hdrop] at eq2
    have eq3 : putsD p fk fv (d :: its.drop (i + 1)) ρ2 ks = match bindU p d with
      | none => .stuck
      | some us => (nx (fv (setE ρ2 us))).bind fun v => (nx (fk (setE ρ2 us))).bind fun k => match keyOf k with
        | some k => if ks.length < big then putsD p fk fv (its.drop (i + 1)) (setE ρ2 us) (putD ks k v) else .stuck
        | none => .stuck := rfl
    refine ⟨g1, fun σ' H' => i + 1 ≤ its.length ∧ ∃ (ρ' : Env) (F : Hp) (kvs : List (Key × V)) (ks : List (Key × Dat)), Same F1 F ∧ Stt K g F H' σ' ρ' ∧ σ'[0]? = some (some (.ref a)) ∧ Ext g F0 H0 F H' ∧ F a = some (.ins Ca dx [("plan", vp), ("seed", vs), ("places", .ref b)]) ∧ H' b = some (.dK kvs) ∧ F b = none ∧ RD K g F kvs ks ∧ putsD p fk fv its ρ ks0 = putsD p fk fv (its.drop (i + 1)) ρ' ks, fun σ' H' hn => ⟨its.length - (i + 1), by omega, rfl, hn.1, hn.2⟩, fun x3 H3 y => ?_⟩
    obtain ⟨F3, x4, rx⟩ := g2 x3 H3 y
    rw [eq3] at eq2
    cases eb : bindU p d with
    | none => rw [eb] at eq2; exact absurd eq2 hns
    | some us =>
      rw [eb] at eq2
      dsimp only at eq2
      have st3 := st2.ext x4
      have hus := patIx_us eb hpat
      refine ⟨F3, d, us, st3.sub, rx, eb, fun ws k1 k2 => ?_⟩
      have st4 : Stt K g F3 H3 (setV σ2 ws) (setE ρ2 us) := ⟨st3.sub, st3.tabs, renv_sets st3.env st3.len k1 k2, by rw [setE_length, setV_length]; exact st3.len, st3.nt⟩
      have hws : ∀ u ∈ ws, u.1 ≠ 0 := fun u hu => by
        have : u.1 ∈ us.map Prod.fst := by rw [← k1]; exact List.mem_map.mpr ⟨u, hu, rfl⟩
        obtain ⟨z, hz, e⟩ := List.mem_map.mp this
        rw [← e]; exact hus z hz
      have sz4 : (setV σ2 ws)[0]? = some (some (.ref a)) := by rw [setV_zero ws σ2 hws]; exact sz
      cases ev : nx (fv (setE ρ2 us)) with
      | stuck => rw [ev] at eq2; exact absurd eq2 hns
      | exc c => rw [ev] at eq2; exact absurd eq2 (hne c)
      | ok dv =>
        rw [ev] at eq2
        refine ⟨setE ρ2 us, F3, st4, ?_⟩
        rw [nx_ok ev]
        intro v H5 F5 x5 rv
        have ha5 : H5 a = some (.ins Ca dx [("plan", vp), ("seed", vs), ("places", .ref b)]) := x5.sub _ _ ((x5.le st3.sub) _ _ ((x4.le st2.sub) _ _ fa2))
        refine ⟨.ref a, sz4, a, Ca, dx, _, .ref b, rfl, ha5, hcl, nc, rfl, ?_⟩
        have st5 := st4.ext x5
        cases ek : nx (fk (setE ρ2 us)) with
        | stuck => rw [ek] at eq2; exact absurd eq2 hns
        | exc c => rw [ek] at eq2; exact absurd eq2 (hne c)
        | ok dk =>
          rw [ek] at eq2
          refine ⟨setE ρ2 us, F5, st5, ?_⟩
          rw [nx_ok ek]
          intro yk H6 F6 x6 rk
          have eq4 : putsD p fk fv its ρ ks0 = match keyOf dk with
            | some k => if ks.length < big then putsD p fk fv (its.drop (i + 1)) (setE ρ2 us) (putD ks k dv) else .stuck
            | none => .stuck := eq2
          cases eky : keyOf dk with
          | none => rw [eky] at eq4; exact absurd eq4 hns
          | some kk =>
            rw [eky] at eq4
            dsimp only at eq4
            by_cases hlen : ks.length < big
            · rw [if_pos hlen] at eq4
              have x46 := (x4.trans x5).trans x6
              have hb6 : H6 b = some (.dK kvs) := x46.keep _ _ hb2 plain_dk.1
              have fb6 : F6 b = none := by rw [x46.old b (by rw [hb2]; simp)]; exact fb2
              have ex6 := ex2.trans x46
              have le6 : Same F2 F6 := x46.le st2.sub
              have hl : kvs.length = ks.length := by have := congrArg List.length rd2.two.1; simpa using this
              refine ⟨b, upd H6 b (.dK (putK kvs kk v)), rfl, .inl ⟨kvs, kk, hb6, rep_key rk eky, by rw [hl]; exact Nat.lt_of_lt_of_le hlen big_le, rfl⟩, ?_⟩
              have st6 := st5.ext x6
              have rd6 : RD K g F6 kvs ks := RD.of rd2.two.1 (rd2.two.2.mono le6)
              refine ⟨hlt, setE ρ2 us, F6, putK kvs kk v, putD ks kk dv, le2.trans le6, ⟨(ex6.putO b0 fb6 hb6 plain_dk).sub, tabs_put st6.tabs hb6 plain_dk, st6.env, st6.len, st6.nt⟩, sz4, ex6.putO b0 fb6 hb6 plain_dk, le6 _ _ fa2, upd_same, fb6, rd6.put (rv.mono (x6.le st5.sub)), eq4⟩
            · rw [if_neg hlen] at eq4; exact absurd eq4 hns
  · left
    have e : i = its.length := by omega
    refine ⟨stop (by omega), ?_⟩
    rw [e, List.drop_length] at eq2
    exact fin kvs ks F2 H2 eq2 le2 ex2 fa2 hb2 fb2 rd2

theorem start0 {N : List Str} {a : Addr} {vs : List V} : (start N (.ref a :: vs))[0]? = some (some (.ref a)) := rfl
theorem start_env {F H : Hp} {N : List Str} {a : Addr} {vs : List V} {ds : List Dat} (s : Same F H) (t : LamX.Tabs g.tabs H) (n : ∀ a ps, F a ≠ some (.tbl ps)) (r : Reps K g F vs ds) (hn : 0 < N.length) : Stt K g F H (start N (.ref a :: vs)) (startI N.length ds) := by
  have hl := r.length
  refine ⟨s, t, fun i d e => ?_, ?_, n⟩
  · cases i with
    | zero => cases e
    | succ i =>
      unfold startI at e
      rw [List.getElem?_cons_succ] at e
      by_cases h : i < ds.length
      · rw [List.getElem?_append_left (by simpa using h), List.getElem?_map] at e
        cases q : ds[i]? with
        | none => rw [q] at e; cases e
        | some d' =>
          rw [q] at e
          cases e
          obtain ⟨v, h1, h2⟩ := r.get q
          refine ⟨v, ?_, h2⟩
          unfold L2.start
          rw [List.getElem?_append_left (by simp [hl]; omega), List.getElem?_map, List.getElem?_cons_succ, h1]; rfl
      · rw [List.getElem?_append_right (by simpa using h), List.getElem?_replicate] at e
        split at e <;> cases e
  · unfold L2.start startI; simp [hl]; omega
theorem putF_len (f : Str) (v : V) : ∀ fs : List (Str × V), (putF f v fs).length ≤ fs.length + 1
  | [] => Nat.le_refl _
  | (k, x) :: r => by
    unfold putF
    split
    · simp
    · have := putF_len f v r; simp only [List.length_cons]; omega
theorem init_ok {x qual : Str} {st : Stmt} {f : Addr} {fd : FuncData} {N ps : List Str} {k n : Nat} {C : Str} {f1 f2 f3 f4 fk fv : Env → Res Dat} {p : Pat} (F : Fun K x qual st f fd) (S : FnScope N ps (defScope st)) (hN : 0 < N.length) (hps : ps.length = n + 1) (hpat : ∀ i ∈ patIx p, i ≠ 0)
    (hcl : Cls K (g.cls C)) (n1 : NoAttr K (g.cls C) "plan") (n2 : NoAttr K (g.cls C) "seed") (n3 : NoAttr K (g.cls C) "places")
    (hb : ∀ (cdv : Value) (A : Around) (outer : List PySem.Env) (s : Shared) (H : Hp) (E : XK), fd.code = cdv → Room k (A.deeper (envOfC qual (defScope st) s.heap.objs.size f cdv)) →
      PSs (cxOf (L2N.CX P w) P w K mg base N qual (defScope st) f cdv A outer s H E) (defBody st) (tInit K g (fun cls d _ H' => E cls d H') C f1 f2 f3 f4 p fk fv)) : FnOk P w K mg base (L2N.CX P w) (k + 1) f fd ps (spI K g C (initW n N.length f1 f2 f3 f4 p fk fv)) := by
  obtain ⟨oc, od, kV, doc, pm, an, cdv, ct, osl, rfl, lk, hcd⟩ := F.ex
  have key : ∀ vs H Q E, spI K g C (initW n N.length f1 f2 f3 f4 p fk fv) vs H Q E → ∃ a dx H0 F0 vs' ds, vs = .ref a :: vs' ∧ H = upd (upd H0 dx (.own a)) a (.ins (g.cls C) dx []) ∧ H0 a = none ∧ H0 dx = none ∧ dx ≠ a ∧ Same F0 H0 ∧ LamX.Tabs g.tabs H0 ∧ (∀ a ps, F0 a ≠ some (.tbl ps)) ∧ Reps K g F0 vs' ds ∧ ds.length = n ∧ IPost K g E F0 H0 a C Q (initW n N.length f1 f2 f3 f4 p fk fv ds) := by
    rintro vs H Q E ⟨a, dx, H0, F0, vs', ds, h1, h2, h3, h4, h5, h6, h7, h8, h9, h10⟩
    have hp : IPost K g E F0 H0 a C Q (initW n N.length f1 f2 f3 f4 p fk fv ds) := by
      cases e : initW n N.length f1 f2 f3 f4 p fk fv ds <;> rw [e] at h10 <;> exact h10
    refine ⟨a, dx, H0, F0, vs', ds, h1, h2, h3, h4, h5, h6, h7, h8, h9, ?_, hp⟩
    by_cases q : ds.length = n
    · exact q
    · unfold initW at hp; rw [if_neg q] at hp; exact hp.elim
  refine fn_of lk hcd S (fun vs H Q E h => ?_) fun A outer s H vs Q E hr hsp => ?_
  · obtain ⟨a, dx, H0, F0, vs', ds, h1, _, _, _, _, _, _, _, h9, h10, _⟩ := key vs H Q E h
    rw [h1, List.length_cons, h9.length, h10, hps]
  · obtain ⟨a, dx, H0, F0, vs', ds, h1, h2, h3, h4, h5, h6, h7, h8, h9, h10, hp⟩ := key vs H Q E hsp
    refine ⟨_, pss_lk (hb cdv A outer s H E rfl hr), ?_⟩
    subst h1
    have xd : Ext g F0 H0 F0 (upd H0 dx (.own a)) := Ext.newO h6 h4
    have na : (upd H0 dx (.own a)) a = none := by rw [upd_ne (Ne.symm h5)]; exact h3
    have xa : Ext g F0 H0 F0 H := by rw [h2]; exact xd.trans (Ext.newO xd.sub na)
    have fa : F0 a = none := sub_none h6 h3
    have j0 : IJ K g F0 H0 F0 H (start N (.ref a :: vs')) (startI N.length ds) a dx (g.cls C) [] := ⟨start_env xa.sub (xa.tabs h7) h8 h9 hN, xa, by rw [h2]; exact upd_same, fa, h3⟩
    unfold initW at hp
    rw [if_pos h10] at hp
    refine j0.go hp fun d1 v1 H1 F1 j1 x1 r1 hp1 => ?_
    refine j1.go hp1 fun d2 v2 H2 F2 j2 x2 r2 hp2 => ?_
    refine j2.go hp2 fun d3 v3 H3 F3 j3 x3 r3 hp3 => ?_
    refine ⟨.ref a, start0, a, g.cls C, dx, [], rfl, j3.ha, hcl, n1, by decide, ?_⟩
    have j3' := j3.put "plan" v3
    refine j3'.go hp3 fun d4 v4 H4 F4 j4 x4 r4 hp4 => ?_
    refine ⟨.ref a, start0, a, g.cls C, dx, _, rfl, j4.ha, hcl, n2, by have := putF_len "plan" v3 []; simp only [List.length_nil] at this; omega, ?_⟩
    have j4' := j4.put "seed" v4
    intro b nb
    have xb : Ext g F4 _ F4 (upd (upd H4 a (.ins (g.cls C) dx (putF "seed" v4 (putF "plan" v3 [])))) b (.dK [])) := Ext.newO (g := g) j4'.st.sub nb
    have j5 := j4'.ext xb
    have hb0 : H0 b = none := j4'.ex.free nb
    have fb4 : F4 b = none := sub_none j4'.st.sub nb
    have hab : b ≠ a := fun z => by rw [z, j4'.ha] at nb; cases nb
    refine ⟨.ref a, start0, a, g.cls C, dx, _, rfl, j5.ha, hcl, n3, by have := putF_len "plan" v3 []; have := putF_len "seed" v4 (putF "plan" v3 []); simp only [List.length_nil] at *; omega, ?_⟩
    have j6 := j5.put "places" (.ref b)
    -- self is frozen from here on
    have ef : putF "places" (V.ref b) (putF "seed" v4 (putF "plan" v3 [])) = ([("plan", v3), ("seed", v4), ("places", .ref b)] : List (Str × V)) := by
      have q1 : ¬ (("plan" : Str) = "seed") := by decide +kernel
      have q2 : ¬ (("plan" : Str) = "places") := by decide +kernel
      have q3 : ¬ (("seed" : Str) = "places") := by decide +kernel
      simp [putF, q1, q2, q3]
    rw [ef] at j6
    generalize hH6 : upd (upd (upd H4 a (.ins (g.cls C) dx (putF "seed" v4 (putF "plan" v3 [])))) b (.dK [])) a (.ins (g.cls C) dx (putF "places" (.ref b) (putF "seed" v4 (putF "plan" v3 [])))) = H6
    have eH6 : upd (upd (upd H4 a (.ins (g.cls C) dx (putF "seed" v4 (putF "plan" v3 [])))) b (.dK [])) a (.ins (g.cls C) dx [("plan", v3), ("seed", v4), ("places", .ref b)]) = H6 := by rw [← hH6, ef]
    rw [eH6] at j6
    have hb6 : H6 b = some (.dK []) := by rw [← eH6, upd_ne hab]; exact upd_same
    have r3' : Rep K g F4 v3 d3 := r3.mono (x4.le j3'.st.sub)
    have x7 := j6.ex.frz j6.n0 j6.ha plain_ins
    have le7 : Same F4 (upd F4 a (.ins (g.cls C) dx [("plan", v3), ("seed", v4), ("places", .ref b)])) := fun q o e => by
      rw [upd_ne fun z => by subst z; rw [j6.na] at e; cases e]; exact e
    generalize hF7 : upd F4 a (.ins (g.cls C) dx [("plan", v3), ("seed", v4), ("places", .ref b)]) = F7 at x7 le7
    have fa7 : F7 a = some (.ins (g.cls C) dx [("plan", v3), ("seed", v4), ("places", .ref b)]) := by rw [← hF7]; exact upd_same
    have fb7 : F7 b = none := by rw [← hF7, upd_ne hab]; exact fb4
    have nt7 : ∀ q ps, F7 q ≠ some (.tbl ps) := fun q ps e => by
      rw [← hF7] at e
      by_cases z : q = a
      · subst z; rw [upd_same] at e; cases e
      · rw [upd_ne z] at e; exact j6.st.nt q ps e
    have st7 : Stt K g F7 H6 (start N (.ref a :: vs')) (startI N.length ds) := ⟨x7.sub, j6.st.tabs, fun i d e => let ⟨v, q1, q2⟩ := j6.st.env i d e; ⟨v, q1, q2.mono le7⟩, j6.st.len, nt7⟩
    have st8 : Stt K g F7 H6 (start N (.ref a :: vs')) ((startI N.length ds).set 0 (some (.ins C [("plan", d3), ("seed", d4), ("places", .opq b)]))) := by
      refine ⟨st7.sub, st7.tabs, fun i d e => ?_, by rw [List.length_set]; exact st7.len, st7.nt⟩
      by_cases z : i = 0
      · subst z
        have : d = .ins C [("plan", d3), ("seed", d4), ("places", .opq b)] := by
          unfold startI at e
          simp at e
          exact e.symm
        subst this
        exact ⟨.ref a, start0, .ins fa7 rfl (.cons (r3'.mono le7) (.cons (r4.mono le7) (.cons (.opq b) .nil)))⟩
      · rw [List.getElem?_set_ne (Ne.symm z)] at e
        exact st7.env i d e
    dsimp only
    refine ⟨_, F7, st8, ?_⟩
    have ei : iArg enumD (aCons (eUn (fldD C "plan") (eVar 0)) aNil) ((startI N.length ds).set 0 (some (.ins C [("plan", d3), ("seed", d4), ("places", .opq b)]))) = enumD [d3] := by
      have q1 : (startI N.length ds).set 0 (some (.ins C [("plan", d3), ("seed", d4), ("places", .opq b)])) = some (.ins C [("plan", d3), ("seed", d4), ("places", .opq b)]) :: (startI N.length ds).tail := rfl
      rw [q1]
      simp only [iArg_eq, aCons_eq, aNil_eq, eUn_eq, eVar_zero, Res.bind_ok]
      have q2 : fldD C "plan" (.ins C [("plan", d3), ("seed", d4), ("places", .opq b)]) = .ok d3 := by
        show (if C = C then _ else _) = _
        rw [if_pos rfl]
        rfl
      rw [q2]; rfl
    rw [ei]
    cases ee : enumD [d3] with
    | stuck => rw [ee] at hp4; exact hp4.elim
    | exc c => rw [ee] at hp4; exact fun H' F' x => hp4 H' F' (x7.trans x)
    | ok its =>
      rw [ee] at hp4
      intro J H8 F8 x8 it
      have hp5 : IPost K g E F0 H0 a C Q (if its.length ≤ big then (putsD p fk fv its (startI N.length ds) []).bind fun kvs => .ok [("plan", d3), ("seed", d4), ("places", .dct kvs)] else .stuck) := hp4
      by_cases hl : its.length ≤ big
      · rw [if_pos hl] at hp5
        have le8 : Same F7 F8 := x8.le st7.sub
        refine puts_loop (F0 := F0) (H0 := H0) (W := fun cls d _ H' => E cls d H') (Q := fun v H' => LockQ H' (Q v)) (p := p) (fk := fk) (fv := fv) (a := a) (b := b) (dx := dx) (vp := v3) (vs := v4) hcl n3 hpat it (st7.ext x8) start0 (x7.trans x8) (le8 _ _ fa7) (x8.keep _ _ hb6 plain_dk.1) (by rw [x8.old b (by rw [hb6]; simp)]; exact fb7) hb0 (ks0 := []) .nil ?_ ?_ ?_
        · intro z; rw [z] at hp5; exact hp5
        · intro c z
          have : ∀ (l : List Dat) (ρ : Env) (ks : List (Key × Dat)), putsD p fk fv l ρ ks ≠ .exc c := by
            intro l
            induction l with
            | nil => intro ρ ks z; cases z
            | cons d r ih =>
              intro ρ ks z
              unfold putsD at z
              split at z
              · cases z
              · rename_i us _
                cases ev : nx (fv (setE ρ us)) with
                | stuck => rw [ev] at z; cases z
                | exc c' => cases q : fv (setE ρ us) <;> rw [q] at ev <;> cases ev
                | ok v =>
                  rw [ev] at z
                  cases ek : nx (fk (setE ρ us)) with
                  | stuck => rw [ek] at z; cases z
                  | exc c' => cases q : fk (setE ρ us) <;> rw [q] at ek <;> cases ek
                  | ok kk =>
                    rw [ek] at z
                    simp only [Res.bind_ok] at z
                    split at z
                    · split at z
                      · exact ih _ _ z
                      · cases z
                    · cases z
          exact this _ _ _ z
        · intro kvs ks F' H' e9 le9 x9 fa9 hb9 fb9 rd9
          rw [e9] at hp5
          have hp6 : ∀ H' F', Ext g F0 H0 F' H' → Rep K g F' (.ref a) (.ins C [("plan", d3), ("seed", d4), ("places", .dct ks)]) → Q .non H' := hp5
          refine .inr ⟨b, .dK kvs, hb9, True.intro, fun od => ?_⟩
          have x10 := (x9.putO (o' := .frz od (.dK kvs)) hb0 fb9 hb9 plain_dk).frz hb0 upd_same plain_frz
          have le10 : Same F' (upd F' b (.frz od (.dK kvs))) := fun q o e => by
            rw [upd_ne fun z => by subst z; rw [fb9] at e; cases e]; exact e
          have leA : Same F4 (upd F' b (.frz od (.dK kvs))) := ((le7.trans le8).trans le9).trans le10
          refine hp6 _ _ x10 (.ins (le10 _ _ fa9) rfl (.cons (r3'.mono leA) (.cons (r4.mono leA) (.cons (.dct upd_same rd9.two.1 (rd9.two.2.mono le10)) .nil))))
      · rw [if_neg hl] at hp5; exact hp5.elim
end
end VL

/-! VL21: != and == of nested lists and dicts that are equal. -/
namespace VL
open PySem PySem.Spec PyProof.Rows L2
section
open AutoSeq1 (wpAny_loadPart')
open MeetsSeq MeetsSeq2 MeetsSeq3 SeqRoads2
variable {P : Program} {w : World}
abbrev lstO (dd : Option Addr) (its : Array Value) (n : Nat) (sl : Array (Option Value)) : Obj := { cls := .type "list", dict := dd, data := .seq its n, slots := sl }
theorem ne_turns (l b : Addr) (xs ys : Array Value) (n m : Nat) (d1 d2 : Option Addr) (s1 s2 : Array (Option Value)) (hz : xs.size = ys.size) (k : Nat) : ∀ i : Nat, xs.size - i = k → MeetsIn P w (Builtin.«list.__eq__.loop» ⟨[.ref l, .ref b, rawInt i, rawInt 3], []⟩)
    (fun A R s => s.heap.get? l = some (lstO d1 xs n s1) ∧ s.heap.get? b = some (lstO d2 ys m s2) ∧ (∀ j (h1 : j < xs.size) (h2 : j < ys.size), SeqAt.EqP P w A.in1 s xs[j] ys[j] true) ∧ R (.ok (.ret (.bool false))) s) := by
  induction k with
  | zero =>
    rintro i hk A R ⟨hp, g, d, tk, os⟩ ⟨gl, gb, he, r⟩
    wp_walk using wpAny_loadPart' gl, wpAny_loadPart' gb
    have i1 : xs[((i : Nat) : Int).toNat]? = none := by simp; omega
    have i2 : ys[((i : Nat) : Int).toNat]? = none := by simp; omega
    rw [i1, i2]
    wp_walk using wpAny_loadPart' gl, wpAny_loadPart' gb
    show R (.ok (.ret (.bool (xs.size != ys.size)))) _
    rw [hz]
    simpa using r
  | succ k ih =>
    rintro i hk A R ⟨hp, g, d, tk, os⟩ ⟨gl, gb, he, r⟩
    wp_walk using wpAny_loadPart' gl, wpAny_loadPart' gb
    have lt1 : i < xs.size := by omega
    have lt2 : i < ys.size := by omega
    have i1 : xs[((i : Nat) : Int).toNat]? = some xs[i] := by simp [lt1]
    have i2 : ys[((i : Nat) : Int).toNat]? = some ys[i] := by simp [lt2]
    have ci : ((i : Int) + 1) = ((i + 1 : Nat) : Int) := by omega
    rw [i1, i2]
    refine wpAny_bind (he i lt1 lt2 _ _ ?_)
    wp_walk
    rw [ci]
    exact ⟨plainId_quiet plain_eq_loop _, codeAny_builtin entry_eq_loop (by
      rw [Around.under_plainId plain_eq_loop _]; exact ih (i + 1) (by omega) A R _ ⟨gl, gb, he, r⟩)⟩
theorem ne_same (l b : Addr) (xs ys : Array Value) (n m : Nat) (d1 d2 : Option Addr) (s1 s2 : Array (Option Value)) (hz : xs.size = ys.size) : MeetsIn P w (Builtin.«list.__ne__» ⟨[.ref l, .ref b], []⟩)
    (fun A R s => s.heap.get? l = some (lstO d1 xs n s1) ∧ s.heap.get? b = some (lstO d2 ys m s2) ∧ (∀ j (h1 : j < xs.size) (h2 : j < ys.size), SeqAt.EqP P w A.in1 s xs[j] ys[j] true) ∧ R (.ok (.ret (.bool false))) s) := by
  rintro A R ⟨hp, g, d, tk, os⟩ ⟨gl, gb, he, r⟩
  have f3 := AutoSeq1.sub_list_list
  have nz : ¬ (xs.size != ys.size) = true := by simp [hz]
  wp_walk using wpAny_loadPart' gl, wpAny_loadPart' gb
  exact ⟨plainId_quiet plain_eq_loop _, codeAny_builtin entry_eq_loop (by
    rw [Around.under_plainId plain_eq_loop _]; exact ne_turns l b xs ys n m d1 d2 s1 s2 hz _ 0 rfl A R _ ⟨gl, gb, he, r⟩)⟩
theorem rcN_lists {A : Around} {s : Shared} {l b : Addr} {xs ys : Array Value} (hl : s.heap.IsList l xs) (hb : s.heap.IsList b ys) (hz : xs.size = ys.size) (hu : A.units < cLine)
    (he : ∀ j (h1 : j < xs.size) (h2 : j < ys.size), SeqAt.EqP P w A.in1 s xs[j] ys[j] true) (E Q : Value → Shared → Prop) (h : Q (.bool false) s) : wpAny (model P w) A (richCompare .NotEq (.ref l) (.ref b)) Q E s := by
  obtain ⟨⟨c1, d1, a1, s1⟩, o1, e1, n, f1⟩ := hl
  obtain ⟨⟨c2, d2, a2, s2⟩, o2, e2, m, f2⟩ := hb
  dsimp only at e1 f1 e2 f2
  subst e1 f1 e2 f2
  have t1 : s.TypeIs (.ref l) "list" := ⟨_, o1, rfl⟩
  have t2 : s.TypeIs (.ref b) "list" := ⟨_, o2, rfl⟩
  exact wpAny_richCompare_same_room (op := .NotEq) t1 t2 F.slot_list_ne (call_meetsIn F.slot_list_ne t1 F.entry_list_ne (F.args_list_ne_2 _ _) (ne_same l b xs ys n m d1 d2 s1 s2 hz) ⟨o1, o2, he, (fun z => nomatch z : Value.bool false ≠ Value.notImplemented), h⟩) hu
end
section
variable {P : Program} {w : World} {κ : Type} [DecidableEq κ] {knd : PySem.KeyKind P w κ} {A : Around} {s : Shared}
theorem rcN_dicts {a b : Addr} {ka kb : List (κ × Value)} (ha : (a == sysModules) = false) (hb : (b == sysModules) = false) (da : s.heap.DictOf knd a ka) (db : s.heap.DictOf knd b kb) (hu : A.units < cLine) (hl : ka.length = kb.length) (hits : PySem.W.KeqHitsP P w A.in1 s kb ka true) (E Q : Value → Shared → Prop) (h : Q (.bool false) s) :
    wpAny (model P w) A (richCompare .NotEq (.ref a) (.ref b)) Q E s := by
  refine wpAny_richCompare_same_room (op := .NotEq) da.typeIs db.typeIs PySem.F.slot_dict_ne (wpAny_call_entry PySem.F.slot_dict_ne da.typeIs PySem.F.entry_dict_ne ?_ (PySem.F.args_dict_ne_2 _ _)) hu
  show wpAny _ _ (Builtin.Dict.dictSlotArgs "__ne__" ⟨[.ref a, .ref b], []⟩ >>= _) _ _ s
  unfold Builtin.Dict.dictSlotArgs
  refine wpAny_bind (wpAny_bind (wpAny_notOrdered_dict da.typeIs (wpAny_pure (a := (Value.ref a, Value.ref b)) ?_)))
  refine wpAny_bind (wpAny_isInstance (T := "dict") db.typeIs PySem.F.sub_dict_dict ?_)
  simp only [Bool.not_true, Bool.false_eq_true, if_false]
  refine wpAny_bind (wpAny_pure (wpAny_bind (wpAny_pure (wpAny_bind (PySem.W.samePairsP ha hb da db (fun _ => hits) ?_)))))
  refine wpAny_pure ⟨_, rfl, (fun z => nomatch z), ?_⟩
  simpa [hl] using h
end
/-! ### deep equality, dicts locked or not -/
def EqRd (K : PySem.W.Frag) (H : Hp) (E : V → V → Prop) (x y : V) : Prop := (∃ a b us ws, x = .ref a ∧ y = .ref b ∧ SqL K H a us ∧ SqL K H b ws ∧ Paired E us ws) ∨
  ∃ a b ks ls, x = .ref a ∧ y = .ref b ∧ Rd H a (.dK ks) ∧ Rd H b (.dK ls) ∧ ks.length = ls.length ∧ ∀ p ∈ ks, ∃ u, valV ls p.1 = some u ∧ E p.2 u
def EqVd (K : PySem.W.Frag) (H : Hp) : Nat → V → V → Prop
  | 0, _, _ => False
  | n + 1, x, y => (x = y ∧ flatB x = true) ∨ (∃ a, x = .ref a ∧ y = .ref a) ∨ EqRd K H (EqVd K H n) x y
section
variable {X : Cx} {pins : List (Addr × Obj)} {σ : St} {H : Hp} {s : Shared}
theorem rd_ok {a : Addr} {ks : List (Key × V)} (I : Inv X pins σ H s) (h : Rd H a (.dK ks)) : ObjOk X.prog X.w H s.heap a (.dK ks) := by
  rcases h with h | ⟨o, h⟩
  · exact I.hok a _ h
  · exact (I.hok a _ h).2
theorem eqRd_go (I : Inv X pins σ H s) {A : Around} {G : V → V → Prop} (hu : A.units < cLine) (ih : ∀ x y v u, G x y → RelV x v → RelV y u → SeqAt.EqP X.prog X.w A.in1 s v u true) {x y : V} {v u : Value} (rx : RelV x v) (ry : RelV y u) (h : EqRd X.K H G x y) {E Q : Value → Shared → Prop} (q : Q (.bool true) s) : wpAny (model X.prog X.w) A (richCompare .Eq v u) Q E s := by
  rcases h with ⟨a, b, us, ws, rfl, rfl, ha, hb, hp⟩ | ⟨a, b, ks, ls, rfl, rfl, ha, hb, hl, hp⟩ <;> cases rx <;> cases ry
  · obtain ⟨vs, q1, l1, _⟩ := I.list ha
    obtain ⟨zs, q2, l2, _⟩ := I.list hb
    have e1 := Paired.length hp
    have e2 := q1.length
    have e3 := q2.length
    refine SeqAt.rcP_lists (e := fun _ => true) l1.isList l2.isList (by simp; omega) hu (fun j h1 h2 => by simpa using items_run ih hp q1 q2 j (by simpa using h1) (by simpa using h2)) E Q ?_
    have all : ∀ l : List Nat, (l.all fun _ => true) = true := fun l => by induction l with | nil => rfl | cons _ _ ih => exact ih
    rw [all]
    exact q
  · obtain ⟨_, n1, m1, k1, d1⟩ := rd_ok I ha
    obtain ⟨_, n2, m2, k2, d2⟩ := rd_ok I hb
    have e1 := k1.length
    have e2 := k2.length
    refine PySem.W.rcP_dicts (knd := mixKind X.prog X.w) (r := true) n1 n2 d1 d2 hu (fun _ => hits_run ih k2 k1 hp) E Q ?_
    have e : m1.length = m2.length := by omega
    simpa [e] using q
theorem eqVd_go (I : Inv X pins σ H s) : ∀ (n : Nat) (A : Around), A.units + n < cLine → ∀ (x y : V) (v u : Value), EqVd X.K H n x y → RelV x v → RelV y u → SeqAt.EqP X.prog X.w A s v u true
  | 0, _, _, _, _, _, _, h, _, _ => h.elim
  | n + 1, A, hu, x, y, v, u, h, rx, ry => by
    rcases h with ⟨rfl, f⟩ | ⟨a, rfl, rfl⟩ | h
    · exact (eqAt_same rx ry f).eqP
    · cases rx
      cases ry
      exact (SeqAt.EqAt.same _).eqP
    · have next := eqVd_go I n A.in1 (by show A.units + 1 + n < cLine; omega)
      have done := @eqRd_go X pins σ H s I A (EqVd X.K H n) (by omega) next x y v u rx ry h
      have refs : ∃ a b, x = .ref a ∧ y = .ref b := by rcases h with ⟨a, b, _, _, e1, e2, _⟩ | ⟨a, b, _, _, e1, e2, _⟩ <;> exact ⟨a, b, e1, e2⟩
      obtain ⟨a, b, rfl, rfl⟩ := refs
      cases rx
      cases ry
      rcases Nat.decEq a b with e | e
      · exact SeqAt.eqP_refs e fun E Q q => done q
      · subst e; exact (SeqAt.EqAt.same _).eqP
end
section
variable {X : Cx}
def rEqVd (K : PySem.W.Frag) : R2 := fun x y H Q => ∃ n, n ≤ 60 ∧ EqRd K H (EqVd K H n) x y ∧ Q (.bl true) H
theorem op_eqVd (hu : X.A.units + 64 < cLine) : OpR X (compareOp .Eq) (rEqVd X.K) := fun pins s σ H x y v u Q I rx ry ⟨n, hn, h, q⟩ =>
  eqRd_go I (A := X.A) (by omega) (eqVd_go I n X.A.in1 (by show X.A.units + 1 + n < cLine; omega)) rx ry h ⟨.bl true, H, I, rfl, q⟩
end
section
variable {X : Cx}
def rNeV (K : PySem.W.Frag) : R2 := fun x y H Q => ∃ n, n ≤ 60 ∧ EqRd K H (EqVd K H n) x y ∧ Q (.bl false) H
theorem op_neV (hu : X.A.units + 64 < cLine) : OpR X (compareOp .NotEq) (rNeV X.K) := by
  intro pins s σ H x y v u Q I rx ry h
  obtain ⟨n, hn, h, q⟩ := h
  have ih := eqVd_go I n X.A.in1 (by show X.A.units + 1 + n < cLine; omega)
  rcases h with ⟨a, b, xs, ys, rfl, rfl, ha, hb, hp⟩ | ⟨a, b, ks, ls, rfl, rfl, ha, hb, hl, hp⟩
  · cases rx
    cases ry
    obtain ⟨us, r1, p1, _⟩ := I.list ha
    obtain ⟨ws, r2, p2, _⟩ := I.list hb
    have hz : us.toArray.size = ws.toArray.size := by
      have := Paired.length hp
      have := r1.length
      have := r2.length
      simp; omega
    refine rcN_lists p1.isList p2.isList hz (by omega) (fun j h1 h2 => ?_) _ _ ⟨.bl false, H, I, rfl, q⟩
    have := items_run ih hp r1 r2 j (by simpa using h1) (by simpa using h2)
    simpa using this
  · cases rx
    cases ry
    obtain ⟨_, ya, va, ra, da⟩ := rd_ok I ha
    obtain ⟨_, yb, vb, rb, db⟩ := rd_ok I hb
    exact rcN_dicts (knd := mixKind X.prog X.w) ya yb da db (by omega) (by rw [← ra.length, ← rb.length]; exact hl) (hits_run ih rb ra hp) _ _ ⟨.bl false, H, I, rfl, q⟩
end
/-! ### upon plain data -/
mutual
/-- equal, through lists and dicts, of nesting below n -/
def eqDp : Nat → Dat → Dat → Bool
  | 0, _, _ => false
  | _ + 1, .non, .non => true
  | _ + 1, .bl a, .bl b => decide (a = b)
  | _ + 1, .int a, .int b => decide (a = b)
  | _ + 1, .str a, .str b => decide (a = b)
  | n + 1, .lst xs, .lst ys => eqDps n xs ys
  | n + 1, .dct ks, .dct ls => decide (ks.length = ls.length) && eqDpk n ls ks
  | _ + 1, _, _ => false
def eqDps : Nat → List Dat → List Dat → Bool
  | _, [], [] => true
  | n, x :: xs, y :: ys => eqDp n x y && eqDps n xs ys
  | _, _, _ => false
def eqDpk : Nat → List (Key × Dat) → List (Key × Dat) → Bool
  | _, _, [] => true
  | n, ls, (k, d) :: ks => (match dLook ls k with
    | some e => eqDp n d e
    | none => false) && eqDpk n ls ks
end

section
variable {K : PySem.W.Frag} {g : Glob} {F H : Hp}
theorem flatB_int (i : Int) : flatB (.int i) = true := rfl
mutual
theorem eqDp_rep (s : Same F H) : ∀ (n : Nat) (x y : V) (a b : Dat), Rep K g F x a → Rep K g F y b → eqDp n a b = true → EqVd K H n x y
  | 0, _, _, _, _, _, _, h => by rw [eqDp] at h; cases h
  | n + 1, x, y, a, b, ra, rb, h => by
    cases ra with
    | non => cases rb <;> simp only [eqDp] at h <;> first | exact .inl ⟨rfl, rfl⟩ | cases h
    | bl u => cases rb <;> simp only [eqDp, decide_eq_true_eq] at h <;> first | (subst h; exact .inl ⟨rfl, rfl⟩) | cases h
    | int u => cases rb <;> simp only [eqDp, decide_eq_true_eq] at h <;> first | (subst h; exact .inl ⟨rfl, rfl⟩) | cases h
    | str u => cases rb <;> simp only [eqDp, decide_eq_true_eq] at h <;> first | (subst h; exact .inl ⟨rfl, rfl⟩) | cases h
    | @lst aa xs ds ha rs =>
      cases rb with
      | @lst bb ys es hb rs2 =>
        rw [eqDp] at h
        exact .inr (.inr (.inl ⟨aa, bb, xs, ys, rfl, rfl, SqL.of (s _ _ ha), SqL.of (s _ _ hb), eqDps_rep s n xs ys ds es rs rs2 h⟩))
      | _ => simp [eqDp] at h
    | @dct aa oa ks ds ha hk rs =>
      cases rb with
      | @dct bb ob ls es hb hk2 rs2 =>
        rw [eqDp, Bool.and_eq_true, decide_eq_true_eq] at h
        have l1 := congrArg List.length hk
        have l2 := congrArg List.length hk2
        simp only [List.length_map] at l1 l2
        exact .inr (.inr (.inr ⟨aa, bb, ks, ls, rfl, rfl, .inr ⟨_, s _ _ ha⟩, .inr ⟨_, s _ _ hb⟩, by omega, eqDpk_rep s n ls es ks ds (RD.of hk2 rs2) (RD.of hk rs) h.2⟩))
      | _ => simp [eqDp] at h
    | _ => simp [eqDp] at h
theorem eqDps_rep (s : Same F H) : ∀ (n : Nat) (xs ys : List V) (ds es : List Dat), Reps K g F xs ds → Reps K g F ys es → eqDps n ds es = true → Paired (EqVd K H n) xs ys
  | n, _, _, [], [], .nil, .nil, _ => .nil
  | n, _, _, d :: ds, e :: es, .cons a b, .cons a2 b2, h => by
    rw [eqDps, Bool.and_eq_true] at h
    exact .cons (eqDp_rep s n _ _ d e a a2 h.1) (eqDps_rep s n _ _ ds es b b2 h.2)
  | n, _, _, [], _ :: _, _, _, h => by simp [eqDps] at h
  | n, _, _, _ :: _, [], _, _, h => by simp [eqDps] at h
theorem eqDpk_rep (s : Same F H) : ∀ (n : Nat) (ls : List (Key × V)) (es : List (Key × Dat)) (ks : List (Key × V)) (ds : List (Key × Dat)), RD K g F ls es → RD K g F ks ds → eqDpk n es ds = true → ∀ p ∈ ks, ∃ u, valV ls p.1 = some u ∧ EqVd K H n p.2 u
  | n, ls, es, _, [], _, .nil, _ => by simp
  | n, ls, es, _, (k, d) :: ds, hl, .cons r hk, h => by
    rw [eqDpk, Bool.and_eq_true] at h
    intro p hp
    rcases List.mem_cons.mp hp with rfl | hp
    · rcases hl.look (k := k) with ⟨_, q⟩ | ⟨u, e, q1, q2, q3⟩
      · rw [q] at h; exact absurd h.1 (by simp)
      · rw [q2] at h
        exact ⟨u, q1, eqDp_rep s n _ _ d e r q3 h.1⟩
    · exact eqDpk_rep s n ls es _ ds hl hk h.2 p hp
end
end
/-- == and != where deep ones, too, are known if equal -/
def eqB2 (a b : Dat) : Option Bool := match eqB a b with
  | some c => some c
  | none => if eqDp 8 a b = true then some true else none
def eqE (a b : Dat) : Res Dat := match eqB2 a b with
  | some c => .ok (.bl c)
  | none => .stuck
def neE (a b : Dat) : Res Dat := match eqB2 a b with
  | some c => .ok (.bl (!c))
  | none => .stuck
section
variable {X : Cx} {g : Glob} {W : WX}
def rEqE (K : PySem.W.Frag) : R2 := fun x y H Q => rEqA K x y H Q ∨ rEqVd K x y H Q ∨ rEq x y H Q
def rNeE (K : PySem.W.Frag) : R2 := fun x y H Q => rNeA K x y H Q ∨ rNeV K x y H Q ∨ rNe x y H Q
theorem op_eqE (hu : X.A.units + 64 < cLine) : OpR X (compareOp .Eq) (rEqE X.K) := (op_eqA hu).or ((op_eqVd hu).or op_eq)
theorem op_neE (hu : X.A.units + 64 < cLine) : OpR X (compareOp .NotEq) (rNeE X.K) := (op_neA hu).or ((op_neV hu).or op_ne)
theorem eqV_top {K : PySem.W.Frag} {H : Hp} {n : Nat} {x y : V} (h : EqVd K H (n + 1) x y) : (x = y ∧ flatB x = true) ∨ (∃ a, x = .ref a ∧ y = .ref a) ∨ EqRd K H (EqVd K H n) x y := h
theorem deep_rep {K : PySem.W.Frag} {F H : Hp} {x y : V} {a b : Dat} (s : Same F H) (ra : Rep K g F x a) (rb : Rep K g F y b) (h : eqDp 8 a b = true) (he : eqB a b = none) : EqRd K H (EqVd K H 7) x y := by
  cases ra with
  | non => cases rb <;> simp [eqDp] at h; simp [eqB, eqPy, toPy, SeqAt.shaped, PyData.canLay0, PyData.depth] at he
  | bl u => cases rb <;> simp [eqDp] at h; simp [eqB, eqPy, toPy, SeqAt.shaped, PyData.canLay0, PyData.depth] at he
  | int u => cases rb <;> simp [eqDp] at h; simp [eqB, eqPy, toPy, SeqAt.shaped, PyData.canLay0, PyData.depth] at he
  | str u => cases rb <;> simp [eqDp] at h; simp [eqB] at he
  | @lst aa xs ds ha rs =>
    cases rb with
    | @lst bb ys es hb rs2 =>
      rw [eqDp] at h
      exact .inl ⟨aa, bb, xs, ys, rfl, rfl, SqL.of (s _ _ ha), SqL.of (s _ _ hb), eqDps_rep s 7 xs ys ds es rs rs2 h⟩
    | _ => simp [eqDp] at h
  | @dct aa oa ks ds ha hk rs =>
    cases rb with
    | @dct bb ob ls es hb hk2 rs2 =>
      rw [eqDp, Bool.and_eq_true, decide_eq_true_eq] at h
      have l1 := congrArg List.length hk
      have l2 := congrArg List.length hk2
      simp only [List.length_map] at l1 l2
      exact .inr ⟨aa, bb, ks, ls, rfl, rfl, .inr ⟨_, s _ _ ha⟩, .inr ⟨_, s _ _ hb⟩, by omega, eqDpk_rep s 7 ls es ks ds (RD.of hk2 rs2) (RD.of hk rs) h.2⟩
    | _ => simp [eqDp] at h
  | _ => simp [eqDp] at h
theorem opd_eqE : OpD X g W eqE (rEqE X.K) := by
  intro F H σ ρ x y a b Q s ra rb p
  cases e : eqB a b with
  | some c =>
    refine .inl (opd_eq (W := W) (σ := σ) s ra rb ?_)
    unfold eqE eqB2 at p
    unfold eqD
    rw [e] at p ⊢
    exact p
  | none =>
    unfold eqE eqB2 at p
    rw [e] at p
    by_cases q : eqDp 8 a b = true
    · simp only [q, if_true] at p
      exact .inr (.inl ⟨7, by decide, deep_rep s.sub ra rb q e, PostG.here s.sub p (.bl _)⟩)
    · simp only [q] at p; exact p.elim
theorem opd_neE : OpD X g W neE (rNeE X.K) := by
  intro F H σ ρ x y a b Q s ra rb p
  cases e : eqB a b with
  | some c =>
    refine .inl (opd_ne (W := W) (σ := σ) s ra rb ?_)
    unfold neE eqB2 at p
    unfold neD
    rw [e] at p ⊢
    exact p
  | none =>
    unfold neE eqB2 at p
    rw [e] at p
    by_cases q : eqDp 8 a b = true
    · simp only [q, if_true] at p
      exact .inr (.inl ⟨7, by decide, deep_rep s.sub ra rb q e, PostG.here s.sub p (.bl _)⟩)
    · simp only [q] at p; exact p.elim
theorem ve_eqE {k : Nat} {a b : Expr} {pos : Pos} {f h : Env → Res Dat} (hr : Room k X.A) (ha : VE X g W a f) (hb : VE X g W b h) : VE X g W (.Compare a [.Eq] [b] pos) (eBin eqE f h) := ve_cmp (op_eqE hr.units) opd_eqE ha hb (nomark _)
theorem ve_neE {k : Nat} {a b : Expr} {pos : Pos} {f h : Env → Res Dat} (hr : Room k X.A) (ha : VE X g W a f) (hb : VE X g W b h) : VE X g W (.Compare a [.NotEq] [b] pos) (eBin neE f h) := ve_cmp (op_neE hr.units) opd_neE ha hb (nomark _)
theorem vt_eqE {k : Nat} {a b : Expr} {pos : Pos} {f h : Env → Res Dat} (hr : Room k X.A) (ha : VE X g W a f) (hb : VE X g W b h) : VT X g W (.Compare a [.Eq] [b] pos) (eTest (eBin eqE f h)) := vt_cmp (op_eqE hr.units) opd_eqE ha hb (nomark _)
theorem vt_neE {k : Nat} {a b : Expr} {pos : Pos} {f h : Env → Res Dat} (hr : Room k X.A) (ha : VE X g W a f) (hb : VE X g W b h) : VT X g W (.Compare a [.NotEq] [b] pos) (eTest (eBin neE f h)) := vt_cmp (op_neE hr.units) opd_neE ha hb (nomark _)
end
end VL

/-! VL22: dict(pairs), dict(d); walks over a dict. -/
namespace VL
open PySem PySem.Spec PyProof.Rows L2
def pairOf : Dat → Option (Key × Dat)
  | .tup [k, v] => match keyOf k with
    | some k => some (k, v)
    | none => none
  | _ => none
def pairsOf : List Dat → Option (List (Key × Dat))
  | [] => some []
  | d :: r => match pairOf d, pairsOf r with
    | some p, some ps => some (p :: ps)
    | _, _ => none
def dictD : List Dat → Res Dat
  | [.lst xs] => match pairsOf xs with
    | some kvs => .ok (.dct (mergeD [] kvs))
    | none => .stuck
  | [.dct kvs] => .ok (.dct kvs)
  | _ => .stuck
section
variable {X : Cx} {g : Glob} {W : WX}
theorem pairs_rep {K : PySem.W.Frag} {F : Hp} : ∀ {vs : List V} {ds : List Dat} {kvs : List (Key × Dat)}, Reps K g F vs ds → pairsOf ds = some kvs → ∃ (ps : List Addr) (ks : List (Key × V)), vs = ps.map V.ref ∧ Paired (fun p kv => SqT K F p [kV kv.1, kv.2]) ps ks ∧ RD K g F ks kvs := by
  intro vs ds
  induction ds generalizing vs with
  | nil => intro kvs r h; cases r; cases h; exact ⟨[], [], rfl, .nil, .nil⟩
  | cons d ds ih =>
    intro kvs r h
    cases r with
    | @cons v vs' _ _ ra rb =>
      unfold pairsOf at h
      cases e1 : pairOf d with
      | none => rw [e1] at h; simp at h
      | some p =>
        cases e2 : pairsOf ds with
        | none => rw [e1, e2] at h; simp at h
        | some q =>
          rw [e1, e2] at h
          cases h
          obtain ⟨ps, ks, h1, h2, h3⟩ := ih rb e2
          unfold pairOf at e1
          split at e1
          · rename_i dk dv
            cases ek : keyOf dk with
            | none => rw [ek] at e1; cases e1
            | some k =>
              rw [ek] at e1
              cases e1
              cases ra with
              | @tup a xs _ ha rs =>
                cases rs with
                | cons r1 rs =>
                  cases rs with
                  | cons r2 rs =>
                    cases rs
                    have := rep_key r1 ek
                    subst this
                    exact ⟨a :: ps, (k, _) :: ks, by rw [h1]; rfl, .cons ha h2, .cons r2 h3⟩
          · cases e1
theorem paired_mono {α β : Type} {R S : α → β → Prop} (h : ∀ a b, R a b → S a b) : ∀ {xs : List α} {ys : List β}, Paired R xs ys → Paired S xs ys
  | _, _, .nil => .nil
  | _, _, .cons a b => .cons (h _ _ a) (paired_mono h b)
theorem cd_dict : CallD X g W dictD (fun xs H Q => (∃ (a : Addr) (ps : List Addr) (kvs : List (Key × V)), xs = [.ref a] ∧ SqL X.K H a (ps.map V.ref) ∧ Paired (fun p kv => SqT X.K H p [kV kv.1, kv.2]) ps kvs ∧ ∀ p, H p = none → LockQ (upd H p (.dK (mergeK [] kvs))) (Q (.ref p))) ∨
    ∃ (a : Addr) (kvs : List (Key × V)), xs = [.ref a] ∧ Rd H a (.dK kvs) ∧ ∀ p, H p = none → LockQ (upd H p (.dK kvs)) (Q (.ref p))) := by
  intro F H σ ρ xs ds Q s rs p
  cases rs with
  | nil => exact p.elim
  | cons ra rb =>
    cases rb with
    | cons _ _ => unfold dictD at p; split at p <;> first | exact p.elim | (rename_i h; cases h)
    | nil =>
      cases ra with
      | @lst a vs ds' ha rs =>
        have p' : PostG g (Rep X.K g) W σ F H (match pairsOf ds' with | some kvs => .ok (.dct (mergeD [] kvs)) | none => .stuck) Q := p
        cases e : pairsOf ds' with
        | none => rw [e] at p'; exact p'.elim
        | some kvs =>
          rw [e] at p'
          obtain ⟨ps, ks, h1, h2, h3⟩ := pairs_rep rs e
          subst h1
          refine .inl ⟨a, ps, ks, rfl, SqL.of (s.sub _ _ ha), paired_mono (fun _ _ z => sqT_mono s.sub z) h2, fun q hq => ?_⟩
          refine .inr ⟨q, .dK (mergeK [] ks), upd_same, True.intro, fun od => ?_⟩
          rw [upd_upd]
          have x := Ext.new (g := g) (o := .frz od (.dK (mergeK [] ks))) s.sub hq
          have rd := RD.merge h3 (a := []) (c := []) .nil
          exact PostG.ret x p' (.dct upd_same rd.two.1 (rd.two.2.mono (x.le s.sub)))
      | @dct a oa kvs ds' ha hk rs =>
        refine .inr ⟨a, kvs, rfl, .inr ⟨_, s.sub _ _ ha⟩, fun q hq => ?_⟩
        refine .inr ⟨q, .dK kvs, upd_same, True.intro, fun od => ?_⟩
        rw [upd_upd]
        have x := Ext.new (g := g) (o := .frz od (.dK kvs)) s.sub hq
        exact PostG.ret x p (.dct upd_same hk (rs.mono (x.le s.sub)))
      | _ => exact p.elim
end
end VL

/-! VL23: the end of a law with lambdas in several defs. -/
namespace VL
open PySem PySem.Spec PyProof.Rows L2
/-- the def n makes lambdas; its code object, its table -/
structure LamDef (K : PySem.W.Frag) (mg : Str → Option Value) (n : Str) (c P : Addr) : Prop where
  ex : ∃ (fn : Addr) (o : Obj) (fd : FuncData), mg n = some (.ref fn) ∧ K.lookup fn = some o ∧ o.data = .func fd ∧ fd.code = .ref c ∧ PySem.W.codeHdIn K c P = true ∧ K.lookup P = none
abbrev LT := List (Str × Addr × Addr)
def tabsOf (ls : LT) : List (Addr × Str) := ls.map fun t => (t.2.2, t.1 ++ ".<locals>." ++ "<lambda>")
theorem tabs_empty {H : Hp} {ls : LT} (h : ∀ t ∈ ls, H t.2.2 = some (.tbl #[])) : LamX.Tabs (tabsOf ls) H := fun p hp => by
  obtain ⟨t, ht, rfl⟩ := List.mem_map.mp hp
  exact ⟨#[], h t ht, trivial, fun _ _ z => by cases z⟩
theorem tabs_law {base : Heap} {mg : Str → Option Value} {g : Glob} {ls : LT} {name : Str} {fd : FuncData} {c P : Addr} (hB : ∀ t ∈ ls, LamX.TabB base mg t.2.1 t.2.2) (hm : (name, c, P) ∈ ls) (hc : fd.code = .ref c) (hg : g.tabs = tabsOf ls) (hu : ∀ t ∈ ls, t.2.2 = P → t.1 = name) : LawTab base mg g name fd :=
  ⟨c, P, hB _ hm, hc, by rw [hg]; exact List.mem_map.mpr ⟨_, hm, rfl⟩, fun p hp e => by
    rw [hg] at hp
    obtain ⟨t, ht, rfl⟩ := List.mem_map.mp hp
    show t.1 ++ ".<locals>." ++ "<lambda>" = _
    rw [hu t ht e]⟩
theorem walk_Ls {l : PySem.W.OpenLaw} {k : Nat} {q : Program} {loose names : List Str} {XP : (Str → Option Value) → Heap → Prop} {YP : World → Heap → Prop} {d : DefRec} {K : Params → PySem.W.Frag} {m : List Dat → Res Dat}
    (hn : l.most = some 63) (hdf : d.params.defaults = []) (hk : k ≤ 200) (hrec : (names.all fun n => (recsOf q).any fun e => e.name == n) = true) (hY : ∀ (w : World) (h : Heap), YP w h → (K w.params).In h)
    (F : ∀ (w : World) (mg : Str → Option Value) (fa : Addr) (h : Heap), (K w.params).In h → h.Ns mainGlobals mg → mg d.name = some (.ref fa) →
      ∃ (fd : FuncData) (cls : Str → Addr) (ls : LT), ls.map Prod.fst = names ∧ (∀ t ∈ ls, LamDef (K w.params) mg t.1 t.2.1 t.2.2) ∧ (∀ (s : Shared) (u : Value), BindsTo s fd ⟨[u], []⟩ [("script", u)]) ∧
        ∀ base : Heap, (K w.params).In base → base.Ns mainGlobals mg → (∀ t ∈ ls, LamX.TabB base mg t.2.1 t.2.2) → FnOk l.prog w (K w.params) mg base (L2N.CX l.prog w) k fa fd ["script"] (spV (K w.params) ⟨cls, tabsOf ls⟩ m))
    (hm : ∀ ns : List Int, ns.length ≤ 63 → (∀ z ∈ ns, Builtin.Int.intBits z ≤ 1048576) → m [.rls (ns.map Dat.int)] = .ok (.bl true)) :
    PySem.W.WalkO q loose XP YP l.row.toRowW d [] (fun f vs => PySem.call f vs) := by
  refine Att.attach_callB hn hdf fun w s₀ s₁ mg mb fa o pm cd doc a vs ns G Y ho hd hcd hmg hobj hints hlen hbits hg => ?_
  have KX := hY w _ Y
  obtain ⟨fd, cls, ls, hl1, hl2, hb, hF⟩ := F w mg fa _ KX G.T.g hmg
  have key : ∀ t ∈ ls, s₁.heap.get? t.2.2 = some { cls := .none, data := .fields #[] } ∧ (K w.params).lookup t.2.2 = none ∧ PySem.W.CodeHd s₁.heap t.2.1 t.2.2 := fun t ht => by
    obtain ⟨fn, o1, fd1, k0, k1, k2, k3, k4, k7⟩ := (hl2 t ht).ex
    have hin : t.1 ∈ names := by rw [← hl1]; exact List.mem_map.mpr ⟨t, ht, rfl⟩
    obtain ⟨dL, hm1, hn1⟩ := List.any_eq_true.mp (List.all_eq_true.mp hrec t.1 hin)
    have hn2 : dL.name = t.1 := beq_iff_eq.mp hn1
    obtain ⟨a', o', fd', c', P', h1, h2, h3, h4, h5, h6⟩ := G.T.tab dL hm1
    rw [hn2, k0] at h1
    cases h1
    have g1 := KX _ _ k1
    rw [g1] at h2
    cases h2
    rw [k2] at h3
    cases h3
    rw [k3] at h4
    cases h4
    obtain ⟨⟨oc', vc', e1, _, e3, e4⟩, hP⟩ := h6
    have C := PySem.W.codeHd_of_K KX k4
    have C' := C
    obtain ⟨o2, us, _, _, _, _, _, _, _, r1, _, r3, r4, _⟩ := C'
    rw [r1] at e1
    cases e1
    rw [r3] at e3
    cases e3
    rw [r4] at e4
    cases e4
    exact ⟨hP, k7, C⟩
  have at_ : ∀ {Q : Addr × Addr → Prop}, (∀ t ∈ ls, Q t.2) → ∀ p ∈ ls.map Prod.snd, Q p := fun h p hp => by
    obtain ⟨t, ht, rfl⟩ := List.mem_map.mp hp
    exact h t ht
  exact LamX.law_callTs (cs := ls.map Prod.snd) KX G.T.g G.T.b G.T.builtins G.T.nolimit hg (at_ fun t ht => (key t ht).1) (at_ fun t ht => (key t ht).2.1) (at_ fun t ht => (key t ht).2.2) G.T.bmain hobj hints (Nat.le_trans hlen (by decide)) ⟨rfl, by show (1 + claimMargin) + 3 * k + 5 < recursionLimit; unfold claimMargin recursionLimit; omega, by show _ + 16 * k + 200 < _; exact Nat.lt_of_le_of_lt (Nat.add_le_add_right (Nat.add_le_add_left (Nat.mul_le_mul_left 16 hk) _) 200) (by decide)⟩
    (fun base h1 h2 h3 => hF base h1 h2 fun t ht => h3 _ (List.mem_map.mpr ⟨t, ht, rfl⟩)) hb (fun H hH hS => law_sp (tabs_empty fun t ht => hH _ (List.mem_map.mpr ⟨t, ht, rfl⟩)) hS (hm ns hlen hbits)) fun H e s' z => by
      obtain ⟨_, _, _, _, _, _, _, _, _, _, _, _, z⟩ := z
      exact z.elim
end VL

/-! VL24: zip; x.clear() and x.append(y) where x has just been made. -/
namespace VL
open PySem PySem.Spec PyProof.Rows L2
/-! ### zip of two lists -/
def zipL (xs ys : List Dat) : List Dat := (xs.zip ys).map fun p => .tup [p.1, p.2]
def zipD : List Dat → Res (List Dat)
  | [.lst xs, .lst ys] => .ok (zipL xs ys)
  | _ => .stuck
section
variable {K : PySem.W.Frag} {g : Glob} {F : Hp}
theorem iters_zip {a b : Addr} {xs ys : List V} {ds es : List Dat} (ha : SqL K F a xs) (hb : SqL K F b ys) (r1 : Reps K g F xs ds) (r2 : Reps K g F ys es) : Iters K g F (Itz K a b) (zipL ds es) := by
  intro i F' H s1 s2
  have qa := (s1.trans s2).seq ha
  have qb := (s1.trans s2).seq hb
  refine ⟨fun d e => ?_, fun h => ⟨xs, ys, qa, qb, by rw [r1.length, r2.length]; unfold zipL at h; simp at h; omega⟩⟩
  unfold zipL at e
  rw [List.getElem?_map] at e
  cases q : (ds.zip es)[i]? with
  | none => rw [q] at e; cases e
  | some p =>
    rw [q] at e
    cases e
    obtain ⟨q1, q2⟩ := List.getElem?_zip_eq_some.mp q
    obtain ⟨v, h1, h2⟩ := r1.get q1
    obtain ⟨w, h3, h4⟩ := r2.get q2
    refine ⟨⟨xs, ys, v, w, qa, qb, h1, h3⟩, fun x H' ⟨T, y, z, e1, e2, e3, e4, e5⟩ => ?_⟩
    subst e1 e3
    have := e4 xs qa
    rw [h1] at this
    cases this
    have := e5 ys qb
    rw [h3] at this
    cases this
    have x1 := Ext.new (g := g) (o := .tup [v, w]) s2 e2
    exact ⟨_, x1, .tup (SqT.of upd_same) (.cons ((h2.mono s1).mono (x1.le s2)) (.cons ((h4.mono s1).mono (x1.le s2)) .nil))⟩
end
section
variable {X : Cx} {g : Glob} {W : WX}
theorem vi_zip {e e2 : Expr} {p pos tpos : Pos} {elts : List Expr} {kk : Nat} {f : Env → Res (List Dat)} (hm : X.mg "zip" = none) (ha : VA X g W [e, e2] f) (hg : Gl X "zip" := by rfl) (hs : starEach [e, e2] X.env = (false, eval e X.env) :: starEach [e2] X.env := by rfl) (hpl : (backTo pos (starEach [e2] X.env)).any (·.1) = false := by rfl) :
    VI X g W (.Tuple elts kk tpos) (.Call (.Name "zip" p) [e, e2] [] pos) (iArg zipD f) :=
  PI.imp (pi_zip hg hm ha hs hpl) fun σ H R ⟨ρ, F, s, p⟩ => ⟨ρ, F, s, (PostG.bind s p).imp fun xs H1 ⟨F1, ds, s1, rs, x1, p1⟩ => by
    unfold zipD at p1
    split at p1
    · cases rs with
      | cons ra rb =>
        cases rb with
        | cons rc rd =>
          cases rd
          cases ra with
          | lst a1 a2 =>
            cases rc with
            | lst b1 b2 => exact ⟨_, _, _, _, rfl, SqL.of (s1.sub _ _ a1), SqL.of (s1.sub _ _ b1), PostG.here s1.sub p1 (iters_zip (SqL.of a1) (SqL.of b1) a2 b2)⟩
    · exact p1.elim⟩
end
/-! ### all that stands below a datum -/
mutual
def subs : Dat → List Dat
  | .lst xs => .lst xs :: subsL xs
  | .tup xs => .tup xs :: subsL xs
  | .rls xs => .rls xs :: subsL xs
  | .dct kvs => .dct kvs :: subsK kvs
  | .ins C fs => .ins C fs :: subsF fs
  | d => [d]
def subsL : List Dat → List Dat
  | [] => []
  | d :: r => subs d ++ subsL r
def subsK : List (Key × Dat) → List Dat
  | [] => []
  | (_, d) :: r => subs d ++ subsK r
def subsF : List (Str × Dat) → List Dat
  | [] => []
  | (_, d) :: r => subs d ++ subsF r
end
theorem subs_self (d : Dat) : d ∈ subs d := by cases d <;> simp [subs]
theorem subsL_in {d e : Dat} : ∀ {l : List Dat}, d ∈ l → e ∈ subs d → e ∈ subsL l
  | x :: l, h, q => by
    rw [subsL, List.mem_append]
    rcases List.mem_cons.mp h with z | z
    · subst z; exact .inl q
    · exact .inr (subsL_in z q)
theorem subsK_in {d e : Dat} : ∀ {l : List (Key × Dat)}, d ∈ l.map Prod.snd → e ∈ subs d → e ∈ subsK l
  | (k, x) :: l, h, q => by
    rw [subsK, List.mem_append]
    rcases List.mem_cons.mp h with z | z
    · subst z; exact .inl q
    · exact .inr (subsK_in z q)
theorem subsF_in {d e : Dat} : ∀ {l : List (Str × Dat)}, d ∈ l.map Prod.snd → e ∈ subs d → e ∈ subsF l
  | (k, x) :: l, h, q => by
    rw [subsF, List.mem_append]
    rcases List.mem_cons.mp h with z | z
    · subst z; exact .inl q
    · exact .inr (subsF_in z q)
/-- the data right below -/
def kids : Dat → List Dat
  | .lst xs => xs
  | .tup xs => xs
  | .rls xs => xs
  | .dct kvs => kvs.map Prod.snd
  | .ins _ fs => fs.map Prod.snd
  | _ => []
theorem subs_kid {d k e : Dat} (h : k ∈ kids d) (q : e ∈ subs k) : e ∈ subs d := by
  cases d with
  | lst xs => rw [subs]; exact List.mem_cons_of_mem _ (subsL_in h q)
  | tup xs => rw [subs]; exact List.mem_cons_of_mem _ (subsL_in h q)
  | rls xs => rw [subs]; exact List.mem_cons_of_mem _ (subsL_in h q)
  | dct kvs => rw [subs]; exact List.mem_cons_of_mem _ (subsK_in h q)
  | ins C fs => rw [subs]; exact List.mem_cons_of_mem _ (subsF_in h q)
  | _ => cases h
section
variable (K : PySem.W.Frag) (g : Glob) (F : Hp)
/-- at a stands the datum e, below v that represents d -/
inductive Below : Dat → Addr → Dat → Prop
  | top {a : Addr} {d : Dat} : Rep K g F (.ref a) d → Below d a d
  | kid {d k : Dat} {b : Addr} {e : Dat} : k ∈ kids d → Below k b e → Below d b e
end
section
variable {K : PySem.W.Frag} {g : Glob} {F : Hp}
theorem Below.sub {d : Dat} {b : Addr} {e : Dat} (h : Below K g F d b e) : e ∈ subs d ∧ Rep K g F (.ref b) e := by
  induction h with
  | top r => exact ⟨subs_self _, r⟩
  | kid m _ ih => exact ⟨subs_kid m ih.1, ih.2⟩
open Classical in
noncomputable def cutH (F : Hp) (S : Addr → Prop) : Hp := fun a => if S a then F a else none
theorem cutH_in {S : Addr → Prop} {a : Addr} {o : HO} (h : F a = some o) (s : S a) : cutH F S a = some o := by unfold cutH; rw [if_pos s]; exact h
theorem cutH_out {S : Addr → Prop} {a : Addr} {o : HO} (h : cutH F S a = some o) : S a ∧ F a = some o := by
  unfold cutH at h
  by_cases s : S a
  · rw [if_pos s] at h; exact ⟨s, h⟩
  · rw [if_neg s] at h; cases h
theorem rd_cut {S : Addr → Prop} {a : Addr} {u : HO} (h : Rd F a u) (s : S a) : Rd (cutH F S) a u := by
  rcases h with h | ⟨o, h⟩
  · exact .inl (cutH_in h s)
  · exact .inr ⟨o, cutH_in h s⟩
theorem sqL_cut {S : Addr → Prop} {a : Addr} {xs : List V} (h : SqL K F a xs) (s : S a) : SqL K (cutH F S) a xs := by
  rcases h with h | h
  · exact .inl (rd_cut h s)
  · exact .inr h
theorem sqT_cut {S : Addr → Prop} {a : Addr} {xs : List V} (h : SqT K F a xs) (s : S a) : SqT K (cutH F S) a xs := by
  rcases h with h | h
  · exact .inl (rd_cut h s)
  · exact .inr h
theorem Rep.cut {S : Addr → Prop} {v : V} {d : Dat} (h : Rep K g F v d) : (∀ b e, Below K g F d b e → S b) → Rep K g (cutH F S) v d :=
  Rep.rec (motive_1 := fun v d _ => (∀ b e, Below K g F d b e → S b) → Rep K g (cutH F S) v d) (motive_2 := fun vs ds _ => (∀ k ∈ ds, ∀ b e, Below K g F k b e → S b) → Reps K g (cutH F S) vs ds)
    (fun _ => .non) (fun b _ => .bl b) (fun i _ => .int i) (fun x _ => .str x) (fun n _ => .ty n) (fun a _ => .opq a)
    (fun h rs ih q => .lst (cutH_in h (q _ _ (.top (.lst h rs)))) (ih fun k m b e z => q b e (.kid m z)))
    (fun h rs ih q => .rls (sqL_cut h (q _ _ (.top (.rls h rs)))) (ih fun k m b e z => q b e (.kid m z)))
    (fun h rs ih q => .tup (sqT_cut h (q _ _ (.top (.tup h rs)))) (ih fun k m b e z => q b e (.kid m z)))
    (fun h hk rs ih q => .dct (cutH_in h (q _ _ (.top (.dct h hk rs)))) hk (ih fun k m b e z => q b e (.kid m z)))
    (fun h hk rs ih q => .ins (cutH_in h (q _ _ (.top (.ins h hk rs)))) hk (ih fun k m b e z => q b e (.kid m z)))
    (fun _ => .nil) (fun _ _ a b q => .cons (a (q _ List.mem_cons_self)) (b fun k m => q k (List.mem_cons_of_mem _ m))) h
end
/-- whether what stands for d may stand for e, too -/
def clash : Dat → Dat → Bool
  | .lst (.str _ :: _), .lst (.tup _ :: _) => false
  | .lst (.dct _ :: _), .lst (.tup _ :: _) => false
  | .lst _, .lst _ => true
  | .lst _, .rls _ => true
  | .lst _, .opq _ => true
  | .lst _, _ => false
  | .dct ks, .dct ls => decide (ks.map Prod.fst = ls.map Prod.fst)
  | .dct _, .rls _ => true
  | .dct _, .opq _ => true
  | .dct _, _ => false
  | _, _ => true
/-- what an invariant tells of written tuples -/
def KnK (K : PySem.W.Frag) (H : Hp) : Prop := ∀ b o, K.lookup b = some o → o.cls = .type "tuple" → (∀ xs, H b ≠ some (.lst xs)) ∧ ∀ od kvs, H b ≠ some (.frz od (.dK kvs))
theorem knk_of {X : Cx} {pins : List (Addr × Obj)} {σ : St} {H : Hp} {s : Shared} (I : Inv X pins σ H s) : KnK X.K H := by
  intro b o hk hc
  have hg := I.kIn b o hk
  refine ⟨fun xs e => ?_, fun od kvs e => ?_⟩
  · obtain ⟨_, _, _, _, q⟩ := I.hok b _ e
    rw [hg] at q
    cases q
    exact absurd (Value.type.inj hc) (by decide)
  · obtain ⟨q, _, _, _, _, dd⟩ := I.hok b _ e
    obtain ⟨o', q1, q2⟩ := dd.typeIs
    rw [hg] at q1
    cases q1
    rw [hc] at q2
    exact absurd (Value.type.inj q2) (by decide)
/-- the value is new, if nothing that was there may stand for it -/
theorem new_of {K : PySem.W.Frag} {g : Glob} {F H Fs F1 H1 : Hp} {S : Addr → Prop} {a : Addr} {d : Dat} (hs : Fs = cutH F S) (sF : Same F H) (nt : ∀ a ps, F a ≠ some (.tbl ps)) (x : Ext g Fs H F1 H1) (kn : KnK K H1) (r : Rep K g F1 (.ref a) d) (hd : (∃ ds, d = .lst ds) ∨ ∃ ks, d = .dct ks) (hS : ∀ b, S b → ∃ e, Rep K g F (.ref b) e ∧ clash d e = false) : H a = none := by
  cases ha : H a with
  | none => rfl
  | some o =>
    exfalso
    have old : F1 a = Fs a := x.old a (by rw [ha]; simp)
    have keep : ∀ b u, F b = some u → H1 b = some u := fun b u e => x.keep b u (sF _ _ e) fun ps z => nt b ps (by rw [e, z])
    cases r with
    | @lst _ xs ds h rs =>
      rw [old, hs] at h
      obtain ⟨sa, fa⟩ := cutH_out h
      obtain ⟨e, re, cl⟩ := hS a sa
      cases re with
      | @lst _ ys es h' rs' =>
        rw [fa] at h'
        cases h'
        cases rs with
        | nil => cases rs'; cases cl
        | @cons v vs d ds r1 r2 =>
          cases rs' with
          | @cons _ _ e es r1' r2' =>
            cases r1 with
            | str z => cases r1'; cases cl
            | @dct b od kvs ks hb hk rk =>
              cases r1' with
              | tup ht _ =>
                have hb1 := x.sub _ _ hb
                rcases ht with (ht | ⟨o', ht⟩) | ⟨o', _, _, h1, h2, _⟩
                · rw [keep _ _ ht] at hb1; cases hb1
                · rw [keep _ _ ht] at hb1; cases hb1
                · exact (kn _ _ h1 h2).2 _ _ hb1
              | _ => cases cl
            | _ => cases cl
      | rls _ _ => cases ds <;> (try (rename_i q _; cases q)) <;> cases cl
      | opq => cases ds <;> (try (rename_i q _; cases q)) <;> cases cl
      | tup ht _ =>
        rcases ht with (ht | ⟨o', ht⟩) | ⟨o', _, _, h1, h2, _⟩
        · rw [fa] at ht; cases ht
        · rw [fa] at ht; cases ht
        · exact (kn _ _ h1 h2).1 _ (keep _ _ fa)
      | dct h' _ _ => rw [fa] at h'; cases h'
      | ins h' _ _ => rw [fa] at h'; cases h'
    | @dct _ od kvs ks h hk rs =>
      rw [old, hs] at h
      obtain ⟨sa, fa⟩ := cutH_out h
      obtain ⟨e, re, cl⟩ := hS a sa
      cases re with
      | lst h' _ => rw [fa] at h'; cases h'
      | rls _ _ => cases cl
      | opq => cases cl
      | tup ht _ =>
        rcases ht with (ht | ⟨o', ht⟩) | ⟨o', _, _, h1, h2, _⟩
        · rw [fa] at ht; cases ht
        · rw [fa] at ht; cases ht
        · exact (kn _ _ h1 h2).2 _ _ (keep _ _ fa)
      | dct h' hk' _ =>
        rw [fa] at h'
        cases h'
        simp only [clash, decide_eq_false_iff_not] at cl
        exact cl (hk.symm.trans hk')
      | ins h' _ _ => rw [fa] at h'; cases h'
    | _ => rcases hd with ⟨_, z⟩ | ⟨_, z⟩ <;> cases z
/-! ### the statement -/
def viewUF (us : List Nat) : Nat → SEnv → Env
  | _, [] => []
  | n, some (.frz d) :: r => (if n ∈ us then some d else none) :: viewUF us (n + 1) r
  | n, some (.own _) :: r => none :: viewUF us (n + 1) r
  | n, none :: r => none :: viewUF us (n + 1) r
theorem viewUF_len (us : List Nat) : ∀ (ρ : SEnv) (n : Nat), (viewUF us n ρ).length = ρ.length
  | [], _ => rfl
  | some (.frz d) :: r, n => by simp [viewUF, viewUF_len us r]
  | some (.own d) :: r, n => by simp [viewUF, viewUF_len us r]
  | none :: r, n => by simp [viewUF, viewUF_len us r]
theorem viewUF_get (us : List Nat) : ∀ (ρ : SEnv) (n i : Nat) (d : Dat), (viewUF us n ρ)[i]? = some (some d) → ρ[i]? = some (some (.frz d))
  | [], _, i, d, h => by simp [viewUF] at h
  | some (.frz e) :: r, n, 0, d, h => by
    by_cases q : n ∈ us
    · simpa [viewUF, q] using h
    · simp [viewUF, q] at h
  | some (.own e) :: r, n, 0, d, h => by simp [viewUF] at h
  | none :: r, n, 0, d, h => by simp [viewUF] at h
  | some (.frz e) :: r, n, i + 1, d, h => by rw [viewUF, List.getElem?_cons_succ] at h; rw [List.getElem?_cons_succ]; exact viewUF_get us r (n + 1) i d h
  | some (.own e) :: r, n, i + 1, d, h => by rw [viewUF, List.getElem?_cons_succ] at h; rw [List.getElem?_cons_succ]; exact viewUF_get us r (n + 1) i d h
  | none :: r, n, i + 1, d, h => by rw [viewUF, List.getElem?_cons_succ] at h; rw [List.getElem?_cons_succ]; exact viewUF_get us r (n + 1) i d h
def isLD : Dat → Bool
  | .lst _ => true
  | .dct _ => true
  | _ => false
def newIn (ρ : Env) (d : Dat) : Bool := isLD d && ρ.all fun o => match o with
  | some e => (subs e).all fun s => !clash d s
  | none => true
/-- x.clear(), where x has just been made of what stands in the slots us -/
def sSpoil (us : List Nat) (f : Env → Res Dat) : SEnv → SRes := fun ρ => match f (viewUF us 0 ρ) with
  | .ok d => if newIn (viewUF us 0 ρ) d = true then .next ρ else .stuck
  | _ => .stuck
/-- x.append(y), y flat -/
def sSpoilA (us : List Nat) (f : Env → Res Dat) : SEnv → SRes := fun ρ => match f (viewUF us 0 ρ) with
  | .ok (.lst ds) => if newIn (viewUF us 0 ρ) (.lst ds) = true ∧ ds.length ≤ 1000 then .next ρ else .stuck
  | _ => .stuck
section
variable {X : Cx} {g : Glob} {W : WX} {F0 H0 : Hp}
theorem PE.or {e : Expr} {t1 t2 : TE} (h1 : PE X e t1) (h2 : PE X e t2) : PE X e (fun σ H Q => t1 σ H Q ∨ t2 σ H Q) := ⟨fun pins s σ H Q I h => h.elim (h1.run pins s σ H Q I) (h2.run pins s σ H Q I)⟩
/-- what is told of it is known, and it may be unlocked if it is new -/
def tSp (K : PySem.W.Frag) (t : TE) : TE := fun σ H Q => t σ H fun v H1 => KnK K H1 → (Q v H1 ∨ ∃ a od u, v = .ref a ∧ H1 a = some (.frz od u) ∧ H a = none ∧ Q v (upd H1 a u))
theorem pe_sp {e : Expr} {t : TE} (h : PE X e t) : PE X e (tSp X.K t) := ⟨fun pins s σ H Q I hw => thn (h.run pins s σ H _ I hw) fun u s1 ⟨v, H1, I1, r, q⟩ => by
  rcases q (knk_of I1) with q | ⟨a, od, w, e1, e2, e3, q⟩
  · exact ⟨v, H1, I1, r, q⟩
  · refine ⟨v, _, I1.unlock e2 (fun o' u' z => ?_), r, q⟩
    have := I.base.frzs a o' u' z
    rw [e3] at this
    cases this⟩
theorem Ext.still {F Fs H F1 H1 : Hp} (x : Ext g Fs H F1 H1) (s : Same F H) (nt : ∀ a ps, F a ≠ some (.tbl ps)) : Ext g F H F H1 :=
  ⟨x.keep, x.dom, x.tabs, fun a o e => x.keep a o (s a o e) fun ps z => nt a ps (by rw [e, z]), fun _ _ => rfl, fun _ _ e => e⟩
/-- something new is changed -/
theorem SRel.spoil {K : PySem.W.Frag} {F Fs H F1 H1 : Hp} {σ : St} {ρ : SEnv} {a : Addr} {o u : HO} (r : SRel K g F0 H0 F H σ ρ) (x : Ext g Fs H F1 H1) (hn : H a = none) (ha : H1 a = some o) (po : Plain o) : SRel K g F0 H0 F (upd H1 a u) σ ρ := by
  have x1 := x.still r.sub r.nt
  have x2 := r.ext.trans x1
  have x3 : Ext g F0 H0 F (upd H1 a u) := x2.putO (r.ext.free hn) (sub_none r.sub hn) ha po
  refine ⟨tabs_put (x.tabs r.tabs) ha po, r.nt, x3, r.len, r.frz, fun i ds e => ?_, r.sep⟩
  obtain ⟨p, vs, h1, h2, h3, h4, h5⟩ := r.own i ds e
  refine ⟨p, vs, h1, ?_, h3, h4, h5⟩
  rw [upd_ne (ne_of_none h2 hn)]
  exact x.keep _ _ h2 (by intro _ z; cases z)
theorem plain_lst {xs : List V} : Plain (.lst xs) := ⟨fun _ z => (by cases z), fun _ _ z => (by unfold LamX.CodeO at z; cases z)⟩
/-- the evaluation of what is to be spoilt -/
theorem spoil_eval {K : PySem.W.Frag} {F H : Hp} {σ : St} {ρ : SEnv} {us : List Nat} {f : Env → Res Dat} {d : Dat} {Q : V → Hp → Prop} (r : SRel K g F0 H0 F H σ ρ) (e : f (viewUF us 0 ρ) = .ok d) (hn : newIn (viewUF us 0 ρ) d = true)
    (k : ∀ a H1 F1 Fs, Ext g Fs H F1 H1 → Rep K g F1 (.ref a) d → (KnK K H1 → H a = none) → Q (.ref a) H1) : tV K g W f σ H Q := by
  have S : Addr → Prop := fun a => ∃ (i : Nat) (d' : Dat) (e' : Dat), (viewUF us 0 ρ)[i]? = some (some d') ∧ Below K g F d' a e'
  generalize hS : (fun a => ∃ (i : Nat) (d' : Dat) (e' : Dat), (viewUF us 0 ρ)[i]? = some (some d') ∧ Below K g F d' a e') = S at *
  simp only [newIn, Bool.and_eq_true] at hn
  have hd : (∃ ds, d = .lst ds) ∨ ∃ ks, d = .dct ks := by
    cases d <;> first | exact .inl ⟨_, rfl⟩ | exact .inr ⟨_, rfl⟩ | cases hn.1
  have st : Stt K g (cutH F S) H σ (viewUF us 0 ρ) := by
    refine ⟨fun a o h => r.sub _ _ (cutH_out h).2, r.tabs, fun i d' h => ?_, by rw [viewUF_len]; exact r.len, fun a ps h => r.nt a ps (cutH_out h).2⟩
    obtain ⟨v, h1, h2⟩ := r.frz i d' (viewUF_get us ρ 0 i d' h)
    refine ⟨v, h1, h2.cut fun b e' hb => ?_⟩
    rw [← hS]
    exact ⟨i, d', e', h, hb⟩
  refine ⟨_, _, st, ?_⟩
  rw [e]
  intro v H1 F1 x rv
  have ref : ∃ a, v = .ref a := by
    rcases hd with ⟨_, rfl⟩ | ⟨_, rfl⟩ <;> cases rv <;> exact ⟨_, rfl⟩
  obtain ⟨a, rfl⟩ := ref
  refine k a H1 F1 _ x rv fun kn => new_of rfl r.sub r.nt x kn rv hd fun b hb => ?_
  rw [← hS] at hb
  obtain ⟨i, d', e', h1, h2⟩ := hb
  obtain ⟨q1, q2⟩ := h2.sub
  refine ⟨e', q2, ?_⟩
  have := List.all_eq_true.mp hn.2 _ (List.mem_of_getElem? h1)
  have := List.all_eq_true.mp this _ q1
  simpa using this
theorem vs_spoil {o : Expr} {apos cpos pos : Pos} {f : Env → Res Dat} (us : List Nat) (ho : VE X g W o f) (hbase : attributeBase o "clear" X.env (eval o X.env) = eval o X.env := by rfl) (hline : (apos.endLine == cpos.line) = true := by rfl) (hs : swapsWith (.Call (.Attribute o "clear" apos) [] [] cpos) none pos.line X.env = pure false := by rfl) :
    VS X g W F0 H0 (.Expr (.Call (.Attribute o "clear" apos) [] [] cpos) pos) (sSpoil us f) :=
  PS.imp (ps_expr (PE.or (pe_bm0 PySem.F.plainAttrs_list PySem.F.slot_list_clear PySem.F.type_list_clear mt_clear (pe_sp ho) hbase hline) (pe_dclear (pe_sp ho) hbase hline)) hs) fun D σ H ⟨ρ, F, r, p⟩ => by
    unfold sSpoil at p
    cases e : f (viewUF us 0 ρ) with
    | stuck => rw [e] at p; exact p.elim
    | exc c => rw [e] at p; exact p.elim
    | ok d =>
      rw [e] at p
      dsimp only at p
      by_cases hn : newIn (viewUF us 0 ρ) d = true
      case neg => rw [if_neg hn] at p; exact p.elim
      rw [if_pos hn] at p
      have hd : (∃ ds, d = .lst ds) ∨ ∃ ks, d = .dct ks := by
        have := hn
        simp only [newIn, Bool.and_eq_true] at this
        cases d <;> first | exact .inl ⟨_, rfl⟩ | exact .inr ⟨_, rfl⟩ | cases this.1
      rcases hd with ⟨ds, rfl⟩ | ⟨ks, rfl⟩
      · refine .inl (spoil_eval r e hn fun a H1 F1 Fs x rv hnew kn => .inl ?_)
        have ha := hnew kn
        cases rv with
        | @lst _ xs _ h rs =>
          have h1 := x.sub _ _ h
          exact ⟨.inl ⟨rfl, xs, SqL.of h1⟩, a, xs, rfl, rfl, h1, p _ _ F (r.spoil x ha h1 plain_lst) (Same.refl F)⟩
      · refine .inr (spoil_eval r e hn fun a H1 F1 Fs x rv hnew kn => .inr ?_)
        have ha := hnew kn
        cases rv with
        | @dct _ od kvs _ h hk rs =>
          have h1 := x.sub _ _ h
          refine ⟨a, od, .dK kvs, rfl, h1, ha, .inr (.inr (.inl ⟨rfl, .inl ⟨kvs, upd_same⟩⟩)), a, kvs, rfl, rfl, upd_same, ?_⟩
          rw [upd_upd]
          exact p _ _ F (r.spoil x ha h1 plain_frz) (Same.refl F)
theorem vs_spoilA {o : Expr} {apos cpos pos p1 : Pos} {j} {f : Env → Res Dat} (us : List Nat) (ho : VE X g W o f) (hbase : attributeBase o "append" X.env (eval o X.env) = eval o X.env := by rfl) (hline : (apos.endLine == cpos.line) = true := by rfl) (hs : swapsWith (.Call (.Attribute o "append" apos) [.Constant .none j p1] [] cpos) none pos.line X.env = pure false := by rfl)
    (hs1 : starEach [.Constant .none j p1] X.env = (false, eval (.Constant .none j p1) X.env) :: starEach [] X.env := by rfl)
    (hfew : ((backTo cpos (starEach [.Constant .none j p1] X.env)).all (fun x => !x.1) && (backToKw cpos (keywordEach [] X.env)).all (fun x => x.1.isSome) && decide (([.Constant .none j p1] : List Expr).length + ([] : List Keyword).length + (if ([] : List Keyword).isEmpty then 0 else 1) < 30)) = true := by rfl) :
    VS X g W F0 H0 (.Expr (.Call (.Attribute o "append" apos) [.Constant .none j p1] [] cpos) pos) (sSpoilA us f) :=
  PS.imp (ps_expr (pe_bm PySem.F.plainAttrs_list PySem.F.slot_list_append PySem.F.type_list_append mt_append (pe_sp ho) (pa_cons pe_non pa_nil hs1) hbase hfew hline hs1 rfl) hs) fun D σ H ⟨ρ, F, r, p⟩ => by
    unfold sSpoilA at p
    split at p
    · rename_i ds e
      by_cases hn : newIn (viewUF us 0 ρ) (.lst ds) = true ∧ ds.length ≤ 1000
      case neg => rw [if_neg hn] at p; exact p.elim
      rw [if_pos hn] at p
      refine spoil_eval r e hn.1 fun a H1 F1 Fs x rv hnew kn => .inl ?_
      have ha := hnew kn
      cases rv with
      | @lst _ xs _ h rs =>
        have h1 := x.sub _ _ h
        have hl := rs.length
        exact ⟨.inl ⟨rfl, xs, SqL.of h1⟩, a, xs, .non, rfl, rfl, h1, Nat.lt_of_lt_of_le (show xs.length < 1001 by omega) (by decide), p _ _ F (r.spoil x ha h1 plain_lst) (Same.refl F)⟩
    · exact p.elim
end
end VL

namespace RM
open PySem PySem.Spec PyProof.Rows L2 VL L2H HotX
abbrev Env := VL.Env

def b_is_count : SEnv → SRes :=
  (sRet [] (eAnd (eCall isiD (aCons (eVar 0) (aCons (eC (.ty "int")) aNil))) (eAnd (eNot (eCall isiD (aCons (eVar 0) (aCons (eC (.ty "bool")) aNil)))) (eChain leD leD (eVar 1) (eVar 0) (eVar 2)))))
def m_is_count : List Dat → Res Dat := defD 3 3 b_is_count
theorem o_is_count (x0 x1 x2 : Dat) : m_is_count [x0, x1, x2] = retOf (b_is_count [some (.frz x0), some (.frz x1), some (.frz x2)]) := Eq.trans (show m_is_count [x0, x1, x2] = retOf (b_is_count (startS 3 [x0, x1, x2])) from defD_open (n := 3) rfl) rfl
def b_need_draws : SEnv → SRes :=
  (sIf [] (bNot (eTest (eVar 0))) (sRaise "BadDraw") sNext)
def m_need_draws : List Dat → Res Dat := defD 1 1 b_need_draws
theorem o_need_draws (x0 : Dat) : m_need_draws [x0] = retOf (b_need_draws [some (.frz x0)]) := Eq.trans (show m_need_draws [x0] = retOf (b_need_draws (startS 1 [x0])) from defD_open (n := 1) rfl) rfl
def b_draw : SEnv → SRes :=
  (sSeq (sSet 4 [] (eBin modD (eBin mulD (eBin addD (eBin addD (eBin addD (eBin addD (eBin mulD (eVar 0) (eC (.int 7919))) (eBin mulD (eVar 1) (eC (.int 104729)))) (eBin mulD (eVar 2) (eC (.int 1299709)))) (eBin mulD (eVar 3) (eC (.int 15485863)))) (eC (.int 1))) (eC (.int 48271))) (eC (.int 2147483647)))) (sRet [] (eBin modD (eBin addD (eBin addD (eBin mulD (eVar 4) (eVar 4)) (eBin mulD (eC (.int 7)) (eVar 4))) (eVar 3)) (eC (.int 2147483629)))))
def m_draw : List Dat → Res Dat := defD 4 5 b_draw
theorem o_draw (x0 x1 x2 x3 : Dat) : m_draw [x0, x1, x2, x3] = retOf (b_draw [some (.frz x0), some (.frz x1), some (.frz x2), some (.frz x3), none]) := Eq.trans (show m_draw [x0, x1, x2, x3] = retOf (b_draw (startS 5 [x0, x1, x2, x3])) from defD_open (n := 4) rfl) rfl
def b_drawn : SEnv → SRes :=
  (sSeq (sExpr [] (eCall m_need_draws (aCons (eCall m_is_count (aCons (eVar 0) (aCons (eC (.int 0)) (aCons (eC (.int 999999)) aNil)))) aNil))) (sSeq (sExpr [] (eCall m_need_draws (aCons (eAnd (eCall m_is_count (aCons (eVar 1) (aCons (eC (.int 0)) (aCons (eC (.int 99)) aNil)))) (eAnd (eCall m_is_count (aCons (eVar 2) (aCons (eC (.int 0)) (aCons (eC (.int 99)) aNil)))) (eCall m_is_count (aCons (eVar 3) (aCons (eC (.int 0)) (aCons (eC (.int 99)) aNil)))))) aNil))) (sRet [] (eCall m_draw (aCons (eVar 0) (aCons (eVar 1) (aCons (eVar 2) (aCons (eVar 3) aNil))))))))
def m_drawn : List Dat → Res Dat := defD 4 4 b_drawn
theorem o_drawn (x0 x1 x2 x3 : Dat) : m_drawn [x0, x1, x2, x3] = retOf (b_drawn [some (.frz x0), some (.frz x1), some (.frz x2), some (.frz x3)]) := Eq.trans (show m_drawn [x0, x1, x2, x3] = retOf (b_drawn (startS 4 [x0, x1, x2, x3])) from defD_open (n := 4) rfl) rfl
def b_word_of : SEnv → SRes :=
  (sSeq (sSet 3 [] (eBin addD (eVar 1) (eBin modD (eVar 0) (eBin addD (eBin subD (eVar 2) (eVar 1)) (eC (.int 1)))))) (sSeq (sSet 0 [] (eBin fdivD (eVar 0) (eBin addD (eBin subD (eVar 2) (eVar 1)) (eC (.int 1))))) (sSeq (sSet 4 [] (eC (.str ""))) (sSeq (sFor [] (iArg rng1D (aCons (eVar 3) aNil)) (.nm 5) (sSeq (sSet 4 [] (eBin addD (eVar 4) (eBin ixD (eC (.str "abcdefghijklmnopqrstuvwxyz")) (eBin modD (eVar 0) (eC (.int 26)))))) (sSet 0 [] (eBin fdivD (eVar 0) (eC (.int 26)))))) (sRet [] (eVar 4))))))
def m_word_of : List Dat → Res Dat := defD 3 6 b_word_of
theorem o_word_of (x0 x1 x2 : Dat) : m_word_of [x0, x1, x2] = retOf (b_word_of [some (.frz x0), some (.frz x1), some (.frz x2), none, none, none]) := Eq.trans (show m_word_of [x0, x1, x2] = retOf (b_word_of (startS 6 [x0, x1, x2])) from defD_open (n := 3) rfl) rfl
def b_shared_of : SEnv → SRes :=
  (sSeq (sSet 2 [] (eBin modD (eVar 0) (eCall sumD (aCons (eVar 1) aNil)))) (sSeq (sSet 3 [] (eC (.int 0))) (sSeq (sWhile 4096 [] (eTest (eBin geD (eVar 2) (eBin ixD (eVar 1) (eVar 3)))) (sSeq (sSet 2 [] (eBin subD (eVar 2) (eBin ixD (eVar 1) (eVar 3)))) (sSet 3 [] (eBin addD (eVar 3) (eC (.int 1)))))) (sRet [] (eVar 3)))))
def m_shared_of : List Dat → Res Dat := defD 2 4 b_shared_of
theorem o_shared_of (x0 x1 : Dat) : m_shared_of [x0, x1] = retOf (b_shared_of [some (.frz x0), some (.frz x1), none, none]) := Eq.trans (show m_shared_of [x0, x1] = retOf (b_shared_of (startS 4 [x0, x1])) from defD_open (n := 2) rfl) rfl
def b_divides_both : SEnv → SRes :=
  (sSeq (sWhile 4096 [] (eTest (eBin neD (eVar 1) (eC (.int 0)))) (sPar 0 1 [] (aCons (eVar 1) (aCons (eBin modD (eVar 0) (eVar 1)) aNil)))) (sRet [] (eVar 0)))
def m_divides_both : List Dat → Res Dat := defD 2 2 b_divides_both
theorem o_divides_both (x0 x1 : Dat) : m_divides_both [x0, x1] = retOf (b_divides_both [some (.frz x0), some (.frz x1)]) := Eq.trans (show m_divides_both [x0, x1] = retOf (b_divides_both (startS 2 [x0, x1])) from defD_open (n := 2) rfl) rfl
def b_spread_of : SEnv → SRes :=
  (sSeq (sSet 3 [] (eBin addD (eC (.int 1)) (eBin modD (eBin fdivD (eVar 0) (eVar 2)) (eVar 2)))) (sSeq (sWhile 4096 [] (eTest (eBin neD (eCall m_divides_both (aCons (eVar 3) (aCons (eVar 2) aNil))) (eC (.int 1)))) (sSet 3 [] (eBin addD (eVar 3) (eC (.int 1))))) (sRet [] (eBin modD (eBin addD (eBin modD (eVar 0) (eVar 2)) (eBin mulD (eVar 1) (eVar 3))) (eVar 2)))))
def m_spread_of : List Dat → Res Dat := defD 3 4 b_spread_of
theorem o_spread_of (x0 x1 x2 : Dat) : m_spread_of [x0, x1, x2] = retOf (b_spread_of [some (.frz x0), some (.frz x1), some (.frz x2), none]) := Eq.trans (show m_spread_of [x0, x1, x2] = retOf (b_spread_of (startS 4 [x0, x1, x2])) from defD_open (n := 3) rfl) rfl
def b_need_plans : SEnv → SRes :=
  (sIf [] (bNot (eTest (eVar 0))) (sRaise "BadPlan") sNext)
def m_need_plans : List Dat → Res Dat := defD 1 1 b_need_plans
theorem o_need_plans (x0 : Dat) : m_need_plans [x0] = retOf (b_need_plans [some (.frz x0)]) := Eq.trans (show m_need_plans [x0] = retOf (b_need_plans (startS 1 [x0])) from defD_open (n := 1) rfl) rfl
def b_is_word : SEnv → SRes :=
  (sRet [] (eAnd (eCall isiD (aCons (eVar 0) (aCons (eC (.ty "str")) aNil))) (eAnd (eChain leD leD (eC (.int 1)) (eCall lenD (aCons (eVar 0) aNil)) (eVar 1)) (eCall allD (aCons (eLc (iSeq (eVar 0)) (.nm 2) bYes (eBin inD (eVar 2) (eC (.str "abcdefghijklmnopqrstuvwxyz"))) [2]) aNil)))))
def m_is_word : List Dat → Res Dat := defD 2 3 b_is_word
theorem o_is_word (x0 x1 : Dat) : m_is_word [x0, x1] = retOf (b_is_word [some (.frz x0), some (.frz x1), none]) := Eq.trans (show m_is_word [x0, x1] = retOf (b_is_word (startS 3 [x0, x1])) from defD_open (n := 2) rfl) rfl
def b_is_option : SEnv → SRes :=
  (sSeq (sSet 1 [] (eAnd (eCall isiD (aCons (eVar 0) (aCons (eC (.ty "tuple")) aNil))) (eBin eqD (eCall lenD (aCons (eVar 0) aNil)) (eC (.int 2))))) (sRet [] (eAnd (eVar 1) (eAnd (eCall m_is_word (aCons (eBin ixD (eVar 0) (eC (.int 0))) (aCons (eC (.int 6)) aNil))) (eCall m_is_count (aCons (eBin ixD (eVar 0) (eC (.int 1))) (aCons (eC (.int 1)) (aCons (eC (.int 9)) aNil))))))))
def m_is_option : List Dat → Res Dat := defD 1 2 b_is_option
theorem o_is_option (x0 : Dat) : m_is_option [x0] = retOf (b_is_option [some (.frz x0), none]) := Eq.trans (show m_is_option [x0] = retOf (b_is_option (startS 2 [x0])) from defD_open (n := 1) rfl) rfl
def b_are_options : SEnv → SRes :=
  (sSeq (sIf [] (bOr (bNot (eTest (eCall isiD (aCons (eVar 0) (aCons (eC (.ty "tuple")) aNil))))) (bNot (eTest (eChain leD leD (eC (.int 1)) (eCall lenD (aCons (eVar 0) aNil)) (eC (.int 4)))))) (sRet [] (eC (.bl false))) sNext) (sSeq (sIf [] (bNot (eTest (eCall allD (aCons (eLc (iSeq (eVar 0)) (.nm 1) bYes (eCall m_is_option (aCons (eVar 1) aNil)) [1]) aNil)))) (sRet [] (eC (.bl false))) sNext) (sRet [] (eBin eqD (eUn countD (eLc (iSeq (eVar 0)) (.nm 1) bYes (eBin ixD (eVar 1) (eC (.int 0))) [1])) (eCall lenD (aCons (eVar 0) aNil))))))
def m_are_options : List Dat → Res Dat := defD 1 2 b_are_options
theorem o_are_options (x0 : Dat) : m_are_options [x0] = retOf (b_are_options [some (.frz x0), none]) := Eq.trans (show m_are_options [x0] = retOf (b_are_options (startS 2 [x0])) from defD_open (n := 1) rfl) rfl
def b_is_range : SEnv → SRes :=
  (sRet [] (eAnd (eCall m_is_count (aCons (eVar 0) (aCons (eVar 2) (aCons (eVar 3) aNil)))) (eAnd (eCall m_is_count (aCons (eVar 1) (aCons (eVar 2) (aCons (eVar 3) aNil)))) (eBin leD (eVar 0) (eVar 1)))))
def m_is_range : List Dat → Res Dat := defD 4 4 b_is_range
theorem o_is_range (x0 x1 x2 x3 : Dat) : m_is_range [x0, x1, x2, x3] = retOf (b_is_range [some (.frz x0), some (.frz x1), some (.frz x2), some (.frz x3)]) := Eq.trans (show m_is_range [x0, x1, x2, x3] = retOf (b_is_range (startS 4 [x0, x1, x2, x3])) from defD_open (n := 4) rfl) rfl
def b_rule_kind : SEnv → SRes :=
  (sSeq (sSet 2 [] (eLc (iSeq (eVar 0)) (.tp [(.nm 3), (.nm 4)]) (eTest (eBin eqD (eVar 3) (eVar 1))) (eBin ixD (eVar 4) (eC (.int 0))) [3, 4])) (sRet [] (eIf (eTest (eBin neD (eVar 2) (eLst aNil))) (eBin ixD (eVar 2) (eC (.int 0))) (eC .non))))
def m_rule_kind : List Dat → Res Dat := defD 2 5 b_rule_kind
theorem o_rule_kind (x0 x1 : Dat) : m_rule_kind [x0, x1] = retOf (b_rule_kind [some (.frz x0), some (.frz x1), none, none, none]) := Eq.trans (show m_rule_kind [x0, x1] = retOf (b_rule_kind (startS 5 [x0, x1])) from defD_open (n := 2) rfl) rfl
def b_is_plain_rule : SEnv → SRes :=
  (sSeq (sSet 2 [] (eBin ixD (eVar 0) (eC (.int 0)))) (sSeq (sIf [] (eTest (eBin eqD (eVar 2) (eC (.str "num")))) (sRet [] (eCall m_is_range (aCons (eBin ixD (eVar 0) (eC (.int 1))) (aCons (eBin ixD (eVar 0) (eC (.int 2))) (aCons (eBin subD (eC (.int 0)) (eC (.int 999))) (aCons (eC (.int 999)) aNil)))))) sNext) (sSeq (sIf [] (eTest (eBin eqD (eVar 2) (eC (.str "word")))) (sRet [] (eCall m_is_range (aCons (eBin ixD (eVar 0) (eC (.int 1))) (aCons (eBin ixD (eVar 0) (eC (.int 2))) (aCons (eC (.int 1)) (aCons (eC (.int 6)) aNil)))))) sNext) (sSeq (sIf [] (eTest (eBin eqD (eVar 2) (eC (.str "unlike")))) (sRet [] (eAnd (eCall m_is_range (aCons (eBin ixD (eVar 0) (eC (.int 1))) (aCons (eBin ixD (eVar 0) (eC (.int 2))) (aCons (eBin subD (eC (.int 0)) (eC (.int 999))) (aCons (eC (.int 999)) aNil))))) (eBin geD (eBin addD (eBin subD (eBin ixD (eVar 0) (eC (.int 2))) (eBin ixD (eVar 0) (eC (.int 1)))) (eC (.int 1))) (eVar 1)))) sNext) (sSeq (sIf [] (eTest (eBin eqD (eVar 2) (eC (.str "pick")))) (sRet [] (eCall m_are_options (aCons (eBin ixD (eVar 0) (eC (.int 1))) aNil))) sNext) (sSeq (sIf [] (eTest (eBin eqD (eVar 2) (eC (.str "flag")))) (sRet [] (eCall m_is_count (aCons (eBin ixD (eVar 0) (eC (.int 1))) (aCons (eC (.int 0)) (aCons (eC (.int 100)) aNil))))) sNext) (sRet [] (eAnd (eCall m_is_count (aCons (eBin ixD (eVar 0) (eC (.int 1))) (aCons (eBin subD (eC (.int 0)) (eC (.int 999))) (aCons (eC (.int 999)) aNil)))) (eCall m_is_count (aCons (eBin ixD (eVar 0) (eC (.int 2))) (aCons (eBin subD (eC (.int 0)) (eC (.int 999))) (aCons (eC (.int 999)) aNil))))))))))))
def m_is_plain_rule : List Dat → Res Dat := defD 2 3 b_is_plain_rule
theorem o_is_plain_rule (x0 x1 : Dat) : m_is_plain_rule [x0, x1] = retOf (b_is_plain_rule [some (.frz x0), some (.frz x1), none]) := Eq.trans (show m_is_plain_rule [x0, x1] = retOf (b_is_plain_rule (startS 3 [x0, x1])) from defD_open (n := 2) rfl) rfl
def b_is_rule : SEnv → SRes :=
  (sSeq (sIf [] (bOr (bNot (eTest (eCall isiD (aCons (eVar 0) (aCons (eC (.ty "tuple")) aNil))))) (bOr (eTest (eBin eqD (eVar 0) (eTup aNil))) (bNot (eTest (eCall isiD (aCons (eBin ixD (eVar 0) (eC (.int 0))) (aCons (eC (.ty "str")) aNil))))))) (sRet [] (eC (.bl false))) sNext) (sSeq (sIf [] (bOr (eTest (eUn (notInKD [("num", 3), ("pick", 2), ("word", 3), ("flag", 2), ("link", 2), ("serial", 3), ("sum", 3), ("copy", 3), ("unlike", 3)]) (eBin ixD (eVar 0) (eC (.int 0))))) (eTest (eBin neD (eCall lenD (aCons (eVar 0) aNil)) (eUn (itemKD [("num", 3), ("pick", 2), ("word", 3), ("flag", 2), ("link", 2), ("serial", 3), ("sum", 3), ("copy", 3), ("unlike", 3)]) (eBin ixD (eVar 0) (eC (.int 0))))))) (sRet [] (eC (.bl false))) sNext) (sSeq (sSet 4 [] (eLc (iSeq (eVar 2)) (.tp [(.nm 6), (.nm 7), (.nm 8)]) bYes (eVar 6) [6, 7, 8])) (sSeq (sIf [] (eTest (eBin eqD (eBin ixD (eVar 0) (eC (.int 0))) (eC (.str "link")))) (sRet [] (eAnd (eCall isiD (aCons (eBin ixD (eVar 0) (eC (.int 1))) (aCons (eC (.ty "str")) aNil))) (eBin inD (eBin ixD (eVar 0) (eC (.int 1))) (eVar 4)))) sNext) (sSeq (sIf [] (eTest (eBin notInD (eBin ixD (eVar 0) (eC (.int 0))) (eTup (aCons (eC (.str "sum")) (aCons (eC (.str "copy")) aNil))))) (sRet [] (eCall m_is_plain_rule (aCons (eVar 0) (aCons (eVar 1) aNil)))) sNext) (sSeq (sIf [] (bOr (bNot (eTest (eCall isiD (aCons (eBin ixD (eVar 0) (eC (.int 1))) (aCons (eC (.ty "str")) aNil))))) (bNot (eTest (eCall isiD (aCons (eBin ixD (eVar 0) (eC (.int 2))) (aCons (eC (.ty "str")) aNil)))))) (sRet [] (eC (.bl false))) sNext) (sSeq (sIf [] (eTest (eBin eqD (eBin ixD (eVar 0) (eC (.int 0))) (eC (.str "sum")))) (sRet [] (eAnd (eBin inD (eCall m_rule_kind (aCons (eVar 3) (aCons (eBin ixD (eVar 0) (eC (.int 1))) aNil))) (eC (.tup [(.str "num"), (.str "serial"), (.str "sum"), (.str "unlike")]))) (eBin inD (eCall m_rule_kind (aCons (eVar 3) (aCons (eBin ixD (eVar 0) (eC (.int 2))) aNil))) (eC (.tup [(.str "num"), (.str "serial"), (.str "sum"), (.str "unlike")]))))) sNext) (sSeq (sIf [] (eTest (eBin neD (eCall m_rule_kind (aCons (eVar 3) (aCons (eBin ixD (eVar 0) (eC (.int 1))) aNil))) (eC (.str "link")))) (sRet [] (eC (.bl false))) sNext) (sSeq (sSet 5 [] (eBin ixD (eBin ixD (eLc (iSeq (eVar 3)) (.tp [(.nm 6), (.nm 8)]) (eTest (eBin eqD (eVar 6) (eBin ixD (eVar 0) (eC (.int 1))))) (eVar 8) [6, 8]) (eC (.int 0))) (eC (.int 1)))) (sRet [] (eUn notND (eCall m_rule_kind (aCons (eBin ixD (eBin ixD (eVar 2) (eMth isLstD indexD (eVar 4) (eVar 5))) (eC (.int 2))) (aCons (eBin ixD (eVar 0) (eC (.int 2))) aNil))))))))))))))
def m_is_rule : List Dat → Res Dat := defD 4 9 b_is_rule
theorem o_is_rule (x0 x1 x2 x3 : Dat) : m_is_rule [x0, x1, x2, x3] = retOf (b_is_rule [some (.frz x0), some (.frz x1), some (.frz x2), some (.frz x3), none, none, none, none, none]) := Eq.trans (show m_is_rule [x0, x1, x2, x3] = retOf (b_is_rule (startS 9 [x0, x1, x2, x3])) from defD_open (n := 4) rfl) rfl
def b_look_columns : SEnv → SRes :=
  (sSeq (sExpr [] (eCall m_need_plans (aCons (eAnd (eCall isiD (aCons (eVar 0) (aCons (eC (.ty "list")) aNil))) (eChain leD leD (eC (.int 1)) (eCall lenD (aCons (eVar 0) aNil)) (eC (.int 5)))) aNil))) (sSeq (sOwn 3 [] aNil) (sFor [] (iSeq (eVar 0)) (.nm 4) (sSeq (sExpr [] (eCall m_need_plans (aCons (eAnd (eCall isiD (aCons (eVar 4) (aCons (eC (.ty "tuple")) aNil))) (eAnd (eBin eqD (eCall lenD (aCons (eVar 4) aNil)) (eC (.int 2))) (eCall m_is_word (aCons (eBin ixD (eVar 4) (eC (.int 0))) (aCons (eC (.int 4)) aNil))))) aNil))) (sSeq (sExpr [3] (eCall m_need_plans (aCons (eAnd (eUn isND (eCall m_rule_kind (aCons (eVar 3) (aCons (eBin ixD (eVar 4) (eC (.int 0))) aNil)))) (eCall m_is_rule (aCons (eBin ixD (eVar 4) (eC (.int 1))) (aCons (eVar 1) (aCons (eVar 2) (aCons (eVar 3) aNil)))))) aNil))) (sApp 3 [] (eVar 4)))))))
def m_look_columns : List Dat → Res Dat := defD 3 5 b_look_columns
theorem o_look_columns (x0 x1 x2 : Dat) : m_look_columns [x0, x1, x2] = retOf (b_look_columns [some (.frz x0), some (.frz x1), some (.frz x2), none, none]) := Eq.trans (show m_look_columns [x0, x1, x2] = retOf (b_look_columns (startS 5 [x0, x1, x2])) from defD_open (n := 3) rfl) rfl
def L1_need_plan : SEnv → SRes :=
  (sSeq (sExpr [] (eCall m_need_plans (aCons (eAnd (eCall isiD (aCons (eVar 2) (aCons (eC (.ty "tuple")) aNil))) (eAnd (eBin eqD (eCall lenD (aCons (eVar 2) aNil)) (eC (.int 3))) (eCall m_is_word (aCons (eBin ixD (eVar 2) (eC (.int 0))) (aCons (eC (.int 4)) aNil))))) aNil))) (sSeq (sExpr [1] (eCall m_need_plans (aCons (eAnd (eBin notInD (eBin ixD (eVar 2) (eC (.int 0))) (eLc (iSeq (eVar 1)) (.tp [(.nm 3), (.nm 4), (.nm 5)]) bYes (eVar 3) [3, 4, 5])) (eCall m_is_count (aCons (eBin ixD (eVar 2) (eC (.int 1))) (aCons (eC (.int 1)) (aCons (eC (.int 20)) aNil))))) aNil))) (sSeq (sExpr [1] (eCall m_look_columns (aCons (eBin ixD (eVar 2) (eC (.int 2))) (aCons (eBin ixD (eVar 2) (eC (.int 1))) (aCons (eVar 1) aNil))))) (sApp 1 [] (eVar 2)))))
def b_need_plan : SEnv → SRes :=
  (sSeq (sExpr [] (eCall m_need_plans (aCons (eAnd (eCall isiD (aCons (eVar 0) (aCons (eC (.ty "list")) aNil))) (eChain leD leD (eC (.int 1)) (eCall lenD (aCons (eVar 0) aNil)) (eC (.int 4)))) aNil))) (sSeq (sOwn 1 [] aNil) (sFor [] (iSeq (eVar 0)) (.nm 2) L1_need_plan)))
def m_need_plan : List Dat → Res Dat := defD 1 6 b_need_plan
theorem o_need_plan (x0 : Dat) : m_need_plan [x0] = retOf (b_need_plan [some (.frz x0), none, none, none, none, none]) := Eq.trans (show m_need_plan [x0] = retOf (b_need_plan (startS 6 [x0])) from defD_open (n := 1) rfl) rfl
def m_World___init : List Dat → Res (List (Str × Dat)) := initW 2 7 (eCall m_need_plan (aCons (eVar 1) aNil)) (eCall m_drawn (aCons (eVar 2) (aCons (eC (.int 0)) (aCons (eC (.int 0)) (aCons (eC (.int 0)) aNil))))) (eLc (iSeq (eVar 1)) (.tp [(.nm 4), (.nm 5), (.nm 6)]) bYes (eTup (aCons (eVar 4) (aCons (eVar 5) (aCons (eCall listD (aCons (eVar 6) aNil)) aNil)))) [4, 5, 6]) (eVar 2) (.tp [(.nm 3), (.tp [(.nm 4), (.nm 5), (.nm 6)])]) (eVar 4) (eVar 3)
def b_World_need_cell : SEnv → SRes :=
  (sIf [] (bNot (eTest (eVar 1))) (sRaise "NoCell") sNext)
def m_World_need_cell : List Dat → Res Dat := defD 2 2 b_World_need_cell
theorem o_World_need_cell (x0 x1 : Dat) : m_World_need_cell [x0, x1] = retOf (b_World_need_cell [some (.frz x0), some (.frz x1)]) := Eq.trans (show m_World_need_cell [x0, x1] = retOf (b_World_need_cell (startS 2 [x0, x1])) from defD_open (n := 2) rfl) rfl
def b_World_names : SEnv → SRes :=
  (sRet [] (eLc (iSeq (eUn (fldD "World" "plan") (eVar 0))) (.tp [(.nm 1), (.nm 2), (.nm 3)]) bYes (eVar 1) [1, 2, 3]))
def m_World_names : List Dat → Res Dat := defD 1 4 b_World_names
theorem o_World_names (x0 : Dat) : m_World_names [x0] = retOf (b_World_names [some (.frz x0), none, none, none]) := Eq.trans (show m_World_names [x0] = retOf (b_World_names (startS 4 [x0])) from defD_open (n := 1) rfl) rfl
def b_World_at : SEnv → SRes :=
  (sSeq (sExpr [] (eMet "World" "need_cell" m_World_need_cell (eVar 0) (aCons (eAnd (eCall isiD (aCons (eVar 1) (aCons (eC (.ty "str")) aNil))) (eBin inD (eVar 1) (eUn (fldD "World" "places") (eVar 0)))) aNil))) (sRet [] (eBin ixD (eUn (fldD "World" "places") (eVar 0)) (eVar 1))))
def m_World_at : List Dat → Res Dat := defD 2 2 b_World_at
theorem o_World_at (x0 x1 : Dat) : m_World_at [x0, x1] = retOf (b_World_at [some (.frz x0), some (.frz x1)]) := Eq.trans (show m_World_at [x0, x1] = retOf (b_World_at (startS 2 [x0, x1])) from defD_open (n := 2) rfl) rfl
def b_World_columns : SEnv → SRes :=
  (sRet [] (eLc (iSeq (eBin ixD (eBin ixD (eUn (fldD "World" "plan") (eVar 0)) (eMet "World" "at" m_World_at (eVar 0) (aCons (eVar 1) aNil))) (eC (.int 2)))) (.tp [(.nm 2), (.nm 3)]) bYes (eVar 2) [2, 3]))
def m_World_columns : List Dat → Res Dat := defD 2 4 b_World_columns
theorem o_World_columns (x0 x1 : Dat) : m_World_columns [x0, x1] = retOf (b_World_columns [some (.frz x0), some (.frz x1), none, none]) := Eq.trans (show m_World_columns [x0, x1] = retOf (b_World_columns (startS 4 [x0, x1])) from defD_open (n := 2) rfl) rfl
def b_World_many : SEnv → SRes :=
  (sRet [] (eBin ixD (eBin ixD (eUn (fldD "World" "plan") (eVar 0)) (eMet "World" "at" m_World_at (eVar 0) (aCons (eVar 1) aNil))) (eC (.int 1))))
def m_World_many : List Dat → Res Dat := defD 2 2 b_World_many
theorem o_World_many (x0 x1 : Dat) : m_World_many [x0, x1] = retOf (b_World_many [some (.frz x0), some (.frz x1)]) := Eq.trans (show m_World_many [x0, x1] = retOf (b_World_many (startS 2 [x0, x1])) from defD_open (n := 2) rfl) rfl
def b_World_looked (rec : List Dat → Res Dat) : SEnv → SRes :=
  (sSeq (sSet 4 [] (eLc (iSeq (eBin ixD (eBin ixD (eUn (fldD "World" "plan") (eVar 0)) (eVar 1)) (eC (.int 2)))) (.tp [(.nm 7), (.nm 8)]) bYes (eVar 7) [7, 8])) (sSeq (sSet 5 [] (eMet "World" "worth" rec (eVar 0) (aCons (eVar 1) (aCons (eVar 2) (aCons (eMth isLstD indexD (eVar 4) (eBin ixD (eVar 3) (eC (.int 1)))) aNil))))) (sSeq (sIf [] (eTest (eBin eqD (eBin ixD (eVar 3) (eC (.int 0))) (eC (.str "sum")))) (sRet [] (eBin addD (eVar 5) (eMet "World" "worth" rec (eVar 0) (aCons (eVar 1) (aCons (eVar 2) (aCons (eMth isLstD indexD (eVar 4) (eBin ixD (eVar 3) (eC (.int 2)))) aNil)))))) sNext) (sSeq (sSet 6 [] (eBin ixD (eUn (fldD "World" "places") (eVar 0)) (eBin ixD (eBin ixD (eCall dictD (aCons (eBin ixD (eBin ixD (eUn (fldD "World" "plan") (eVar 0)) (eVar 1)) (eC (.int 2))) aNil)) (eBin ixD (eVar 3) (eC (.int 1)))) (eC (.int 1))))) (sRet [] (eMet "World" "worth" rec (eVar 0) (aCons (eVar 6) (aCons (eVar 5) (aCons (eMth isLstD indexD (eLc (iSeq (eBin ixD (eBin ixD (eUn (fldD "World" "plan") (eVar 0)) (eVar 6)) (eC (.int 2)))) (.tp [(.nm 7), (.nm 8)]) bYes (eVar 7) [7, 8]) (eBin ixD (eVar 3) (eC (.int 2)))) aNil)))))))))
def m_World_looked (rec : List Dat → Res Dat) : List Dat → Res Dat := defD 4 9 (b_World_looked rec)
theorem o_World_looked (rec : List Dat → Res Dat) (x0 x1 x2 x3 : Dat) : m_World_looked rec [x0, x1, x2, x3] = retOf (b_World_looked rec [some (.frz x0), some (.frz x1), some (.frz x2), some (.frz x3), none, none, none, none, none]) := Eq.trans (show m_World_looked rec [x0, x1, x2, x3] = retOf (b_World_looked rec (startS 9 [x0, x1, x2, x3])) from defD_open (n := 4) rfl) rfl
def b_World_worth (rec : List Dat → Res Dat) : SEnv → SRes :=
  (sSeq (sBind (.tp [(.nm 6), (.nm 7), (.nm 8)]) [] (eBin ixD (eUn (fldD "World" "plan") (eVar 0)) (eVar 1))) (sSeq (sSet 4 [] (eBin ixD (eBin ixD (eVar 8) (eVar 3)) (eC (.int 1)))) (sSeq (sSet 5 [] (eCall m_draw (aCons (eUn (fldD "World" "seed") (eVar 0)) (aCons (eVar 1) (aCons (eVar 3) (aCons (eVar 2) aNil)))))) (sSeq (sIf [] (eTest (eBin eqD (eBin ixD (eVar 4) (eC (.int 0))) (eC (.str "num")))) (sRet [] (eBin addD (eBin ixD (eVar 4) (eC (.int 1))) (eBin modD (eVar 5) (eBin addD (eBin subD (eBin ixD (eVar 4) (eC (.int 2))) (eBin ixD (eVar 4) (eC (.int 1)))) (eC (.int 1)))))) sNext) (sSeq (sIf [] (eTest (eBin eqD (eBin ixD (eVar 4) (eC (.int 0))) (eC (.str "pick")))) (sRet [] (eBin ixD (eBin ixD (eBin ixD (eVar 4) (eC (.int 1))) (eCall m_shared_of (aCons (eVar 5) (aCons (eLc (iSeq (eBin ixD (eVar 4) (eC (.int 1)))) (.tp [(.nm 9), (.nm 10)]) bYes (eVar 10) [9, 10]) aNil)))) (eC (.int 0)))) sNext) (sSeq (sIf [] (eTest (eBin eqD (eBin ixD (eVar 4) (eC (.int 0))) (eC (.str "word")))) (sRet [] (eCall m_word_of (aCons (eVar 5) (aCons (eBin ixD (eVar 4) (eC (.int 1))) (aCons (eBin ixD (eVar 4) (eC (.int 2))) aNil))))) sNext) (sSeq (sIf [] (eTest (eBin eqD (eBin ixD (eVar 4) (eC (.int 0))) (eC (.str "flag")))) (sRet [] (eBin ltD (eBin modD (eVar 5) (eC (.int 100))) (eBin ixD (eVar 4) (eC (.int 1))))) sNext) (sSeq (sIf [] (eTest (eBin eqD (eBin ixD (eVar 4) (eC (.int 0))) (eC (.str "link")))) (sRet [] (eBin addD (eC (.int 1)) (eBin modD (eVar 5) (eBin ixD (eBin ixD (eUn (fldD "World" "plan") (eVar 0)) (eBin ixD (eUn (fldD "World" "places") (eVar 0)) (eBin ixD (eVar 4) (eC (.int 1))))) (eC (.int 1)))))) sNext) (sSeq (sIf [] (eTest (eBin eqD (eBin ixD (eVar 4) (eC (.int 0))) (eC (.str "serial")))) (sRet [] (eBin addD (eBin ixD (eVar 4) (eC (.int 1))) (eBin mulD (eBin ixD (eVar 4) (eC (.int 2))) (eBin subD (eVar 2) (eC (.int 1)))))) sNext) (sSeq (sIf [] (eTest (eBin eqD (eBin ixD (eVar 4) (eC (.int 0))) (eC (.str "unlike")))) (sRet [] (eBin addD (eBin ixD (eVar 4) (eC (.int 1))) (eCall m_spread_of (aCons (eCall m_draw (aCons (eUn (fldD "World" "seed") (eVar 0)) (aCons (eVar 1) (aCons (eVar 3) (aCons (eC (.int 0)) aNil))))) (aCons (eVar 2) (aCons (eBin addD (eBin subD (eBin ixD (eVar 4) (eC (.int 2))) (eBin ixD (eVar 4) (eC (.int 1)))) (eC (.int 1))) aNil)))))) sNext) (sRet [] (eMet "World" "looked" (m_World_looked rec) (eVar 0) (aCons (eVar 1) (aCons (eVar 2) (aCons (eVar 4) aNil)))))))))))))))
def m_World_worth : Nat → List Dat → Res Dat
  | 0 => fun _ => .stuck
  | k + 1 => defD 4 11 (b_World_worth (m_World_worth k))
theorem o_World_worth (k : Nat) (x0 x1 x2 x3 : Dat) : m_World_worth (k + 1) [x0, x1, x2, x3] = retOf (b_World_worth (m_World_worth k) [some (.frz x0), some (.frz x1), some (.frz x2), some (.frz x3), none, none, none, none, none, none, none]) := Eq.trans (show m_World_worth (k + 1) [x0, x1, x2, x3] = retOf (b_World_worth (m_World_worth k) (startS 11 [x0, x1, x2, x3])) from defD_open (n := 4) rfl) rfl
def b_World_cell : SEnv → SRes :=
  (sSeq (sSet 4 [] (eMet "World" "at" m_World_at (eVar 0) (aCons (eVar 1) aNil))) (sSeq (sExpr [] (eMet "World" "need_cell" m_World_need_cell (eVar 0) (aCons (eCall m_is_count (aCons (eVar 2) (aCons (eC (.int 1)) (aCons (eMet "World" "many" m_World_many (eVar 0) (aCons (eVar 1) aNil)) aNil)))) aNil))) (sSeq (sExpr [] (eMet "World" "need_cell" m_World_need_cell (eVar 0) (aCons (eAnd (eCall isiD (aCons (eVar 3) (aCons (eC (.ty "str")) aNil))) (eBin inD (eVar 3) (eMet "World" "columns" m_World_columns (eVar 0) (aCons (eVar 1) aNil)))) aNil))) (sRet [] (eMet "World" "worth" (m_World_worth 21) (eVar 0) (aCons (eVar 4) (aCons (eVar 2) (aCons (eMth isLstD indexD (eMet "World" "columns" m_World_columns (eVar 0) (aCons (eVar 1) aNil)) (eVar 3)) aNil))))))))
def m_World_cell : List Dat → Res Dat := defD 4 5 b_World_cell
theorem o_World_cell (x0 x1 x2 x3 : Dat) : m_World_cell [x0, x1, x2, x3] = retOf (b_World_cell [some (.frz x0), some (.frz x1), some (.frz x2), some (.frz x3), none]) := Eq.trans (show m_World_cell [x0, x1, x2, x3] = retOf (b_World_cell (startS 5 [x0, x1, x2, x3])) from defD_open (n := 4) rfl) rfl
def b_World_row : SEnv → SRes :=
  (sSeq (sExpr [] (eMet "World" "need_cell" m_World_need_cell (eVar 0) (aCons (eCall m_is_count (aCons (eVar 2) (aCons (eC (.int 1)) (aCons (eMet "World" "many" m_World_many (eVar 0) (aCons (eVar 1) aNil)) aNil)))) aNil))) (sRet [] (eCall dictD (aCons (eLc (iSeq (eMet "World" "columns" m_World_columns (eVar 0) (aCons (eVar 1) aNil))) (.nm 3) bYes (eTup (aCons (eVar 3) (aCons (eMet "World" "cell" m_World_cell (eVar 0) (aCons (eVar 1) (aCons (eVar 2) (aCons (eVar 3) aNil)))) aNil))) [3]) aNil))))
def m_World_row : List Dat → Res Dat := defD 3 4 b_World_row
theorem o_World_row (x0 x1 x2 : Dat) : m_World_row [x0, x1, x2] = retOf (b_World_row [some (.frz x0), some (.frz x1), some (.frz x2), none]) := Eq.trans (show m_World_row [x0, x1, x2] = retOf (b_World_row (startS 4 [x0, x1, x2])) from defD_open (n := 3) rfl) rfl
def b_World_rows : SEnv → SRes :=
  (sRet [] (eLc (iArg rng2D (aCons (eC (.int 1)) (aCons (eBin addD (eMet "World" "many" m_World_many (eVar 0) (aCons (eVar 1) aNil)) (eC (.int 1))) aNil))) (.nm 2) bYes (eMet "World" "row" m_World_row (eVar 0) (aCons (eVar 1) (aCons (eVar 2) aNil))) [2]))
def m_World_rows : List Dat → Res Dat := defD 2 3 b_World_rows
theorem o_World_rows (x0 x1 : Dat) : m_World_rows [x0, x1] = retOf (b_World_rows [some (.frz x0), some (.frz x1), none]) := Eq.trans (show m_World_rows [x0, x1] = retOf (b_World_rows (startS 3 [x0, x1])) from defD_open (n := 2) rfl) rfl
def b_World_tables : SEnv → SRes :=
  (sRet [] (eCall dictD (aCons (eLc (iSeq (eMet "World" "names" m_World_names (eVar 0) aNil)) (.nm 1) bYes (eTup (aCons (eVar 1) (aCons (eMet "World" "rows" m_World_rows (eVar 0) (aCons (eVar 1) aNil)) aNil))) [1]) aNil)))
def m_World_tables : List Dat → Res Dat := defD 1 2 b_World_tables
theorem o_World_tables (x0 : Dat) : m_World_tables [x0] = retOf (b_World_tables [some (.frz x0), none]) := Eq.trans (show m_World_tables [x0] = retOf (b_World_tables (startS 2 [x0])) from defD_open (n := 1) rfl) rfl
def b_is_number : SEnv → SRes :=
  (sRet [] (eAnd (eCall isiD (aCons (eVar 0) (aCons (eC (.ty "int")) aNil))) (eNot (eCall isiD (aCons (eVar 0) (aCons (eC (.ty "bool")) aNil))))))
def m_is_number : List Dat → Res Dat := defD 1 1 b_is_number
theorem o_is_number (x0 : Dat) : m_is_number [x0] = retOf (b_is_number [some (.frz x0)]) := Eq.trans (show m_is_number [x0] = retOf (b_is_number (startS 1 [x0])) from defD_open (n := 1) rfl) rfl
def b_is_good_word : SEnv → SRes :=
  (sRet [] (eAnd (eCall isiD (aCons (eVar 0) (aCons (eC (.ty "str")) aNil))) (eAnd (eChain leD leD (eVar 1) (eCall lenD (aCons (eVar 0) aNil)) (eVar 2)) (eCall allD (aCons (eLc (iSeq (eVar 0)) (.nm 3) bYes (eBin inD (eVar 3) (eC (.str "abcdefghijklmnopqrstuvwxyz"))) [3]) aNil)))))
def m_is_good_word : List Dat → Res Dat := defD 3 4 b_is_good_word
theorem o_is_good_word (x0 x1 x2 : Dat) : m_is_good_word [x0, x1, x2] = retOf (b_is_good_word [some (.frz x0), some (.frz x1), some (.frz x2), none]) := Eq.trans (show m_is_good_word [x0, x1, x2] = retOf (b_is_good_word (startS 4 [x0, x1, x2])) from defD_open (n := 3) rfl) rfl
def b_linked : SEnv → SRes :=
  (sSeq (sSet 5 [] (eBin ixD (eBin ixD (eCall dictD (aCons (eBin ixD (eVar 2) (eC (.int 2))) aNil)) (eVar 4)) (eC (.int 1)))) (sSeq (sSet 6 [] (eMth2 isDctD getD (eVar 3) (eVar 4) (eC .non))) (sRet [] (eIf (eTest (eCall m_is_count (aCons (eVar 6) (aCons (eC (.int 1)) (aCons (eCall lenD (aCons (eBin ixD (eVar 1) (eVar 5)) aNil)) aNil))))) (eBin ixD (eBin ixD (eVar 1) (eVar 5)) (eBin subD (eVar 6) (eC (.int 1)))) (eC .non)))))
def m_linked : List Dat → Res Dat := defD 5 7 b_linked
theorem o_linked (x0 x1 x2 x3 x4 : Dat) : m_linked [x0, x1, x2, x3, x4] = retOf (b_linked [some (.frz x0), some (.frz x1), some (.frz x2), some (.frz x3), some (.frz x4), none, none]) := Eq.trans (show m_linked [x0, x1, x2, x3, x4] = retOf (b_linked (startS 7 [x0, x1, x2, x3, x4])) from defD_open (n := 5) rfl) rfl
def b_same : SEnv → SRes :=
  (sRet [] (eAnd (eBin eqD (eCall isiD (aCons (eVar 0) (aCons (eC (.ty "bool")) aNil))) (eCall isiD (aCons (eVar 1) (aCons (eC (.ty "bool")) aNil)))) (eBin eqD (eVar 0) (eVar 1))))
def m_same : List Dat → Res Dat := defD 2 2 b_same
theorem o_same (x0 x1 : Dat) : m_same [x0, x1] = retOf (b_same [some (.frz x0), some (.frz x1)]) := Eq.trans (show m_same [x0, x1] = retOf (b_same (startS 2 [x0, x1])) from defD_open (n := 2) rfl) rfl
def b_is_so : SEnv → SRes :=
  (sSeq (sSet 6 [] (eBin ixD (eBin ixD (eVar 1) (eBin ixD (eVar 2) (eC (.int 0)))) (eVar 3))) (sSeq (sSet 7 [] (eBin ixD (eVar 6) (eVar 4))) (sSeq (sSet 8 [] (eBin ixD (eVar 5) (eC (.int 0)))) (sSeq (sIf [] (eTest (eBin inD (eVar 8) (eTup (aCons (eC (.str "num")) (aCons (eC (.str "unlike")) aNil))))) (sRet [] (eAnd (eCall m_is_number (aCons (eVar 7) aNil)) (eChain leD leD (eBin ixD (eVar 5) (eC (.int 1))) (eVar 7) (eBin ixD (eVar 5) (eC (.int 2)))))) sNext) (sSeq (sIf [] (eTest (eBin eqD (eVar 8) (eC (.str "pick")))) (sRet [] (eAnd (eCall isiD (aCons (eVar 7) (aCons (eC (.ty "str")) aNil))) (eBin inD (eVar 7) (eLc (iSeq (eBin ixD (eVar 5) (eC (.int 1)))) (.tp [(.nm 12), (.nm 13)]) bYes (eVar 12) [12, 13])))) sNext) (sSeq (sIf [] (eTest (eBin eqD (eVar 8) (eC (.str "word")))) (sRet [] (eCall m_is_good_word (aCons (eVar 7) (aCons (eBin ixD (eVar 5) (eC (.int 1))) (aCons (eBin ixD (eVar 5) (eC (.int 2))) aNil))))) sNext) (sSeq (sIf [] (eTest (eBin eqD (eVar 8) (eC (.str "flag")))) (sRet [] (eAnd (eCall isiD (aCons (eVar 7) (aCons (eC (.ty "bool")) aNil))) (eAnd (eOr (eBin gtD (eBin ixD (eVar 5) (eC (.int 1))) (eC (.int 0))) (eNot (eVar 7))) (eOr (eBin ltD (eBin ixD (eVar 5) (eC (.int 1))) (eC (.int 100))) (eVar 7))))) sNext) (sSeq (sIf [] (eTest (eBin eqD (eVar 8) (eC (.str "link")))) (sRet [] (eCall m_is_count (aCons (eVar 7) (aCons (eC (.int 1)) (aCons (eCall lenD (aCons (eBin ixD (eVar 1) (eBin ixD (eVar 5) (eC (.int 1)))) aNil)) aNil))))) sNext) (sSeq (sIf [] (eTest (eBin eqD (eVar 8) (eC (.str "serial")))) (sRet [] (eAnd (eCall m_is_number (aCons (eVar 7) aNil)) (eBin eqD (eVar 7) (eBin addD (eBin ixD (eVar 5) (eC (.int 1))) (eBin mulD (eBin ixD (eVar 5) (eC (.int 2))) (eVar 3)))))) sNext) (sSeq (sIf [] (eTest (eBin eqD (eVar 8) (eC (.str "sum")))) (sSeq (sSet 10 [] (eLc (iSeq (eSl (eVar 5) (oSome (eC (.int 1))) oNone)) (.nm 11) bYes (eMth2 isDctD getD (eVar 6) (eVar 11) (eC .non)) [11])) (sRet [] (eAnd (eCall m_is_number (aCons (eVar 7) aNil)) (eAnd (eCall allD (aCons (eLc (iSeq (eVar 10)) (.nm 11) bYes (eCall m_is_number (aCons (eVar 11) aNil)) [11]) aNil)) (eBin eqD (eVar 7) (eCall sumD (aCons (eVar 10) aNil))))))) sNext) (sSeq (sSet 9 [] (eCall m_linked (aCons (eVar 0) (aCons (eVar 1) (aCons (eVar 2) (aCons (eVar 6) (aCons (eBin ixD (eVar 5) (eC (.int 1))) aNil))))))) (sRet [] (eAnd (eUn notND (eVar 9)) (eAnd (eBin inD (eBin ixD (eVar 5) (eC (.int 2))) (eVar 9)) (eCall m_same (aCons (eBin ixD (eVar 9) (eBin ixD (eVar 5) (eC (.int 2)))) (aCons (eVar 7) aNil)))))))))))))))))
def m_is_so : List Dat → Res Dat := defD 6 14 b_is_so
theorem o_is_so (x0 x1 x2 x3 x4 x5 : Dat) : m_is_so [x0, x1, x2, x3, x4, x5] = retOf (b_is_so [some (.frz x0), some (.frz x1), some (.frz x2), some (.frz x3), some (.frz x4), some (.frz x5), none, none, none, none, none, none, none, none]) := Eq.trans (show m_is_so [x0, x1, x2, x3, x4, x5] = retOf (b_is_so (startS 14 [x0, x1, x2, x3, x4, x5])) from defD_open (n := 6) rfl) rfl
def b_is_met : SEnv → SRes :=
  (sRet [] (eCall anyD (aCons (eLc (iSeq (eSl (eVar 0) oNone (oSome (eVar 1)))) (.nm 3) bYes (eAnd (eBin inD (eVar 2) (eVar 3)) (eCall m_same (aCons (eBin ixD (eVar 3) (eVar 2)) (aCons (eBin ixD (eBin ixD (eVar 0) (eVar 1)) (eVar 2)) aNil)))) [3]) aNil)))
def m_is_met : List Dat → Res Dat := defD 3 4 b_is_met
theorem o_is_met (x0 x1 x2 : Dat) : m_is_met [x0, x1, x2] = retOf (b_is_met [some (.frz x0), some (.frz x1), some (.frz x2), none]) := Eq.trans (show m_is_met [x0, x1, x2] = retOf (b_is_met (startS 4 [x0, x1, x2])) from defD_open (n := 3) rfl) rfl
def b_faults : SEnv → SRes :=
  (sSeq (sExpr [] (eCall m_need_plan (aCons (eVar 0) aNil))) (sSeq (sOwn 2 [] aNil) (sSeq (sFor [] (iSeq (eVar 0)) (.nm 3) (sSeq (sSet 4 [] (eBin ixD (eVar 1) (eBin ixD (eVar 3) (eC (.int 0))))) (sFor [] (iArg enumD (aCons (eVar 4) aNil)) (.tp [(.nm 5), (.nm 6)]) (sFor [] (iSeq (eBin ixD (eVar 3) (eC (.int 2)))) (.tp [(.nm 7), (.nm 8)]) (sSeq (sSet 9 [] (eAnd (eBin inD (eVar 7) (eVar 6)) (eCall m_is_so (aCons (eVar 0) (aCons (eVar 1) (aCons (eVar 3) (aCons (eVar 5) (aCons (eVar 7) (aCons (eVar 8) aNil))))))))) (sIf [] (bOr (bNot (eTest (eVar 9))) (bAnd (eTest (eBin eqD (eBin ixD (eVar 8) (eC (.int 0))) (eC (.str "unlike")))) (eTest (eCall m_is_met (aCons (eVar 4) (aCons (eVar 5) (aCons (eVar 7) aNil))))))) (sApp 2 [] (eTup (aCons (eBin ixD (eVar 3) (eC (.int 0))) (aCons (eBin addD (eVar 5) (eC (.int 1))) (aCons (eVar 7) aNil))))) sNext)))))) (sRet [2] (eVar 2)))))
def m_faults : List Dat → Res Dat := defD 2 10 b_faults
theorem o_faults (x0 x1 : Dat) : m_faults [x0, x1] = retOf (b_faults [some (.frz x0), some (.frz x1), none, none, none, none, none, none, none, none]) := Eq.trans (show m_faults [x0, x1] = retOf (b_faults (startS 10 [x0, x1])) from defD_open (n := 2) rfl) rfl
def b_law_cell : SEnv → SRes :=
  (sSeq (sIf [] (eTest (eBin eqD (eVar 0) (eLst aNil))) (sRet [] (eBin mulD (eVar 1) (eC (.int 7919)))) sNext) (sRet [] (eBin addD (eBin ixD (eVar 0) (eBin modD (eVar 1) (eCall lenD (aCons (eVar 0) aNil)))) (eBin mulD (eBin fdivD (eVar 1) (eCall lenD (aCons (eVar 0) aNil))) (eC (.int 104729))))))
def m_law_cell : List Dat → Res Dat := defD 2 2 b_law_cell
theorem o_law_cell (x0 x1 : Dat) : m_law_cell [x0, x1] = retOf (b_law_cell [some (.frz x0), some (.frz x1)]) := Eq.trans (show m_law_cell [x0, x1] = retOf (b_law_cell (startS 2 [x0, x1])) from defD_open (n := 2) rfl) rfl
def b_law_drawn : SEnv → SRes :=
  (sSeq (sSet 2 [] (eBin modD (eBin addD (eBin mulD (eVar 0) (eC (.int 6364136223846793005))) (eBin mulD (eBin addD (eVar 1) (eC (.int 1))) (eC (.int 1442695040888963407)))) (eC (.int 340282366920938463463374607431768211507)))) (sSeq (sSet 2 [] (eBin modD (eBin mulD (eVar 2) (eVar 2)) (eC (.int 340282366920938463463374607431768211297)))) (sSeq (sSet 2 [] (eBin mulD (eBin mulD (eBin addD (eBin modD (eVar 2) (eC (.int 18446744073709551557))) (eC (.int 1))) (eBin addD (eBin fdivD (eVar 2) (eC (.int 18446744073709551557))) (eC (.int 1)))) (eVar 2))) (sRet [] (eBin modD (eVar 2) (eC (.int 340282366920938463463374607431768211507)))))))
def m_law_drawn : List Dat → Res Dat := defD 2 3 b_law_drawn
theorem o_law_drawn (x0 x1 : Dat) : m_law_drawn [x0, x1] = retOf (b_law_drawn [some (.frz x0), some (.frz x1), none]) := Eq.trans (show m_law_drawn [x0, x1] = retOf (b_law_drawn (startS 3 [x0, x1])) from defD_open (n := 2) rfl) rfl
def b_law_rule : SEnv → SRes :=
  (sSeq (sSet 4 [] (eBin fdivD (eVar 0) (eC (.int 64)))) (sSeq (sSet 5 [] (eBin ixD (eLst (aCons (eBin subD (eBin modD (eVar 4) (eC (.int 41))) (eC (.int 20))) (aCons (eUn negD (eC (.int 999))) (aCons (eBin subD (eBin modD (eVar 4) (eC (.int 1999))) (eC (.int 999))) aNil)))) (eBin modD (eBin fdivD (eVar 0) (eC (.int 8))) (eC (.int 3))))) (sSeq (sSet 6 [] (eBin ixD (eLst (aCons (eCall minD (aCons (eC (.int 999)) (aCons (eBin addD (eVar 5) (eBin modD (eBin fdivD (eVar 4) (eC (.int 4096))) (eC (.int 40)))) aNil))) (aCons (eC (.int 999)) aNil))) (eBin modD (eBin fdivD (eVar 0) (eC (.int 32))) (eC (.int 2))))) (sSeq (sSet 7 [] (eLc (iSeq (eVar 3)) (.tp [(.nm 13), (.nm 15)]) (eTest (eBin inD (eBin ixD (eVar 15) (eC (.int 0))) (eTup (aCons (eC (.str "num")) (aCons (eC (.str "unlike")) (aCons (eC (.str "serial")) (aCons (eC (.str "sum")) aNil))))))) (eVar 13) [13, 15])) (sSeq (sSet 8 [] (eLc (iSeq (eVar 3)) (.tp [(.nm 13), (.nm 15)]) (eTest (eBin eqD (eBin ixD (eVar 15) (eC (.int 0))) (eC (.str "link")))) (eTup (aCons (eVar 13) (aCons (eBin ixD (eVar 15) (eC (.int 1))) aNil))) [13, 15])) (sSeq (sSet 9 [] (eBin modD (eVar 0) (eC (.int 9)))) (sSeq (sIf [] (bAnd (eTest (eBin eqD (eVar 9) (eC (.int 0)))) (eTest (eBin neD (eVar 2) (eLst aNil)))) (sRet [] (eTup (aCons (eC (.str "link")) (aCons (eBin ixD (eBin ixD (eVar 2) (eBin modD (eVar 4) (eCall lenD (aCons (eVar 2) aNil)))) (eC (.int 0))) aNil)))) sNext) (sSeq (sIf [] (bAnd (eTest (eBin eqD (eVar 9) (eC (.int 1)))) (eTest (eBin neD (eVar 7) (eLst aNil)))) (sRet [] (eTup (aCons (eC (.str "sum")) (aCons (eBin ixD (eVar 7) (eBin modD (eVar 4) (eCall lenD (aCons (eVar 7) aNil)))) (aCons (eBin ixD (eVar 7) (eBin modD (eBin fdivD (eVar 4) (eC (.int 64))) (eCall lenD (aCons (eVar 7) aNil)))) aNil))))) sNext) (sSeq (sIf [] (bAnd (eTest (eBin ltD (eVar 9) (eC (.int 4)))) (eTest (eBin neD (eVar 8) (eLst aNil)))) (sSeq (sBind (.tp [(.nm 13), (.nm 14)]) [] (eBin ixD (eVar 8) (eBin modD (eVar 4) (eCall lenD (aCons (eVar 8) aNil))))) (sSeq (sSet 10 [] (eBin ixD (eLc (iSeq (eVar 2)) (.tp [(.nm 16), (.nm 17), (.nm 18)]) (eTest (eBin eqD (eVar 16) (eVar 14))) (eVar 18) [16, 17, 18]) (eC (.int 0)))) (sRet [] (eTup (aCons (eC (.str "copy")) (aCons (eVar 13) (aCons (eBin ixD (eBin ixD (eVar 10) (eBin modD (eBin fdivD (eVar 4) (eC (.int 64))) (eCall lenD (aCons (eVar 10) aNil)))) (eC (.int 0))) aNil))))))) sNext) (sSeq (sIf [] (eTest (eBin eqD (eVar 9) (eC (.int 4)))) (sSeq (sSet 11 [] (eCall minD (aCons (eVar 5) (aCons (eC (.int 980)) aNil)))) (sRet [] (eTup (aCons (eC (.str "unlike")) (aCons (eVar 11) (aCons (eCall minD (aCons (eC (.int 999)) (aCons (eBin addD (eBin subD (eBin addD (eVar 11) (eVar 1)) (eC (.int 1))) (eBin modD (eBin fdivD (eVar 4) (eBin powD (eC (.int 2)) (eC (.int 20)))) (eBin ixD (eLst (aCons (eC (.int 1)) (aCons (eC (.int 9)) (aCons (eC (.int 300)) aNil)))) (eBin modD (eBin fdivD (eVar 4) (eBin powD (eC (.int 2)) (eC (.int 30)))) (eC (.int 3)))))) aNil))) aNil)))))) sNext) (sSeq (sIf [] (eTest (eBin eqD (eVar 9) (eC (.int 5)))) (sSeq (sSet 12 [] (eSl (eLst (aCons (eC (.str "a")) (aCons (eC (.str "bb")) (aCons (eC (.str "red")) (aCons (eC (.str "sixsix")) aNil))))) oNone (oSome (eBin addD (eC (.int 1)) (eBin modD (eVar 4) (eC (.int 4))))))) (sRet [] (eTup (aCons (eC (.str "pick")) (aCons (eCall tupleD (aCons (eLc (iArg enumD (aCons (eVar 12) aNil)) (.tp [(.nm 19), (.nm 20)]) bYes (eTup (aCons (eVar 20) (aCons (eBin addD (eC (.int 1)) (eBin modD (eCall m_law_drawn (aCons (eVar 4) (aCons (eVar 19) aNil))) (eC (.int 9)))) aNil))) [19, 20]) aNil)) aNil))))) sNext) (sSeq (sIf [] (eTest (eBin eqD (eVar 9) (eC (.int 6)))) (sRet [] (eTup (aCons (eC (.str "word")) (aCons (eBin addD (eC (.int 1)) (eBin modD (eVar 4) (eC (.int 3)))) (aCons (eBin addD (eC (.int 3)) (eBin modD (eBin fdivD (eVar 4) (eC (.int 64))) (eC (.int 4)))) aNil))))) sNext) (sSeq (sIf [] (eTest (eBin eqD (eVar 9) (eC (.int 7)))) (sRet [] (eTup (aCons (eC (.str "flag")) (aCons (eBin ixD (eLst (aCons (eC (.int 0)) (aCons (eC (.int 100)) (aCons (eC (.int 50)) (aCons (eBin modD (eVar 4) (eC (.int 101))) aNil))))) (eBin modD (eBin fdivD (eVar 4) (eC (.int 128))) (eC (.int 4)))) aNil)))) sNext) (sSeq (sIf [] (eTest (eBin eqD (eVar 9) (eC (.int 8)))) (sRet [] (eTup (aCons (eC (.str "serial")) (aCons (eVar 5) (aCons (eBin subD (eBin modD (eBin fdivD (eVar 4) (eBin powD (eC (.int 2)) (eC (.int 20)))) (eC (.int 1999))) (eC (.int 999))) aNil))))) sNext) (sRet [] (eTup (aCons (eC (.str "num")) (aCons (eVar 5) (aCons (eVar 6) aNil)))))))))))))))))))
def m_law_rule : List Dat → Res Dat := defD 4 21 b_law_rule
theorem o_law_rule (x0 x1 x2 x3 : Dat) : m_law_rule [x0, x1, x2, x3] = retOf (b_law_rule [some (.frz x0), some (.frz x1), some (.frz x2), some (.frz x3), none, none, none, none, none, none, none, none, none, none, none, none, none, none, none, none, none]) := Eq.trans (show m_law_rule [x0, x1, x2, x3] = retOf (b_law_rule (startS 21 [x0, x1, x2, x3])) from defD_open (n := 4) rfl) rfl
def L1_law_plan : SEnv → SRes :=
  (sSeq (sSet 4 [] (eCall m_law_drawn (aCons (eVar 0) (aCons (eVar 3) aNil)))) (sSeq (sSet 5 [] (eBin addD (eC (.int 1)) (eBin modD (eVar 4) (eVar 1)))) (sSeq (sOwn 6 [] aNil) (sSeq (sFor [] (iArg rng1D (aCons (eBin addD (eC (.int 1)) (eBin modD (eBin fdivD (eVar 4) (eC (.int 64))) (eC (.int 5)))) aNil)) (.nm 7) (sApp 6 [2, 6] (eTup (aCons (eBin mulD (eBin ixD (eC (.str "abcde")) (eVar 7)) (eBin addD (eC (.int 1)) (eBin modD (eVar 7) (eC (.int 4))))) (aCons (eCall m_law_rule (aCons (eCall m_law_drawn (aCons (eVar 4) (aCons (eVar 7) aNil))) (aCons (eVar 5) (aCons (eVar 2) (aCons (eVar 6) aNil))))) aNil))))) (sApp 2 [6] (eTup (aCons (eBin ixD (eLst (aCons (eC (.str "one")) (aCons (eC (.str "two")) (aCons (eC (.str "t")) (aCons (eC (.str "four")) aNil))))) (eVar 3)) (aCons (eVar 5) (aCons (eVar 6) aNil)))))))))
def b_law_plan : SEnv → SRes :=
  (sSeq (sOwn 2 [] aNil) (sSeq (sFor [] (iArg rng1D (aCons (eBin addD (eC (.int 1)) (eBin modD (eVar 0) (eC (.int 4)))) aNil)) (.nm 3) L1_law_plan) (sRet [2] (eVar 2))))
def m_law_plan : List Dat → Res Dat := defD 2 8 b_law_plan
theorem o_law_plan (x0 x1 : Dat) : m_law_plan [x0, x1] = retOf (b_law_plan [some (.frz x0), some (.frz x1), none, none, none, none, none, none]) := Eq.trans (show m_law_plan [x0, x1] = retOf (b_law_plan (startS 8 [x0, x1])) from defD_open (n := 2) rfl) rfl
def b_law_same : SEnv → SRes :=
  (sRet [] (eAnd (eBin eqD (eCall isiD (aCons (eVar 0) (aCons (eC (.ty "bool")) aNil))) (eCall isiD (aCons (eVar 1) (aCons (eC (.ty "bool")) aNil)))) (eBin eqD (eVar 0) (eVar 1))))
def m_law_same : List Dat → Res Dat := defD 2 2 b_law_same
theorem o_law_same (x0 x1 : Dat) : m_law_same [x0, x1] = retOf (b_law_same [some (.frz x0), some (.frz x1)]) := Eq.trans (show m_law_same [x0, x1] = retOf (b_law_same (startS 2 [x0, x1])) from defD_open (n := 2) rfl) rfl
def b_law_shared_cells : SEnv → SRes :=
  (sSeq (sFor [] (iSeq (eVar 0)) (.nm 2) (sFor [] (iArg zipD (aCons (eBin ixD (eVar 0) (eVar 2)) (aCons (eBin ixD (eVar 1) (eVar 2)) aNil))) (.tp [(.nm 3), (.nm 4)]) (sIf [] (bNot (eTest (eCall allD (aCons (eLc (iSeq (eVar 3)) (.nm 5) bYes (eAnd (eBin inD (eVar 5) (eVar 4)) (eCall m_law_same (aCons (eBin ixD (eVar 3) (eVar 5)) (aCons (eBin ixD (eVar 4) (eVar 5)) aNil)))) [5]) aNil)))) (sRet [] (eC (.bl false))) sNext))) (sRet [] (eC (.bl true))))
def m_law_shared_cells : List Dat → Res Dat := defD 2 6 b_law_shared_cells
theorem o_law_shared_cells (x0 x1 : Dat) : m_law_shared_cells [x0, x1] = retOf (b_law_shared_cells [some (.frz x0), some (.frz x1), none, none, none, none]) := Eq.trans (show m_law_shared_cells [x0, x1] = retOf (b_law_shared_cells (startS 6 [x0, x1])) from defD_open (n := 2) rfl) rfl
def L1_law : SEnv → SRes :=
  (sSeq (sSet 2 [] (eCall m_law_drawn (aCons (eCall m_law_cell (aCons (eVar 0) (aCons (eVar 1) aNil))) (aCons (eVar 1) aNil)))) (sSeq (sSet 3 [] (eCall m_law_plan (aCons (eBin fdivD (eVar 2) (eC (.int 8))) (aCons (eBin ixD (eLst (aCons (eC (.int 4)) (aCons (eC (.int 12)) aNil))) (eBin modD (eVar 2) (eC (.int 2)))) aNil)))) (sSeq (sSet 4 [] (eBin modD (eBin fdivD (eVar 2) (eC (.int 64))) (eC (.int 1000000)))) (sSeq (sSet 5 [] (eMake "World" m_World___init (aCons (eVar 3) (aCons (eVar 4) aNil)))) (sSeq (sSet 6 [] (eMet "World" "tables" m_World_tables (eVar 5) aNil)) (sSeq (sIf [] (eTest (eBin ltD (eCall lenD (aCons (eVar 3) aNil)) (eC (.int 4)))) (sSeq (sSet 9 [] (eBin addD (eVar 3) (eLst (aCons (eTup (aCons (eC (.str "more")) (aCons (eC (.int 3)) (aCons (eLst (aCons (eTup (aCons (eC (.str "l")) (aCons (eTup (aCons (eC (.str "link")) (aCons (eBin ixD (eBin ixD (eVar 3) (eC (.int 0))) (eC (.int 0))) aNil))) aNil))) (aCons (eTup (aCons (eC (.str "n")) (aCons (eTup (aCons (eC (.str "num")) (aCons (eC (.int 0)) (aCons (eC (.int 9)) aNil)))) aNil))) aNil))) aNil)))) aNil)))) (sIf [] (bNot (eTest (eCall m_law_shared_cells (aCons (eVar 6) (aCons (eMet "World" "tables" m_World_tables (eMake "World" m_World___init (aCons (eVar 9) (aCons (eVar 4) aNil))) aNil) aNil))))) (sRet [] (eC (.bl false))) sNext)) sNext) (sSeq (sSet 7 [] (eBin modD (eBin fdivD (eVar 2) (eBin powD (eC (.int 2)) (eC (.int 20)))) (eCall lenD (aCons (eVar 3) aNil)))) (sSeq (sBind (.tp [(.nm 10), (.nm 11), (.nm 12)]) [] (eBin ixD (eVar 3) (eVar 7))) (sSeq (sIf [] (eTest (eBin ltD (eCall lenD (aCons (eVar 12) aNil)) (eC (.int 5)))) (sSeq (sSet 13 [] (eBin addD (eBin addD (eSl (eVar 3) oNone (oSome (eVar 7))) (eLst (aCons (eTup (aCons (eVar 10) (aCons (eVar 11) (aCons (eBin addD (eVar 12) (eLst (aCons (eTup (aCons (eC (.str "zz")) (aCons (eTup (aCons (eC (.str "flag")) (aCons (eC (.int 50)) aNil))) aNil))) aNil))) aNil)))) aNil))) (eSl (eVar 3) (oSome (eBin addD (eVar 7) (eC (.int 1)))) oNone))) (sSeq (sSet 9 [] (eMet "World" "tables" m_World_tables (eMake "World" m_World___init (aCons (eVar 13) (aCons (eVar 4) aNil))) aNil)) (sIf [] (bOr (bNot (eTest (eCall m_law_shared_cells (aCons (eVar 6) (aCons (eVar 9) aNil))))) (eTest (eBin neE (eCall m_faults (aCons (eVar 13) (aCons (eVar 9) aNil))) (eLst aNil)))) (sRet [] (eC (.bl false))) sNext))) sNext) (sSeq (sSpoil [5, 10] (eBin ixD (eMet "World" "tables" m_World_tables (eVar 5) aNil) (eVar 10))) (sSeq (sSpoil [5, 10] (eBin ixD (eMet "World" "rows" m_World_rows (eVar 5) (aCons (eVar 10) aNil)) (eC (.int 0)))) (sSeq (sSpoil [5, 10] (eMet "World" "row" m_World_row (eVar 5) (aCons (eVar 10) (aCons (eC (.int 1)) aNil)))) (sSeq (sSpoilA [5, 10] (eMet "World" "columns" m_World_columns (eVar 5) (aCons (eVar 10) aNil))) (sSeq (sSpoilA [5] (eMet "World" "names" m_World_names (eVar 5) aNil)) (sSeq (sIf [] (bOr (eTest (eBin neE (eMet "World" "tables" m_World_tables (eVar 5) aNil) (eVar 6))) (eTest (eBin neE (eMet "World" "tables" m_World_tables (eMake "World" m_World___init (aCons (eVar 3) (aCons (eVar 4) aNil))) aNil) (eVar 6)))) (sRet [] (eC (.bl false))) sNext) (sSeq (sFor [] (iArg rng2D (aCons (eC (.int 1)) (aCons (eBin addD (eVar 11) (eC (.int 1))) aNil))) (.nm 8) (sSeq (sIf [] (bOr (eTest (eBin neE (eMet "World" "row" m_World_row (eVar 5) (aCons (eVar 10) (aCons (eVar 8) aNil))) (eBin ixD (eBin ixD (eVar 6) (eVar 10)) (eBin subD (eVar 8) (eC (.int 1)))))) (eTest (eBin neE (eBin ixD (eMet "World" "rows" m_World_rows (eVar 5) (aCons (eVar 10) aNil)) (eBin subD (eVar 8) (eC (.int 1)))) (eBin ixD (eBin ixD (eVar 6) (eVar 10)) (eBin subD (eVar 8) (eC (.int 1))))))) (sRet [] (eC (.bl false))) sNext) (sFor [] (iSeq (eMet "World" "columns" m_World_columns (eVar 5) (aCons (eVar 10) aNil))) (.nm 14) (sIf [] (bNot (eTest (eCall m_law_same (aCons (eMet "World" "cell" m_World_cell (eVar 5) (aCons (eVar 10) (aCons (eVar 8) (aCons (eVar 14) aNil)))) (aCons (eBin ixD (eBin ixD (eBin ixD (eVar 6) (eVar 10)) (eBin subD (eVar 8) (eC (.int 1)))) (eVar 14)) aNil))))) (sRet [] (eC (.bl false))) sNext)))) (sIf [] (bOr (eTest (eBin neE (eMet "World" "many" m_World_many (eVar 5) (aCons (eVar 10) aNil)) (eVar 11))) (eTest (eBin neE (eMet "World" "names" m_World_names (eVar 5) aNil) (eLc (iSeq (eVar 3)) (.nm 15) bYes (eBin ixD (eVar 15) (eC (.int 0))) [15])))) (sRet [] (eC (.bl false))) sNext)))))))))))))))))
def b_law : SEnv → SRes :=
  (sSeq (sFor [] (iArg rng1D (aCons (eCall maxD (aCons (eC (.int 1)) (aCons (eCall minD (aCons (eC (.int 3)) (aCons (eCall lenD (aCons (eVar 0) aNil)) aNil))) aNil))) aNil)) (.nm 1) L1_law) (sRet [] (eC (.bl true))))
def m_law : List Dat → Res Dat := defD 1 16 b_law
theorem o_law (x0 : Dat) : m_law [x0] = retOf (b_law [some (.frz x0), none, none, none, none, none, none, none, none, none, none, none, none, none, none, none]) := Eq.trans (show m_law [x0] = retOf (b_law (startS 16 [x0])) from defD_open (n := 1) rfl) rfl
end RM

/-! PA: plans as data of their own; what the program's looks at plans tell. No program text here. -/
namespace RM
open PySem PySem.Spec PyProof.Rows L2 VL
inductive Rule where
  | num (lo hi : Int) | word (lo hi : Int) | unlike (lo hi : Int) | pick (os : List (Str × Int)) | flag (s : Int) | serial (f s : Int) | link (t : Str) | sum (a b : Str) | copy (a b : Str)
structure Col where
  name : Str
  rule : Rule
structure Tab where
  name : Str
  many : Int
  cols : List Col
abbrev Plan := List Tab
def optD (o : Str × Int) : Dat := .tup [.str o.1, .int o.2]
def Rule.kind : Rule → Str
  | .num _ _ => "num"
  | .word _ _ => "word"
  | .unlike _ _ => "unlike"
  | .pick _ => "pick"
  | .flag _ => "flag"
  | .serial _ _ => "serial"
  | .link _ => "link"
  | .sum _ _ => "sum"
  | .copy _ _ => "copy"
def Rule.args : Rule → List Dat
  | .num a b => [.int a, .int b]
  | .word a b => [.int a, .int b]
  | .unlike a b => [.int a, .int b]
  | .pick os => [.tup (os.map optD)]
  | .flag s => [.int s]
  | .serial a b => [.int a, .int b]
  | .link t => [.str t]
  | .sum a b => [.str a, .str b]
  | .copy a b => [.str a, .str b]
def Rule.dat (r : Rule) : Dat := .tup (.str r.kind :: r.args)
def Col.dat (c : Col) : Dat := .tup [.str c.name, c.rule.dat]
def Tab.dat (t : Tab) : Dat := .tup [.str t.name, .int t.many, .lst (t.cols.map Col.dat)]
def planD (p : Plan) : Dat := .lst (p.map Tab.dat)
/-! ### what is asked of parts -/
def small (c : Nat) : Bool := decide (97 ≤ c) && decide (c ≤ 122)
def wordB (s : Str) (most : Int) : Bool := decide (1 ≤ s.length) && decide ((s.length : Int) ≤ most) && s.cps.toList.all small
def gCount (d : Dat) (lo hi : Int) : Bool := match d with
  | .int i => decide (lo ≤ i) && decide (i ≤ hi)
  | _ => false
def gWord (d : Dat) (most : Int) : Bool := match d with
  | .str s => wordB s most
  | _ => false
theorem is_count_eq {d : Dat} (h : pl d = true) (lo hi : Int) : m_is_count [d, .int lo, .int hi] = .ok (.bl (gCount d lo hi)) := by
  rw [o_is_count]
  cases d <;> simp [b_is_count, gCount, pl] at h ⊢
  rename_i i
  by_cases q : lo ≤ i <;> simp [q]
theorem need_plans_eq (b : Bool) : m_need_plans [.bl b] = if b = true then .ok .non else .exc "BadPlan" := by
  rw [o_need_plans]
  cases b <;> simp [b_need_plans]
theorem small_in (c : Nat) : decide (c ∈ ("abcdefghijklmnopqrstuvwxyz" : Str).cps.toList) = small c := by
  have e : ("abcdefghijklmnopqrstuvwxyz" : Str).cps.toList = (List.range 26).map (· + 97) := by decide +kernel
  rw [e, Bool.eq_iff_iff, decide_eq_true_eq]
  unfold small
  simp only [List.mem_map, List.mem_range, Bool.and_eq_true, decide_eq_true_eq]
  constructor
  · rintro ⟨a, h, rfl⟩; omega
  · rintro ⟨h1, h2⟩; exact ⟨c - 97, by omega, by omega⟩
theorem inD_sign (c : Nat) : inD (.str ⟨#[c]⟩) (.str "abcdefghijklmnopqrstuvwxyz") = .ok (.bl (small c)) := by
  rw [← small_in]
  rfl
theorem lenD_str {z : Str} (h : z.length ≤ 1000) : lenD [.str z] = .ok (.int z.length) := if_pos (Nat.le_trans h (by decide))
theorem str_len (s : Str) : s.cps.toList.length = s.length := by simp [Str.length]
theorem is_word_eq {d : Dat} (h : pl d = true) (most : Int) (hm : most ≤ 1000) : m_is_word [d, .int most] = .ok (.bl (gWord d most)) := by
  rw [o_is_word]
  cases d <;> simp [b_is_word, gWord, pl] at h ⊢
  rename_i s
  rw [lenD_str h.1]
  simp [wordB]
  by_cases q1 : 1 ≤ s.length
  · have q1' : (1 : Int) ≤ s.length := by omega
    by_cases q2 : (s.length : Int) ≤ most
    · simp [q1, q1', q2]
      have e : eLc (iSeq (eVar 0)) (.nm 2) bYes (eBin inD (eVar 2) (eC (.str "abcdefghijklmnopqrstuvwxyz"))) [2] [some (.str s), some (.int most), none] = .ok (.lst ((s.cps.toList.map small).map Dat.bl)) := by
        refine eLc_eq (ds := s.cps.toList.map fun c => Dat.str ⟨#[c]⟩) (by simp) ?_ ?_
        · simp only [List.length_map, str_len]; exact Nat.le_trans h.1 (by decide)
        · rw [List.map_map]
          refine lcD_every _ fun c _ => ⟨_, bindU_nm, ?_⟩
          simp [wipeE, inD_sign]
      rw [e]
      simp only [Res.bind_ok, allD_map, Res.toS_ok, retOf_ret]
      simp
    · simp [q1, q1', q2]
  · have q1' : ¬ (1 : Int) ≤ s.length := by omega
    simp [q1, q1']
@[simp] theorem k_num_word : (("num" : Str) = "word") = False := eq_false (by decide +kernel)
@[simp] theorem k_num_unlike : (("num" : Str) = "unlike") = False := eq_false (by decide +kernel)
@[simp] theorem k_num_pick : (("num" : Str) = "pick") = False := eq_false (by decide +kernel)
@[simp] theorem k_num_flag : (("num" : Str) = "flag") = False := eq_false (by decide +kernel)
@[simp] theorem k_num_serial : (("num" : Str) = "serial") = False := eq_false (by decide +kernel)
@[simp] theorem k_num_link : (("num" : Str) = "link") = False := eq_false (by decide +kernel)
@[simp] theorem k_num_sum : (("num" : Str) = "sum") = False := eq_false (by decide +kernel)
@[simp] theorem k_num_copy : (("num" : Str) = "copy") = False := eq_false (by decide +kernel)
@[simp] theorem k_word_num : (("word" : Str) = "num") = False := eq_false (by decide +kernel)
@[simp] theorem k_word_unlike : (("word" : Str) = "unlike") = False := eq_false (by decide +kernel)
@[simp] theorem k_word_pick : (("word" : Str) = "pick") = False := eq_false (by decide +kernel)
@[simp] theorem k_word_flag : (("word" : Str) = "flag") = False := eq_false (by decide +kernel)
@[simp] theorem k_word_serial : (("word" : Str) = "serial") = False := eq_false (by decide +kernel)
@[simp] theorem k_word_link : (("word" : Str) = "link") = False := eq_false (by decide +kernel)
@[simp] theorem k_word_sum : (("word" : Str) = "sum") = False := eq_false (by decide +kernel)
@[simp] theorem k_word_copy : (("word" : Str) = "copy") = False := eq_false (by decide +kernel)
@[simp] theorem k_unlike_num : (("unlike" : Str) = "num") = False := eq_false (by decide +kernel)
@[simp] theorem k_unlike_word : (("unlike" : Str) = "word") = False := eq_false (by decide +kernel)
@[simp] theorem k_unlike_pick : (("unlike" : Str) = "pick") = False := eq_false (by decide +kernel)
@[simp] theorem k_unlike_flag : (("unlike" : Str) = "flag") = False := eq_false (by decide +kernel)
@[simp] theorem k_unlike_serial : (("unlike" : Str) = "serial") = False := eq_false (by decide +kernel)
@[simp] theorem k_unlike_link : (("unlike" : Str) = "link") = False := eq_false (by decide +kernel)
@[simp] theorem k_unlike_sum : (("unlike" : Str) = "sum") = False := eq_false (by decide +kernel)
@[simp] theorem k_unlike_copy : (("unlike" : Str) = "copy") = False := eq_false (by decide +kernel)
@[simp] theorem k_pick_num : (("pick" : Str) = "num") = False := eq_false (by decide +kernel)
@[simp] theorem k_pick_word : (("pick" : Str) = "word") = False := eq_false (by decide +kernel)
@[simp] theorem k_pick_unlike : (("pick" : Str) = "unlike") = False := eq_false (by decide +kernel)
@[simp] theorem k_pick_flag : (("pick" : Str) = "flag") = False := eq_false (by decide +kernel)
@[simp] theorem k_pick_serial : (("pick" : Str) = "serial") = False := eq_false (by decide +kernel)
@[simp] theorem k_pick_link : (("pick" : Str) = "link") = False := eq_false (by decide +kernel)
@[simp] theorem k_pick_sum : (("pick" : Str) = "sum") = False := eq_false (by decide +kernel)
@[simp] theorem k_pick_copy : (("pick" : Str) = "copy") = False := eq_false (by decide +kernel)
@[simp] theorem k_flag_num : (("flag" : Str) = "num") = False := eq_false (by decide +kernel)
@[simp] theorem k_flag_word : (("flag" : Str) = "word") = False := eq_false (by decide +kernel)
@[simp] theorem k_flag_unlike : (("flag" : Str) = "unlike") = False := eq_false (by decide +kernel)
@[simp] theorem k_flag_pick : (("flag" : Str) = "pick") = False := eq_false (by decide +kernel)
@[simp] theorem k_flag_serial : (("flag" : Str) = "serial") = False := eq_false (by decide +kernel)
@[simp] theorem k_flag_link : (("flag" : Str) = "link") = False := eq_false (by decide +kernel)
@[simp] theorem k_flag_sum : (("flag" : Str) = "sum") = False := eq_false (by decide +kernel)
@[simp] theorem k_flag_copy : (("flag" : Str) = "copy") = False := eq_false (by decide +kernel)
@[simp] theorem k_serial_num : (("serial" : Str) = "num") = False := eq_false (by decide +kernel)
@[simp] theorem k_serial_word : (("serial" : Str) = "word") = False := eq_false (by decide +kernel)
@[simp] theorem k_serial_unlike : (("serial" : Str) = "unlike") = False := eq_false (by decide +kernel)
@[simp] theorem k_serial_pick : (("serial" : Str) = "pick") = False := eq_false (by decide +kernel)
@[simp] theorem k_serial_flag : (("serial" : Str) = "flag") = False := eq_false (by decide +kernel)
@[simp] theorem k_serial_link : (("serial" : Str) = "link") = False := eq_false (by decide +kernel)
@[simp] theorem k_serial_sum : (("serial" : Str) = "sum") = False := eq_false (by decide +kernel)
@[simp] theorem k_serial_copy : (("serial" : Str) = "copy") = False := eq_false (by decide +kernel)
@[simp] theorem k_link_num : (("link" : Str) = "num") = False := eq_false (by decide +kernel)
@[simp] theorem k_link_word : (("link" : Str) = "word") = False := eq_false (by decide +kernel)
@[simp] theorem k_link_unlike : (("link" : Str) = "unlike") = False := eq_false (by decide +kernel)
@[simp] theorem k_link_pick : (("link" : Str) = "pick") = False := eq_false (by decide +kernel)
@[simp] theorem k_link_flag : (("link" : Str) = "flag") = False := eq_false (by decide +kernel)
@[simp] theorem k_link_serial : (("link" : Str) = "serial") = False := eq_false (by decide +kernel)
@[simp] theorem k_link_sum : (("link" : Str) = "sum") = False := eq_false (by decide +kernel)
@[simp] theorem k_link_copy : (("link" : Str) = "copy") = False := eq_false (by decide +kernel)
@[simp] theorem k_sum_num : (("sum" : Str) = "num") = False := eq_false (by decide +kernel)
@[simp] theorem k_sum_word : (("sum" : Str) = "word") = False := eq_false (by decide +kernel)
@[simp] theorem k_sum_unlike : (("sum" : Str) = "unlike") = False := eq_false (by decide +kernel)
@[simp] theorem k_sum_pick : (("sum" : Str) = "pick") = False := eq_false (by decide +kernel)
@[simp] theorem k_sum_flag : (("sum" : Str) = "flag") = False := eq_false (by decide +kernel)
@[simp] theorem k_sum_serial : (("sum" : Str) = "serial") = False := eq_false (by decide +kernel)
@[simp] theorem k_sum_link : (("sum" : Str) = "link") = False := eq_false (by decide +kernel)
@[simp] theorem k_sum_copy : (("sum" : Str) = "copy") = False := eq_false (by decide +kernel)
@[simp] theorem k_copy_num : (("copy" : Str) = "num") = False := eq_false (by decide +kernel)
@[simp] theorem k_copy_word : (("copy" : Str) = "word") = False := eq_false (by decide +kernel)
@[simp] theorem k_copy_unlike : (("copy" : Str) = "unlike") = False := eq_false (by decide +kernel)
@[simp] theorem k_copy_pick : (("copy" : Str) = "pick") = False := eq_false (by decide +kernel)
@[simp] theorem k_copy_flag : (("copy" : Str) = "flag") = False := eq_false (by decide +kernel)
@[simp] theorem k_copy_serial : (("copy" : Str) = "serial") = False := eq_false (by decide +kernel)
@[simp] theorem k_copy_link : (("copy" : Str) = "link") = False := eq_false (by decide +kernel)
@[simp] theorem k_copy_sum : (("copy" : Str) = "sum") = False := eq_false (by decide +kernel)

def gLe (a b : Dat) : Bool := match a, b with
  | .int i, .int j => decide (i ≤ j)
  | _, _ => false
theorem gCount_int {d : Dat} {lo hi : Int} (h : gCount d lo hi = true) : ∃ i, d = .int i ∧ lo ≤ i ∧ i ≤ hi := by
  cases d <;> simp [gCount] at h
  exact ⟨_, rfl, h⟩
theorem gWord_str {d : Dat} {m : Int} (h : gWord d m = true) : ∃ s, d = .str s ∧ wordB s m = true := by
  cases d <;> simp [gWord] at h
  exact ⟨_, rfl, h⟩
theorem is_range_eq {a b : Dat} (ha : pl a = true) (hb : pl b = true) (lo hi : Int) : m_is_range [a, b, .int lo, .int hi] = .ok (.bl (gCount a lo hi && gCount b lo hi && gLe a b)) := by
  rw [o_is_range]
  simp [b_is_range, is_count_eq ha, is_count_eq hb]
  cases e1 : gCount a lo hi with
  | false => simp
  | true =>
    cases e2 : gCount b lo hi with
    | false => simp
    | true =>
      obtain ⟨i, rfl, _⟩ := gCount_int e1
      obtain ⟨j, rfl, _⟩ := gCount_int e2
      simp [gLe]
def optOf : Dat → Option (Str × Int)
  | .tup [.str s, .int i] => if wordB s 6 && (decide (1 ≤ i) && decide (i ≤ 9)) then some (s, i) else none
  | _ => none
theorem pl_tup {xs : List Dat} (h : pl (.tup xs) = true) : ∀ d ∈ xs, pl d = true := pls_mem.mp (by rw [pl] at h; exact h)
theorem pl_lst {xs : List Dat} (h : pl (.lst xs) = true) : ∀ d ∈ xs, pl d = true := pls_mem.mp (by rw [pl] at h; exact h)
theorem is_option_eq {d : Dat} (h : pl d = true) : m_is_option [d] = .ok (.bl (optOf d).isSome) := by
  rw [o_is_option]
  cases d with
  | tup xs =>
    have hm := pl_tup h
    simp [b_is_option]
    by_cases q : xs.length = 2
    · match xs, q with
      | [a, b], _ =>
        have ha := hm a (by simp)
        have hb := hm b (by simp)
        simp [is_word_eq ha, is_count_eq hb]
        cases e : gWord a 6 with
        | false =>
          cases a <;> simp [optOf]
          rename_i s
          cases b <;> simp [optOf]
          simp [gWord] at e
          simp [e]
        | true =>
          obtain ⟨s, rfl, hs⟩ := gWord_str e
          simp
          cases b <;> simp [optOf, gCount, hs]
          split <;> simp_all
    · have q' : ¬ (xs.length : Int) = 2 := by omega
      simp [q']
      match xs, q with
      | [], _ => rfl
      | [a], _ => cases a <;> rfl
      | a :: b :: c :: r, _ => cases a <;> cases b <;> rfl
      | [a, b], q => exact absurd rfl q
  | _ => simp [pl] at h <;> simp [b_is_option, optOf]

def optsOf : List Dat → Option (List (Str × Int))
  | [] => some []
  | d :: r => match optOf d, optsOf r with
    | some o, some os => some (o :: os)
    | _, _ => none
theorem optOf_dat {d : Dat} {o : Str × Int} (h : optOf d = some o) : d = optD o ∧ wordB o.1 6 = true ∧ 1 ≤ o.2 ∧ o.2 ≤ 9 := by
  unfold optOf at h
  split at h
  · split at h
    · rename_i s i q
      cases h
      simp at q
      exact ⟨rfl, q.1, q.2⟩
    · cases h
  · cases h
theorem optOf_self {o : Str × Int} (h : wordB o.1 6 = true) (h1 : 1 ≤ o.2) (h2 : o.2 ≤ 9) : optOf (optD o) = some o := by
  show (if wordB o.1 6 && (decide (1 ≤ o.2) && decide (o.2 ≤ 9)) then some (o.1, o.2) else none) = _
  rw [h]
  simp [h1, h2]
theorem optsOf_dat : ∀ {ds : List Dat} {os : List (Str × Int)}, optsOf ds = some os → ds = os.map optD ∧ ∀ o ∈ os, wordB o.1 6 = true ∧ 1 ≤ o.2 ∧ o.2 ≤ 9
  | [], os, h => by cases h; simp
  | d :: r, os, h => by
    unfold optsOf at h
    split at h
    · rename_i o os' e1 e2
      cases h
      obtain ⟨a1, a2⟩ := optOf_dat e1
      obtain ⟨b1, b2⟩ := optsOf_dat e2
      refine ⟨by rw [a1, b1]; rfl, fun z hz => ?_⟩
      rcases List.mem_cons.mp hz with rfl | hz
      · exact a2
      · exact b2 z hz
    · cases h
theorem optsOf_self : ∀ {os : List (Str × Int)}, (∀ o ∈ os, wordB o.1 6 = true ∧ 1 ≤ o.2 ∧ o.2 ≤ 9) → optsOf (os.map optD) = some os
  | [], _ => rfl
  | o :: os, h => by
    obtain ⟨a, b, c⟩ := h o List.mem_cons_self
    rw [List.map_cons, optsOf, optOf_self a b c, optsOf_self fun z hz => h z (List.mem_cons_of_mem _ hz)]
theorem optsOf_all : ∀ ds : List Dat, (optsOf ds).isSome = (ds.map fun d => (optOf d).isSome).all id
  | [] => rfl
  | d :: r => by
    rw [optsOf, List.map_cons, List.all_cons, ← optsOf_all r]
    cases optOf d with
    | none => rfl
    | some o => cases optsOf r <;> rfl
def optsOk (os : List (Str × Int)) : Bool := decide (1 ≤ os.length) && decide (os.length ≤ 4) && decide ((once (os.map Prod.fst)).length = os.length)
def gOptions : Dat → Option (List (Str × Int))
  | .tup xs => match optsOf xs with
    | some os => if optsOk os then some os else none
    | none => none
  | _ => none
theorem optsOf_len {ds : List Dat} {os : List (Str × Int)} (h : optsOf ds = some os) : ds.length = os.length := by
  rw [(optsOf_dat h).1, List.length_map]
theorem countD_strs {ys : List Str} (h : ys.length ≤ 4000) : countD (.lst (ys.map Dat.str)) = .ok (.int ((once ys).length : Nat)) := by
  show (match strsD (ys.map Dat.str), intsD (ys.map Dat.str) with
    | some ys, _ => if ys.length ≤ 4000 then Res.ok (Dat.int ((once ys).length : Nat)) else .stuck
    | none, some ns => if ns.length ≤ 4000 then .ok (.int ((once ns).length : Nat)) else .stuck
    | none, none => .stuck) = _
  rw [strsD_map]
  exact if_pos h
theorem are_options_eq {d : Dat} (h : pl d = true) : m_are_options [d] = .ok (.bl (gOptions d).isSome) := by
  rw [o_are_options]
  cases d with
  | tup xs =>
    have hm := pl_tup h
    simp [b_are_options, gOptions]
    by_cases q1 : 1 ≤ xs.length
    · have q1' : (1 : Int) ≤ xs.length := by omega
      by_cases q2 : xs.length ≤ 4
      · have q2' : (xs.length : Int) ≤ 4 := by omega
        have e1 : eLc (iSeq (eVar 0)) (.nm 1) bYes (eCall m_is_option (aCons (eVar 1) aNil)) [1] [some (.tup xs), none] = .ok (.lst ((xs.map fun d => (optOf d).isSome).map Dat.bl)) := by
          refine eLc_eq (ds := xs) (by simp) (Nat.le_trans q2 (by decide)) ?_
          rw [List.map_map]
          conv => lhs; arg 5; rw [← List.map_id xs]
          refine lcD_every _ fun d hd => ⟨_, bindU_nm, ?_⟩
          simp [wipeE, is_option_eq (hm d hd)]
        simp only [q1', q2', if_true, decide_true, Res.bind_ok, toB_bl, Bool.not_true, Res.toS_ok, Bool.false_eq_true, if_false, thn_next, sSeq_eq, sIf_eq, view_eq, viewF_cons, viewF_nil, viewAt_frz, viewAt_none, bNot_eq, eTest_eq, eCall_eq, aCons_eq, aNil_eq, e1, allD_map, ← optsOf_all]
        cases e2 : optsOf xs with
        | none => simp
        | some os =>
          have e3 : eLc (iSeq (eVar 0)) (.nm 1) bYes (eBin ixD (eVar 1) (eC (.int 0))) [1] [some (.tup xs), none] = .ok (.lst ((os.map Prod.fst).map Dat.str)) := by
            refine eLc_eq (ds := xs) (by simp) (Nat.le_trans q2 (by decide)) ?_
            rw [(optsOf_dat e2).1, List.map_map]
            refine lcD_every _ fun d hd => ⟨_, bindU_nm, ?_⟩
            simp [wipeE, optD]
          have hl := optsOf_len e2
          have e4 := countD_strs (ys := os.map Prod.fst) (by simp; omega)
          rw [List.map_map] at e3 e4
          simp [e3, e4, optsOk]
          have g1 : 1 ≤ os.length := by omega
          have g2 : os.length ≤ 4 := by omega
          simp only [g1, g2, true_and, hl]
          by_cases q3 : (once (os.map Prod.fst)).length = os.length
          · have q3' : (((once (os.map Prod.fst)).length : Nat) : Int) = os.length := by omega
            simp [q3]
          · have q3' : ¬ (((once (os.map Prod.fst)).length : Nat) : Int) = os.length := by omega
            simp [q3, q3']
      · have q2' : ¬ (xs.length : Int) ≤ 4 := by omega
        simp [q1', q2']
        cases e2 : optsOf xs with
        | none => rfl
        | some os => have hl := optsOf_len e2; simp [optsOk]; intro _ z; omega
    · have q1' : ¬ (1 : Int) ≤ xs.length := by omega
      simp [q1']
      cases e2 : optsOf xs with
      | none => rfl
      | some os => have hl := optsOf_len e2; simp [optsOk]; intro z; omega
  | _ => simp [pl] at h <;> simp [b_are_options, gOptions]
end RM

namespace RM
open PySem PySem.Spec PyProof.Rows L2 VL
theorem eqB_lst0 {xs : List Dat} (h : pl (.lst xs) = true) (hd : dep (.lst xs) ≤ 64) : eqB (.lst xs) (.lst []) = some xs.isEmpty := by
  obtain ⟨x, h1, h2⟩ := pl_shaped h hd
  show eqPy (.lst xs) (.lst []) = _
  unfold eqPy
  have e0 : toPy (.lst []) = some (.list []) := by simp [toPy, toPys]
  rw [h1, e0]
  simp only [h2, Bool.true_and]
  rw [if_pos (by decide)]
  rw [toPy] at h1
  cases e : toPys xs with
  | none => rw [e] at h1; cases h1
  | some ys =>
    rw [e] at h1
    cases h1
    cases xs with
    | nil => rw [toPys] at e; cases e; simp [PyData.eqv, PyData.eqvAll]
    | cons z zs =>
      cases ys with
      | nil => rw [toPys] at e; split at e <;> cases e
      | cons y ys => simp [PyData.eqv, PyData.eqvAll]
theorem eq_lst0 {xs : List Dat} (h : pl (.lst xs) = true) (hd : dep (.lst xs) ≤ 64) : eqD (.lst xs) (.lst []) = .ok (.bl xs.isEmpty) := by unfold eqD; rw [eqB_lst0 h hd]
theorem ne_lst0 {xs : List Dat} (h : pl (.lst xs) = true) (hd : dep (.lst xs) ≤ 64) : neD (.lst xs) (.lst []) = .ok (.bl (!xs.isEmpty)) := by unfold neD; rw [eqB_lst0 h hd]
theorem kind_ok (r : Rule) : PyData.strOk r.kind = true := by cases r <;> (simp only [Rule.kind]; decide +kernel)
theorem kind_len (r : Rule) : r.kind.length ≤ 6 := by cases r <;> (simp only [Rule.kind]; decide +kernel)
theorem pl_str {s : Str} (h : PyData.strOk s = true) (hl : s.length ≤ 1000) : pl (.str s) = true := by rw [pl, h]; simp [hl]
def kindD (cols : List Col) (name : Str) : Dat := match cols.find? fun c => decide (c.name = name) with
  | some c => .str c.rule.kind
  | none => .non
theorem rule_kind_eq {cols : List Col} (hl : cols.length ≤ 1000) (name : Str) : m_rule_kind [.lst (cols.map Col.dat), .str name] = .ok (kindD cols name) := by
  rw [o_rule_kind]
  have e1 : eLc (iSeq (eVar 0)) (.tp [(.nm 3), (.nm 4)]) (eTest (eBin eqD (eVar 3) (eVar 1))) (eBin ixD (eVar 4) (eC (.int 0))) [3, 4] [some (.lst (cols.map Col.dat)), some (.str name), none, none, none] = .ok (.lst ((cols.filter fun c => decide (c.name = name)).map fun c => .str c.rule.kind)) := by
    refine eLc_eq (ds := cols.map Col.dat) (by simp) (by simp; exact le_big hl) ?_
    refine lcD_gen _ fun c _ => ⟨[(3, .str c.name), (4, c.rule.dat)], ?_, ?_, fun _ => ?_⟩
    · simp [Col.dat]
    · simp [wipeE]
    · simp [wipeE, Rule.dat]
  have e2 : ∀ l : List Col, neD (.lst (l.map fun c => .str c.rule.kind)) (.lst []) = .ok (.bl (!l.isEmpty)) := fun l => by
    rw [ne_lst0]
    · simp
    · rw [pl]; refine pls_mem.mpr fun d hd => ?_
      obtain ⟨c, _, rfl⟩ := List.mem_map.mp hd
      exact pl_str (kind_ok _) (Nat.le_trans (kind_len _) (by decide))
    · rw [dep]
      have : deps (l.map fun c => .str c.rule.kind) ≤ 0 := deps_le.mpr fun d hd => by
        obtain ⟨c, _, rfl⟩ := List.mem_map.mp hd
        simp [dep]
      omega
  unfold kindD
  rw [← List.head?_filter]
  generalize (cols.filter fun c => decide (c.name = name)) = l at e1
  cases l with
  | nil => have := e2 []; simp at this; simp [b_rule_kind, e1, this]
  | cons c r => have := e2 (c :: r); simp at this; simp [b_rule_kind, e1, this]
def gSpan (many : Int) (a b : Dat) : Bool := match a, b with
  | .int i, .int j => decide (many ≤ j - i + 1)
  | _, _ => false
section
variable {a b : Dat} {many : Int}
theorem plain_num (ha : pl a = true) (hb : pl b = true) : m_is_plain_rule [.tup [.str "num", a, b], .int many] = .ok (.bl (gCount a (-999) 999 && gCount b (-999) 999 && gLe a b)) := by
  rw [o_is_plain_rule]; simp [b_is_plain_rule, is_range_eq ha hb]
theorem plain_word (ha : pl a = true) (hb : pl b = true) : m_is_plain_rule [.tup [.str "word", a, b], .int many] = .ok (.bl (gCount a 1 6 && gCount b 1 6 && gLe a b)) := by
  rw [o_is_plain_rule]; simp [b_is_plain_rule, is_range_eq ha hb]
theorem plain_unlike (ha : pl a = true) (hb : pl b = true) : m_is_plain_rule [.tup [.str "unlike", a, b], .int many] = .ok (.bl (gCount a (-999) 999 && gCount b (-999) 999 && gLe a b && gSpan many a b)) := by
  rw [o_is_plain_rule]; simp [b_is_plain_rule, is_range_eq ha hb]
  cases e1 : gCount a (-999) 999 with
  | false => simp
  | true =>
    cases e2 : gCount b (-999) 999 with
    | false => simp
    | true =>
      obtain ⟨i, rfl, _⟩ := gCount_int e1
      obtain ⟨j, rfl, _⟩ := gCount_int e2
      by_cases q : i ≤ j <;> simp [gLe, gSpan, q]
theorem plain_pick (ha : pl a = true) : m_is_plain_rule [.tup [.str "pick", a], .int many] = .ok (.bl (gOptions a).isSome) := by
  rw [o_is_plain_rule]; simp [b_is_plain_rule, are_options_eq ha]
theorem plain_flag (ha : pl a = true) : m_is_plain_rule [.tup [.str "flag", a], .int many] = .ok (.bl (gCount a 0 100)) := by
  rw [o_is_plain_rule]; simp [b_is_plain_rule, is_count_eq ha]
theorem plain_serial (ha : pl a = true) (hb : pl b = true) : m_is_plain_rule [.tup [.str "serial", a, b], .int many] = .ok (.bl (gCount a (-999) 999 && gCount b (-999) 999)) := by
  rw [o_is_plain_rule]; simp [b_is_plain_rule, is_count_eq ha, is_count_eq hb]
  cases gCount a (-999) 999 <;> simp
end
/-! ### a rule behind tables and columns -/
def isNumK : Rule → Bool
  | .num _ _ => true
  | .serial _ _ => true
  | .sum _ _ => true
  | .unlike _ _ => true
  | _ => false
def colOf (cols : List Col) (name : Str) : Option Col := cols.find? fun c => decide (c.name = name)
def tabOf (tabs : List Tab) (name : Str) : Option Tab := tabs.find? fun t => decide (t.name = name)
def numCol (cols : List Col) (name : Str) : Bool := match colOf cols name with
  | some c => isNumK c.rule
  | none => false
def copyOk (tabs : List Tab) (cols : List Col) (a b : Str) : Bool := match colOf cols a with
  | some c => match c.rule with
    | .link t => match tabOf tabs t with
      | some tb => (colOf tb.cols b).isSome
      | none => false
    | _ => false
  | none => false
def ruleOk (many : Int) (tabs : List Tab) (cols : List Col) : Rule → Bool
  | .num a b => decide (-999 ≤ a) && decide (b ≤ 999) && decide (a ≤ b)
  | .word a b => decide (1 ≤ a) && decide (b ≤ 6) && decide (a ≤ b)
  | .unlike a b => decide (-999 ≤ a) && decide (b ≤ 999) && decide (a ≤ b) && decide (many ≤ b - a + 1)
  | .pick os => optsOk os && os.all fun o => wordB o.1 6 && (decide (1 ≤ o.2) && decide (o.2 ≤ 9))
  | .flag s => decide (0 ≤ s) && decide (s ≤ 100)
  | .serial a b => decide (-999 ≤ a) && decide (a ≤ 999) && decide (-999 ≤ b) && decide (b ≤ 999)
  | .link t => decide (t ∈ tabs.map Tab.name)
  | .sum a b => numCol cols a && numCol cols b
  | .copy a b => copyOk tabs cols a b
def gLink (tabs : List Tab) (a : Dat) : Bool := match a with
  | .str t => decide (t ∈ tabs.map Tab.name)
  | _ => false
def gSum (cols : List Col) (a b : Dat) : Bool := match a, b with
  | .str x, .str y => numCol cols x && numCol cols y
  | _, _ => false
def gCopy (tabs : List Tab) (cols : List Col) (a b : Dat) : Bool := match a, b with
  | .str x, .str y => copyOk tabs cols x y
  | _, _ => false
/-- a rule's shape -/
def ruleOf : Dat → Option Rule
  | .tup [.str k, .int a, .int b] => if k = "num" then some (.num a b) else if k = "word" then some (.word a b) else if k = "unlike" then some (.unlike a b) else if k = "serial" then some (.serial a b) else none
  | .tup [.str k, .str a, .str b] => if k = "sum" then some (.sum a b) else if k = "copy" then some (.copy a b) else none
  | .tup [.str k, .int a] => if k = "flag" then some (.flag a) else none
  | .tup [.str k, .str a] => if k = "link" then some (.link a) else none
  | .tup [.str k, .tup os] => if k = "pick" then (optsOf os).map .pick else none
  | _ => none
def gRule (many : Int) (tabs : List Tab) (cols : List Col) (d : Dat) : Option Rule := match ruleOf d with
  | some r => if ruleOk many tabs cols r then some r else none
  | none => none
theorem ruleOf_dat {d : Dat} {r : Rule} (h : ruleOf d = some r) : d = r.dat := by
  unfold ruleOf at h
  split at h
  all_goals try (cases h; done)
  all_goals (repeat' split at h)
  all_goals try (cases h; done)
  all_goals try (rename_i q; cases h; subst q; rfl)
  all_goals try (rename_i q _; cases h; subst q; rfl)
  all_goals try (rename_i q _ _; cases h; subst q; rfl)
  all_goals try (rename_i q _ _ _; cases h; subst q; rfl)
  rename_i os q
  subst q
  cases e : optsOf os with
  | none => rw [e] at h; cases h
  | some o => rw [e] at h; cases h; rw [(optsOf_dat e).1]; rfl
end RM

namespace RM
open PySem PySem.Spec PyProof.Rows L2 VL
def kLens : List (Str × Int) := [("num", 3), ("pick", 2), ("word", 3), ("flag", 2), ("link", 2), ("serial", 3), ("sum", 3), ("copy", 3), ("unlike", 3)]
theorem look_num : lookS kLens "num" = some 3 := by decide +kernel
@[simp] theorem nik_num : notInKD [("num", 3), ("pick", 2), ("word", 3), ("flag", 2), ("link", 2), ("serial", 3), ("sum", 3), ("copy", 3), ("unlike", 3)] (.str "num") = .ok (.bl false) := by show Res.ok (Dat.bl (!(lookS kLens "num").isSome)) = _; rw [look_num]; rfl
@[simp] theorem itk_num : itemKD [("num", 3), ("pick", 2), ("word", 3), ("flag", 2), ("link", 2), ("serial", 3), ("sum", 3), ("copy", 3), ("unlike", 3)] (.str "num") = .ok (.int 3) := by show (match lookS kLens "num" with | some i => Res.ok (Dat.int i) | none => .stuck) = _; rw [look_num]
@[simp] theorem nsc_num : notInD (.str "num") (.tup [.str "sum", .str "copy"]) = .ok (.bl true) := by show Res.ok (Dat.bl (!inV (.str "num") [.str "sum", .str "copy"])) = _; rw [show inV (.str "num") [.str "sum", .str "copy"] = false from by decide +kernel]; rfl
@[simp] theorem inn_num : inD (.str "num") (.tup [.str "num", .str "serial", .str "sum", .str "unlike"]) = .ok (.bl true) := by show Res.ok (Dat.bl (inV (.str "num") [.str "num", .str "serial", .str "sum", .str "unlike"])) = _; rw [show inV (.str "num") [.str "num", .str "serial", .str "sum", .str "unlike"] = true from by decide +kernel]
theorem look_word : lookS kLens "word" = some 3 := by decide +kernel
@[simp] theorem nik_word : notInKD [("num", 3), ("pick", 2), ("word", 3), ("flag", 2), ("link", 2), ("serial", 3), ("sum", 3), ("copy", 3), ("unlike", 3)] (.str "word") = .ok (.bl false) := by show Res.ok (Dat.bl (!(lookS kLens "word").isSome)) = _; rw [look_word]; rfl
@[simp] theorem itk_word : itemKD [("num", 3), ("pick", 2), ("word", 3), ("flag", 2), ("link", 2), ("serial", 3), ("sum", 3), ("copy", 3), ("unlike", 3)] (.str "word") = .ok (.int 3) := by show (match lookS kLens "word" with | some i => Res.ok (Dat.int i) | none => .stuck) = _; rw [look_word]
@[simp] theorem nsc_word : notInD (.str "word") (.tup [.str "sum", .str "copy"]) = .ok (.bl true) := by show Res.ok (Dat.bl (!inV (.str "word") [.str "sum", .str "copy"])) = _; rw [show inV (.str "word") [.str "sum", .str "copy"] = false from by decide +kernel]; rfl
@[simp] theorem inn_word : inD (.str "word") (.tup [.str "num", .str "serial", .str "sum", .str "unlike"]) = .ok (.bl false) := by show Res.ok (Dat.bl (inV (.str "word") [.str "num", .str "serial", .str "sum", .str "unlike"])) = _; rw [show inV (.str "word") [.str "num", .str "serial", .str "sum", .str "unlike"] = false from by decide +kernel]
theorem look_unlike : lookS kLens "unlike" = some 3 := by decide +kernel
@[simp] theorem nik_unlike : notInKD [("num", 3), ("pick", 2), ("word", 3), ("flag", 2), ("link", 2), ("serial", 3), ("sum", 3), ("copy", 3), ("unlike", 3)] (.str "unlike") = .ok (.bl false) := by show Res.ok (Dat.bl (!(lookS kLens "unlike").isSome)) = _; rw [look_unlike]; rfl
@[simp] theorem itk_unlike : itemKD [("num", 3), ("pick", 2), ("word", 3), ("flag", 2), ("link", 2), ("serial", 3), ("sum", 3), ("copy", 3), ("unlike", 3)] (.str "unlike") = .ok (.int 3) := by show (match lookS kLens "unlike" with | some i => Res.ok (Dat.int i) | none => .stuck) = _; rw [look_unlike]
@[simp] theorem nsc_unlike : notInD (.str "unlike") (.tup [.str "sum", .str "copy"]) = .ok (.bl true) := by show Res.ok (Dat.bl (!inV (.str "unlike") [.str "sum", .str "copy"])) = _; rw [show inV (.str "unlike") [.str "sum", .str "copy"] = false from by decide +kernel]; rfl
@[simp] theorem inn_unlike : inD (.str "unlike") (.tup [.str "num", .str "serial", .str "sum", .str "unlike"]) = .ok (.bl true) := by show Res.ok (Dat.bl (inV (.str "unlike") [.str "num", .str "serial", .str "sum", .str "unlike"])) = _; rw [show inV (.str "unlike") [.str "num", .str "serial", .str "sum", .str "unlike"] = true from by decide +kernel]
theorem look_pick : lookS kLens "pick" = some 2 := by decide +kernel
@[simp] theorem nik_pick : notInKD [("num", 3), ("pick", 2), ("word", 3), ("flag", 2), ("link", 2), ("serial", 3), ("sum", 3), ("copy", 3), ("unlike", 3)] (.str "pick") = .ok (.bl false) := by show Res.ok (Dat.bl (!(lookS kLens "pick").isSome)) = _; rw [look_pick]; rfl
@[simp] theorem itk_pick : itemKD [("num", 3), ("pick", 2), ("word", 3), ("flag", 2), ("link", 2), ("serial", 3), ("sum", 3), ("copy", 3), ("unlike", 3)] (.str "pick") = .ok (.int 2) := by show (match lookS kLens "pick" with | some i => Res.ok (Dat.int i) | none => .stuck) = _; rw [look_pick]
@[simp] theorem nsc_pick : notInD (.str "pick") (.tup [.str "sum", .str "copy"]) = .ok (.bl true) := by show Res.ok (Dat.bl (!inV (.str "pick") [.str "sum", .str "copy"])) = _; rw [show inV (.str "pick") [.str "sum", .str "copy"] = false from by decide +kernel]; rfl
@[simp] theorem inn_pick : inD (.str "pick") (.tup [.str "num", .str "serial", .str "sum", .str "unlike"]) = .ok (.bl false) := by show Res.ok (Dat.bl (inV (.str "pick") [.str "num", .str "serial", .str "sum", .str "unlike"])) = _; rw [show inV (.str "pick") [.str "num", .str "serial", .str "sum", .str "unlike"] = false from by decide +kernel]
theorem look_flag : lookS kLens "flag" = some 2 := by decide +kernel
@[simp] theorem nik_flag : notInKD [("num", 3), ("pick", 2), ("word", 3), ("flag", 2), ("link", 2), ("serial", 3), ("sum", 3), ("copy", 3), ("unlike", 3)] (.str "flag") = .ok (.bl false) := by show Res.ok (Dat.bl (!(lookS kLens "flag").isSome)) = _; rw [look_flag]; rfl
@[simp] theorem itk_flag : itemKD [("num", 3), ("pick", 2), ("word", 3), ("flag", 2), ("link", 2), ("serial", 3), ("sum", 3), ("copy", 3), ("unlike", 3)] (.str "flag") = .ok (.int 2) := by show (match lookS kLens "flag" with | some i => Res.ok (Dat.int i) | none => .stuck) = _; rw [look_flag]
@[simp] theorem nsc_flag : notInD (.str "flag") (.tup [.str "sum", .str "copy"]) = .ok (.bl true) := by show Res.ok (Dat.bl (!inV (.str "flag") [.str "sum", .str "copy"])) = _; rw [show inV (.str "flag") [.str "sum", .str "copy"] = false from by decide +kernel]; rfl
@[simp] theorem inn_flag : inD (.str "flag") (.tup [.str "num", .str "serial", .str "sum", .str "unlike"]) = .ok (.bl false) := by show Res.ok (Dat.bl (inV (.str "flag") [.str "num", .str "serial", .str "sum", .str "unlike"])) = _; rw [show inV (.str "flag") [.str "num", .str "serial", .str "sum", .str "unlike"] = false from by decide +kernel]
theorem look_serial : lookS kLens "serial" = some 3 := by decide +kernel
@[simp] theorem nik_serial : notInKD [("num", 3), ("pick", 2), ("word", 3), ("flag", 2), ("link", 2), ("serial", 3), ("sum", 3), ("copy", 3), ("unlike", 3)] (.str "serial") = .ok (.bl false) := by show Res.ok (Dat.bl (!(lookS kLens "serial").isSome)) = _; rw [look_serial]; rfl
@[simp] theorem itk_serial : itemKD [("num", 3), ("pick", 2), ("word", 3), ("flag", 2), ("link", 2), ("serial", 3), ("sum", 3), ("copy", 3), ("unlike", 3)] (.str "serial") = .ok (.int 3) := by show (match lookS kLens "serial" with | some i => Res.ok (Dat.int i) | none => .stuck) = _; rw [look_serial]
@[simp] theorem nsc_serial : notInD (.str "serial") (.tup [.str "sum", .str "copy"]) = .ok (.bl true) := by show Res.ok (Dat.bl (!inV (.str "serial") [.str "sum", .str "copy"])) = _; rw [show inV (.str "serial") [.str "sum", .str "copy"] = false from by decide +kernel]; rfl
@[simp] theorem inn_serial : inD (.str "serial") (.tup [.str "num", .str "serial", .str "sum", .str "unlike"]) = .ok (.bl true) := by show Res.ok (Dat.bl (inV (.str "serial") [.str "num", .str "serial", .str "sum", .str "unlike"])) = _; rw [show inV (.str "serial") [.str "num", .str "serial", .str "sum", .str "unlike"] = true from by decide +kernel]
theorem look_link : lookS kLens "link" = some 2 := by decide +kernel
@[simp] theorem nik_link : notInKD [("num", 3), ("pick", 2), ("word", 3), ("flag", 2), ("link", 2), ("serial", 3), ("sum", 3), ("copy", 3), ("unlike", 3)] (.str "link") = .ok (.bl false) := by show Res.ok (Dat.bl (!(lookS kLens "link").isSome)) = _; rw [look_link]; rfl
@[simp] theorem itk_link : itemKD [("num", 3), ("pick", 2), ("word", 3), ("flag", 2), ("link", 2), ("serial", 3), ("sum", 3), ("copy", 3), ("unlike", 3)] (.str "link") = .ok (.int 2) := by show (match lookS kLens "link" with | some i => Res.ok (Dat.int i) | none => .stuck) = _; rw [look_link]
@[simp] theorem nsc_link : notInD (.str "link") (.tup [.str "sum", .str "copy"]) = .ok (.bl true) := by show Res.ok (Dat.bl (!inV (.str "link") [.str "sum", .str "copy"])) = _; rw [show inV (.str "link") [.str "sum", .str "copy"] = false from by decide +kernel]; rfl
@[simp] theorem inn_link : inD (.str "link") (.tup [.str "num", .str "serial", .str "sum", .str "unlike"]) = .ok (.bl false) := by show Res.ok (Dat.bl (inV (.str "link") [.str "num", .str "serial", .str "sum", .str "unlike"])) = _; rw [show inV (.str "link") [.str "num", .str "serial", .str "sum", .str "unlike"] = false from by decide +kernel]
theorem look_sum : lookS kLens "sum" = some 3 := by decide +kernel
@[simp] theorem nik_sum : notInKD [("num", 3), ("pick", 2), ("word", 3), ("flag", 2), ("link", 2), ("serial", 3), ("sum", 3), ("copy", 3), ("unlike", 3)] (.str "sum") = .ok (.bl false) := by show Res.ok (Dat.bl (!(lookS kLens "sum").isSome)) = _; rw [look_sum]; rfl
@[simp] theorem itk_sum : itemKD [("num", 3), ("pick", 2), ("word", 3), ("flag", 2), ("link", 2), ("serial", 3), ("sum", 3), ("copy", 3), ("unlike", 3)] (.str "sum") = .ok (.int 3) := by show (match lookS kLens "sum" with | some i => Res.ok (Dat.int i) | none => .stuck) = _; rw [look_sum]
@[simp] theorem nsc_sum : notInD (.str "sum") (.tup [.str "sum", .str "copy"]) = .ok (.bl false) := by show Res.ok (Dat.bl (!inV (.str "sum") [.str "sum", .str "copy"])) = _; rw [show inV (.str "sum") [.str "sum", .str "copy"] = true from by decide +kernel]; rfl
@[simp] theorem inn_sum : inD (.str "sum") (.tup [.str "num", .str "serial", .str "sum", .str "unlike"]) = .ok (.bl true) := by show Res.ok (Dat.bl (inV (.str "sum") [.str "num", .str "serial", .str "sum", .str "unlike"])) = _; rw [show inV (.str "sum") [.str "num", .str "serial", .str "sum", .str "unlike"] = true from by decide +kernel]
theorem look_copy : lookS kLens "copy" = some 3 := by decide +kernel
@[simp] theorem nik_copy : notInKD [("num", 3), ("pick", 2), ("word", 3), ("flag", 2), ("link", 2), ("serial", 3), ("sum", 3), ("copy", 3), ("unlike", 3)] (.str "copy") = .ok (.bl false) := by show Res.ok (Dat.bl (!(lookS kLens "copy").isSome)) = _; rw [look_copy]; rfl
@[simp] theorem itk_copy : itemKD [("num", 3), ("pick", 2), ("word", 3), ("flag", 2), ("link", 2), ("serial", 3), ("sum", 3), ("copy", 3), ("unlike", 3)] (.str "copy") = .ok (.int 3) := by show (match lookS kLens "copy" with | some i => Res.ok (Dat.int i) | none => .stuck) = _; rw [look_copy]
@[simp] theorem nsc_copy : notInD (.str "copy") (.tup [.str "sum", .str "copy"]) = .ok (.bl false) := by show Res.ok (Dat.bl (!inV (.str "copy") [.str "sum", .str "copy"])) = _; rw [show inV (.str "copy") [.str "sum", .str "copy"] = true from by decide +kernel]; rfl
@[simp] theorem inn_copy : inD (.str "copy") (.tup [.str "num", .str "serial", .str "sum", .str "unlike"]) = .ok (.bl false) := by show Res.ok (Dat.bl (inV (.str "copy") [.str "num", .str "serial", .str "sum", .str "unlike"])) = _; rw [show inV (.str "copy") [.str "num", .str "serial", .str "sum", .str "unlike"] = false from by decide +kernel]
@[simp] theorem inn_non : inD .non (.tup [.str "num", .str "serial", .str "sum", .str "unlike"]) = .ok (.bl false) := by show Res.ok (Dat.bl (inV .non [.str "num", .str "serial", .str "sum", .str "unlike"])) = _; rw [show inV .non [.str "num", .str "serial", .str "sum", .str "unlike"] = false from by decide +kernel]

@[simp] theorem nwu_num : inD (.str "num") (.tup [.str "num", .str "word", .str "unlike"]) = .ok (.bl true) := by show Res.ok (Dat.bl (inV (.str "num") [.str "num", .str "word", .str "unlike"])) = _; rw [show inV (.str "num") [.str "num", .str "word", .str "unlike"] = true from by decide +kernel]
@[simp] theorem nwu_word : inD (.str "word") (.tup [.str "num", .str "word", .str "unlike"]) = .ok (.bl true) := by show Res.ok (Dat.bl (inV (.str "word") [.str "num", .str "word", .str "unlike"])) = _; rw [show inV (.str "word") [.str "num", .str "word", .str "unlike"] = true from by decide +kernel]
@[simp] theorem nwu_unlike : inD (.str "unlike") (.tup [.str "num", .str "word", .str "unlike"]) = .ok (.bl true) := by show Res.ok (Dat.bl (inV (.str "unlike") [.str "num", .str "word", .str "unlike"])) = _; rw [show inV (.str "unlike") [.str "num", .str "word", .str "unlike"] = true from by decide +kernel]
@[simp] theorem nwu_pick : inD (.str "pick") (.tup [.str "num", .str "word", .str "unlike"]) = .ok (.bl false) := by show Res.ok (Dat.bl (inV (.str "pick") [.str "num", .str "word", .str "unlike"])) = _; rw [show inV (.str "pick") [.str "num", .str "word", .str "unlike"] = false from by decide +kernel]
@[simp] theorem nwu_flag : inD (.str "flag") (.tup [.str "num", .str "word", .str "unlike"]) = .ok (.bl false) := by show Res.ok (Dat.bl (inV (.str "flag") [.str "num", .str "word", .str "unlike"])) = _; rw [show inV (.str "flag") [.str "num", .str "word", .str "unlike"] = false from by decide +kernel]
@[simp] theorem nwu_serial : inD (.str "serial") (.tup [.str "num", .str "word", .str "unlike"]) = .ok (.bl false) := by show Res.ok (Dat.bl (inV (.str "serial") [.str "num", .str "word", .str "unlike"])) = _; rw [show inV (.str "serial") [.str "num", .str "word", .str "unlike"] = false from by decide +kernel]
@[simp] theorem nwu_link : inD (.str "link") (.tup [.str "num", .str "word", .str "unlike"]) = .ok (.bl false) := by show Res.ok (Dat.bl (inV (.str "link") [.str "num", .str "word", .str "unlike"])) = _; rw [show inV (.str "link") [.str "num", .str "word", .str "unlike"] = false from by decide +kernel]
@[simp] theorem nwu_sum : inD (.str "sum") (.tup [.str "num", .str "word", .str "unlike"]) = .ok (.bl false) := by show Res.ok (Dat.bl (inV (.str "sum") [.str "num", .str "word", .str "unlike"])) = _; rw [show inV (.str "sum") [.str "num", .str "word", .str "unlike"] = false from by decide +kernel]
@[simp] theorem nwu_copy : inD (.str "copy") (.tup [.str "num", .str "word", .str "unlike"]) = .ok (.bl false) := by show Res.ok (Dat.bl (inV (.str "copy") [.str "num", .str "word", .str "unlike"])) = _; rw [show inV (.str "copy") [.str "num", .str "word", .str "unlike"] = false from by decide +kernel]
@[simp] theorem nwu_x : inD (.str "") (.tup [.str "num", .str "word", .str "unlike"]) = .ok (.bl false) := by show Res.ok (Dat.bl (inV (.str "") [.str "num", .str "word", .str "unlike"])) = _; rw [show inV (.str "") [.str "num", .str "word", .str "unlike"] = false from by decide +kernel]
@[simp] theorem nus_num : inD (.str "num") (.tup [.str "num", .str "unlike", .str "serial", .str "sum"]) = .ok (.bl true) := by show Res.ok (Dat.bl (inV (.str "num") [.str "num", .str "unlike", .str "serial", .str "sum"])) = _; rw [show inV (.str "num") [.str "num", .str "unlike", .str "serial", .str "sum"] = true from by decide +kernel]
@[simp] theorem nus_word : inD (.str "word") (.tup [.str "num", .str "unlike", .str "serial", .str "sum"]) = .ok (.bl false) := by show Res.ok (Dat.bl (inV (.str "word") [.str "num", .str "unlike", .str "serial", .str "sum"])) = _; rw [show inV (.str "word") [.str "num", .str "unlike", .str "serial", .str "sum"] = false from by decide +kernel]
@[simp] theorem nus_unlike : inD (.str "unlike") (.tup [.str "num", .str "unlike", .str "serial", .str "sum"]) = .ok (.bl true) := by show Res.ok (Dat.bl (inV (.str "unlike") [.str "num", .str "unlike", .str "serial", .str "sum"])) = _; rw [show inV (.str "unlike") [.str "num", .str "unlike", .str "serial", .str "sum"] = true from by decide +kernel]
@[simp] theorem nus_pick : inD (.str "pick") (.tup [.str "num", .str "unlike", .str "serial", .str "sum"]) = .ok (.bl false) := by show Res.ok (Dat.bl (inV (.str "pick") [.str "num", .str "unlike", .str "serial", .str "sum"])) = _; rw [show inV (.str "pick") [.str "num", .str "unlike", .str "serial", .str "sum"] = false from by decide +kernel]
@[simp] theorem nus_flag : inD (.str "flag") (.tup [.str "num", .str "unlike", .str "serial", .str "sum"]) = .ok (.bl false) := by show Res.ok (Dat.bl (inV (.str "flag") [.str "num", .str "unlike", .str "serial", .str "sum"])) = _; rw [show inV (.str "flag") [.str "num", .str "unlike", .str "serial", .str "sum"] = false from by decide +kernel]
@[simp] theorem nus_serial : inD (.str "serial") (.tup [.str "num", .str "unlike", .str "serial", .str "sum"]) = .ok (.bl true) := by show Res.ok (Dat.bl (inV (.str "serial") [.str "num", .str "unlike", .str "serial", .str "sum"])) = _; rw [show inV (.str "serial") [.str "num", .str "unlike", .str "serial", .str "sum"] = true from by decide +kernel]
@[simp] theorem nus_link : inD (.str "link") (.tup [.str "num", .str "unlike", .str "serial", .str "sum"]) = .ok (.bl false) := by show Res.ok (Dat.bl (inV (.str "link") [.str "num", .str "unlike", .str "serial", .str "sum"])) = _; rw [show inV (.str "link") [.str "num", .str "unlike", .str "serial", .str "sum"] = false from by decide +kernel]
@[simp] theorem nus_sum : inD (.str "sum") (.tup [.str "num", .str "unlike", .str "serial", .str "sum"]) = .ok (.bl true) := by show Res.ok (Dat.bl (inV (.str "sum") [.str "num", .str "unlike", .str "serial", .str "sum"])) = _; rw [show inV (.str "sum") [.str "num", .str "unlike", .str "serial", .str "sum"] = true from by decide +kernel]
@[simp] theorem nus_copy : inD (.str "copy") (.tup [.str "num", .str "unlike", .str "serial", .str "sum"]) = .ok (.bl false) := by show Res.ok (Dat.bl (inV (.str "copy") [.str "num", .str "unlike", .str "serial", .str "sum"])) = _; rw [show inV (.str "copy") [.str "num", .str "unlike", .str "serial", .str "sum"] = false from by decide +kernel]
@[simp] theorem nus_x : inD (.str "") (.tup [.str "num", .str "unlike", .str "serial", .str "sum"]) = .ok (.bl false) := by show Res.ok (Dat.bl (inV (.str "") [.str "num", .str "unlike", .str "serial", .str "sum"])) = _; rw [show inV (.str "") [.str "num", .str "unlike", .str "serial", .str "sum"] = false from by decide +kernel]
theorem look_kinds {k : Str} {n : Int} (h : lookS kLens k = some n) : k = "num" ∨ k = "word" ∨ k = "unlike" ∨ k = "pick" ∨ k = "flag" ∨ k = "serial" ∨ k = "link" ∨ k = "sum" ∨ k = "copy" := by
  unfold lookS kLens at h
  simp only [List.find?_cons] at h
  by_cases q1 : ("num" : Str) = k; · simp [← q1]
  by_cases q2 : ("pick" : Str) = k; · simp [← q2]
  by_cases q3 : ("word" : Str) = k; · simp [← q3]
  by_cases q4 : ("flag" : Str) = k; · simp [← q4]
  by_cases q5 : ("link" : Str) = k; · simp [← q5]
  by_cases q6 : ("serial" : Str) = k; · simp [← q6]
  by_cases q7 : ("sum" : Str) = k; · simp [← q7]
  by_cases q8 : ("copy" : Str) = k; · simp [← q8]
  by_cases q9 : ("unlike" : Str) = k; · simp [← q9]
  simp [q1, q2, q3, q4, q5, q6, q7, q8, q9] at h
theorem look_none {k : Str} (h : lookS kLens k = none) : k ≠ "num" ∧ k ≠ "word" ∧ k ≠ "unlike" ∧ k ≠ "pick" ∧ k ≠ "flag" ∧ k ≠ "serial" ∧ k ≠ "link" ∧ k ≠ "sum" ∧ k ≠ "copy" := by
  refine ⟨?_, ?_, ?_, ?_, ?_, ?_, ?_, ?_, ?_⟩ <;> (rintro rfl)
  · rw [look_num] at h; cases h
  · rw [look_word] at h; cases h
  · rw [look_unlike] at h; cases h
  · rw [look_pick] at h; cases h
  · rw [look_flag] at h; cases h
  · rw [look_serial] at h; cases h
  · rw [look_link] at h; cases h
  · rw [look_sum] at h; cases h
  · rw [look_copy] at h; cases h
structure Ctx (tabs : List Tab) (cols : List Col) : Prop where
  tl : tabs.length ≤ 1000
  cl : cols.length ≤ 1000
  tn : ∀ t ∈ tabs, PyData.strOk t.name = true
  tc : ∀ t ∈ tabs, t.cols.length ≤ 1000
  lk : ∀ c ∈ cols, ∀ t, c.rule = .link t → t ∈ tabs.map Tab.name
  nd : (cols.map Col.name).Nodup
theorem kind_numCol (cols : List Col) (a : Str) : inD (kindD cols a) (.tup [.str "num", .str "serial", .str "sum", .str "unlike"]) = .ok (.bl (numCol cols a)) := by
  unfold kindD numCol colOf
  cases cols.find? fun c => decide (c.name = a) with
  | none => simp
  | some c => cases e : c.rule <;> simp [isNumK, Rule.kind, e]
theorem names_eq {tabs : List Tab} (hl : tabs.length ≤ 1000) (x0 x1 x3 : Option Dat) : eLc (iSeq (eVar 2)) (.tp [(.nm 6), (.nm 7), (.nm 8)]) bYes (eVar 6) [6, 7, 8] [x0, x1, some (.lst (tabs.map Tab.dat)), x3, none, none, none, none, none] = .ok (.lst ((tabs.map Tab.name).map Dat.str)) := by
  refine eLc_eq (ds := tabs.map Tab.dat) (by simp) (by simp; exact le_big hl) ?_
  rw [List.map_map]
  refine lcD_every _ fun t _ => ⟨[(6, .str t.name), (7, .int t.many), (8, .lst (t.cols.map Col.dat))], ?_, ?_⟩
  · simp [Tab.dat]
  · simp [wipeE]
section
variable {a b : Dat} {many : Int} {tabs : List Tab} {cols : List Col}
theorem tup_ne {xs : List Dat} (h : pl (.tup xs) = true) (hd : dep (.tup xs) ≤ 64) (h0 : xs ≠ []) : eqD (.tup xs) (.tup []) = .ok (.bl false) := by
  rw [eq_tup0 h hd]
  cases xs with
  | nil => exact absurd rfl h0
  | cons x xs => rfl
theorem rule_num_eq (h : pl (.tup [.str "num", a, b]) = true) (hd : dep (.tup [.str "num", a, b]) ≤ 64) (C : Ctx tabs cols) : m_is_rule [.tup [.str "num", a, b], .int many, .lst (tabs.map Tab.dat), .lst (cols.map Col.dat)] = .ok (.bl (gCount a (-999) 999 && gCount b (-999) 999 && gLe a b)) := by
  rw [o_is_rule]
  have ha := pl_tup h a (by simp)
  have hb := pl_tup h b (by simp)
  have e := names_eq C.tl (some (.tup [.str "num", a, b])) (some (.int many)) (some (.lst (cols.map Col.dat)))
  simp [b_is_rule, tup_ne h hd, e, plain_num ha hb]
theorem rule_word_eq (h : pl (.tup [.str "word", a, b]) = true) (hd : dep (.tup [.str "word", a, b]) ≤ 64) (C : Ctx tabs cols) : m_is_rule [.tup [.str "word", a, b], .int many, .lst (tabs.map Tab.dat), .lst (cols.map Col.dat)] = .ok (.bl (gCount a 1 6 && gCount b 1 6 && gLe a b)) := by
  rw [o_is_rule]
  have ha := pl_tup h a (by simp)
  have hb := pl_tup h b (by simp)
  have e := names_eq C.tl (some (.tup [.str "word", a, b])) (some (.int many)) (some (.lst (cols.map Col.dat)))
  simp [b_is_rule, tup_ne h hd, e, plain_word ha hb]
theorem rule_unlike_eq (h : pl (.tup [.str "unlike", a, b]) = true) (hd : dep (.tup [.str "unlike", a, b]) ≤ 64) (C : Ctx tabs cols) : m_is_rule [.tup [.str "unlike", a, b], .int many, .lst (tabs.map Tab.dat), .lst (cols.map Col.dat)] = .ok (.bl (gCount a (-999) 999 && gCount b (-999) 999 && gLe a b && gSpan many a b)) := by
  rw [o_is_rule]
  have ha := pl_tup h a (by simp)
  have hb := pl_tup h b (by simp)
  have e := names_eq C.tl (some (.tup [.str "unlike", a, b])) (some (.int many)) (some (.lst (cols.map Col.dat)))
  simp [b_is_rule, tup_ne h hd, e, plain_unlike ha hb]
theorem rule_serial_eq (h : pl (.tup [.str "serial", a, b]) = true) (hd : dep (.tup [.str "serial", a, b]) ≤ 64) (C : Ctx tabs cols) : m_is_rule [.tup [.str "serial", a, b], .int many, .lst (tabs.map Tab.dat), .lst (cols.map Col.dat)] = .ok (.bl (gCount a (-999) 999 && gCount b (-999) 999)) := by
  rw [o_is_rule]
  have ha := pl_tup h a (by simp)
  have hb := pl_tup h b (by simp)
  have e := names_eq C.tl (some (.tup [.str "serial", a, b])) (some (.int many)) (some (.lst (cols.map Col.dat)))
  simp [b_is_rule, tup_ne h hd, e, plain_serial ha hb]
theorem rule_pick_eq (h : pl (.tup [.str "pick", a]) = true) (hd : dep (.tup [.str "pick", a]) ≤ 64) (C : Ctx tabs cols) : m_is_rule [.tup [.str "pick", a], .int many, .lst (tabs.map Tab.dat), .lst (cols.map Col.dat)] = .ok (.bl ((gOptions a).isSome)) := by
  rw [o_is_rule]
  have ha := pl_tup h a (by simp)
  have e := names_eq C.tl (some (.tup [.str "pick", a])) (some (.int many)) (some (.lst (cols.map Col.dat)))
  simp [b_is_rule, tup_ne h hd, e, plain_pick ha]
theorem rule_flag_eq (h : pl (.tup [.str "flag", a]) = true) (hd : dep (.tup [.str "flag", a]) ≤ 64) (C : Ctx tabs cols) : m_is_rule [.tup [.str "flag", a], .int many, .lst (tabs.map Tab.dat), .lst (cols.map Col.dat)] = .ok (.bl (gCount a 0 100)) := by
  rw [o_is_rule]
  have ha := pl_tup h a (by simp)
  have e := names_eq C.tl (some (.tup [.str "flag", a])) (some (.int many)) (some (.lst (cols.map Col.dat)))
  simp [b_is_rule, tup_ne h hd, e, plain_flag ha]

theorem pl_str_ok {s : Str} (h : pl (.str s) = true) : PyData.strOk s = true ∧ s.length ≤ 1000 := by
  rw [pl, Bool.and_eq_true, decide_eq_true_eq] at h; exact ⟨h.2, h.1⟩
theorem names_ok (C : Ctx tabs cols) : ∀ y ∈ tabs.map Tab.name, PyData.strOk y = true := fun y hy => by
  obtain ⟨t, ht, rfl⟩ := List.mem_map.mp hy
  exact C.tn t ht
theorem rule_link_eq (h : pl (.tup [.str "link", a]) = true) (hd : dep (.tup [.str "link", a]) ≤ 64) (C : Ctx tabs cols) : m_is_rule [.tup [.str "link", a], .int many, .lst (tabs.map Tab.dat), .lst (cols.map Col.dat)] = .ok (.bl (gLink tabs a)) := by
  rw [o_is_rule]
  have ha := pl_tup h a (by simp)
  have e := names_eq C.tl (some (.tup [.str "link", a])) (some (.int many)) (some (.lst (cols.map Col.dat)))
  cases a with
  | str t =>
    have e2 := inD_strs (pl_str_ok ha).1 (names_ok C)
    rw [List.map_map] at e e2
    simp [b_is_rule, tup_ne h hd, e, e2, gLink]
  | _ => simp [pl] at ha <;> simp [b_is_rule, tup_ne h hd, e, gLink]
theorem rule_sum_eq (h : pl (.tup [.str "sum", a, b]) = true) (hd : dep (.tup [.str "sum", a, b]) ≤ 64) (C : Ctx tabs cols) : m_is_rule [.tup [.str "sum", a, b], .int many, .lst (tabs.map Tab.dat), .lst (cols.map Col.dat)] = .ok (.bl (gSum cols a b)) := by
  rw [o_is_rule]
  have ha := pl_tup h a (by simp)
  have hb := pl_tup h b (by simp)
  have e := names_eq C.tl (some (.tup [.str "sum", a, b])) (some (.int many)) (some (.lst (cols.map Col.dat)))
  have t0 := tup_ne h hd (by simp)
  clear h hd
  cases a with
  | str x =>
    cases b with
    | str y =>
      simp [b_is_rule, t0, e, rule_kind_eq C.cl, kind_numCol, gSum]
      cases numCol cols x <;> simp
    | _ => simp [pl] at hb <;> simp [b_is_rule, t0, e, gSum]
  | _ => simp [pl] at ha <;> simp [b_is_rule, t0, e, gSum]
theorem find_nodup {c : Col} (C : Ctx tabs cols) {x : Str} (h : colOf cols x = some c) : (cols.filter fun c => decide (c.name = x)) = [c] := by
  have nd := C.nd
  clear C
  unfold colOf at h
  induction cols with
  | nil => cases h
  | cons z r ih =>
    rw [List.map_cons, List.nodup_cons] at nd
    rw [List.find?_cons] at h
    by_cases q : z.name = x
    · simp [q] at h
      subst h
      have : (r.filter fun c => decide (c.name = x)) = [] := by
        rw [List.filter_eq_nil_iff]
        intro c hc e
        exact nd.1 (List.mem_map.mpr ⟨c, hc, by rw [of_decide_eq_true e, q]⟩)
      rw [List.filter_cons_of_pos (by simp [q]), this]
    · simp [q] at h
      rw [List.filter_cons_of_neg (by simp [q])]
      exact ih h nd.2
theorem index_names : ∀ {tabs : List Tab} {t : Str} {tb : Tab}, tabOf tabs t = some tb → ∃ j, indexD (.lst ((tabs.map Tab.name).map Dat.str)) (.str t) = .ok (.int (j : Nat)) ∧ tabs[j]? = some tb := by
  intro tabs t tb h
  have e0 : ((((tabs.map Tab.name).map Dat.str).map vOf).findIdx? (fun y => eqV y (vOf (.str t)))) = tabs.findIdx? (fun z => decide (z.name = t)) := by
    rw [List.map_map, List.map_map, List.findIdx?_map]
    rfl
  have e1 : (flatD (.str t) && ((tabs.map Tab.name).map Dat.str).all flatD) = true := by
    simp [flatD]
  unfold tabOf at h
  obtain ⟨j, hj⟩ : ∃ j, tabs.findIdx? (fun z => decide (z.name = t)) = some j := by
    cases q : tabs.findIdx? (fun z => decide (z.name = t)) with
    | none =>
      rw [List.findIdx?_eq_none_iff] at q
      have := List.find?_some h
      have hm := List.mem_of_find?_eq_some h
      rw [q _ hm] at this
      cases this
    | some j => exact ⟨j, rfl⟩
  refine ⟨j, ?_, ?_⟩
  · unfold indexD
    show (if (flatD (.str t) && ((tabs.map Tab.name).map Dat.str).all flatD) = true then _ else _) = _
    rw [if_pos e1, e0, hj]
  · have := List.find?_eq_some_iff_getElem.mp h
    obtain ⟨h1, i, hi, h2, h3⟩ := this
    rw [List.findIdx?_eq_some_iff_getElem] at hj
    obtain ⟨k1, k2, k3⟩ := hj
    have : i = j := by
      rcases Nat.lt_trichotomy i j with z | z | z
      · have := k3 i z; rw [h2] at this; exact absurd h1 (by simpa using this)
      · exact z
      · have := h3 j z; simp at this k2; exact absurd k2 this
    subst this
    rw [List.getElem?_eq_getElem hi, h2]

theorem neD_non {s : Str} (h : PyData.strOk s = true) : neD .non (.str s) = .ok (.bl true) := by
  have e : eqB .non (.str s) = some false := by
    show eqPy .non (.str s) = _
    unfold eqPy
    rw [toPy, toPy]
    have z : (SeqAt.shaped .none && SeqAt.shaped (.str s)) = true := by unfold SeqAt.shaped; rw [PyData.canLay0, PyData.canLay0, h]; rfl
    simp only [z, if_true]
    rfl
  unfold neD; rw [e]; rfl
theorem tabOf_some {t : Str} (h : t ∈ tabs.map Tab.name) : ∃ tb, tabOf tabs t = some tb := by
  obtain ⟨z, hz, rfl⟩ := List.mem_map.mp h
  cases q : tabOf tabs z.name with
  | some tb => exact ⟨tb, rfl⟩
  | none =>
    unfold tabOf at q
    rw [List.find?_eq_none] at q
    exact absurd (q z hz) (by simp)
theorem rule_copy_eq (h : pl (.tup [.str "copy", a, b]) = true) (hd : dep (.tup [.str "copy", a, b]) ≤ 64) (C : Ctx tabs cols) : m_is_rule [.tup [.str "copy", a, b], .int many, .lst (tabs.map Tab.dat), .lst (cols.map Col.dat)] = .ok (.bl (gCopy tabs cols a b)) := by
  rw [o_is_rule]
  have ha := pl_tup h a (by simp)
  have hb := pl_tup h b (by simp)
  have e := names_eq C.tl (some (.tup [.str "copy", a, b])) (some (.int many)) (some (.lst (cols.map Col.dat)))
  have t0 := tup_ne h hd (by simp)
  clear h hd
  cases a with
  | str x =>
    cases b with
    | str y =>
      simp [b_is_rule, t0, e, rule_kind_eq C.cl, gCopy, copyOk]
      cases q : colOf cols x with
      | none =>
        have : kindD cols x = .non := by unfold kindD; unfold colOf at q; rw [q]
        simp [this, neD_non (show PyData.strOk "link" = true by decide +kernel)]
      | some c =>
        have kd : kindD cols x = .str c.rule.kind := by unfold kindD; unfold colOf at q; rw [q]
        have hc : c ∈ cols := List.mem_of_find?_eq_some q
        cases qr : c.rule with
        | link t =>
          obtain ⟨tb, htb⟩ := tabOf_some (C.lk c hc t qr)
          have eg : ∀ x0 x1 x4 : Option Dat, eLc (iSeq (eVar 3)) (.tp [(.nm 6), (.nm 8)]) (eTest (eBin eqD (eVar 6) (eBin ixD (eVar 0) (eC (.int 1))))) (eVar 8) [6, 8] [some (.tup [.str "copy", .str x, .str y]), x0, x1, some (.lst (cols.map Col.dat)), x4, none, none, none, none] = .ok (.lst [c.rule.dat]) := fun x0 x1 x4 => by
            have z : eLc (iSeq (eVar 3)) (.tp [(.nm 6), (.nm 8)]) (eTest (eBin eqD (eVar 6) (eBin ixD (eVar 0) (eC (.int 1))))) (eVar 8) [6, 8] [some (.tup [.str "copy", .str x, .str y]), x0, x1, some (.lst (cols.map Col.dat)), x4, none, none, none, none] = .ok (.lst ((cols.filter fun c => decide (c.name = x)).map fun c => c.rule.dat)) := by
              refine eLc_eq (ds := cols.map Col.dat) (by simp) (by simp; exact le_big C.cl) ?_
              refine lcD_gen _ fun c _ => ⟨[(6, .str c.name), (8, c.rule.dat)], ?_, ?_, fun _ => ?_⟩
              · simp [Col.dat]
              · simp [wipeE]
              · simp [wipeE]
            rw [z, find_nodup C q]; rfl
          obtain ⟨j, hj1, hj2⟩ := index_names htb
          have hj3 : ixD (.lst (tabs.map Tab.dat)) (.int (j : Nat)) = .ok tb.dat := ixD_lst (by omega) (by simp [hj2])
          have htc := C.tc tb (List.mem_of_find?_eq_some htb)
          have k2 := rule_kind_eq htc y
          have kd' : kindD cols x = .str "link" := by rw [kd, qr]; rfl
          rw [List.map_map] at hj1
          have hj4 := hj3
          simp [kd', eg, qr, Rule.dat, Rule.kind, Rule.args, isLstD, hj1, hj3, Tab.dat, k2, htb]
          unfold kindD colOf
          cases tb.cols.find? fun c => decide (c.name = y) <;> rfl
        | _ => simp [kd, qr, Rule.kind]
    | _ => simp [pl] at hb <;> simp [b_is_rule, t0, e, gCopy]
  | _ => simp [pl] at ha <;> simp [b_is_rule, t0, e, gCopy]

theorem some_ite {α : Type} (b : Bool) (r : α) : b = (if b = true then some r else none).isSome := by cases b <;> rfl
theorem look_kind (r : Rule) : lookS kLens r.kind = some ((r.args.length : Int) + 1) := by
  cases r <;> simp only [Rule.kind, Rule.args, List.length_cons, List.length_nil] <;> decide +kernel
theorem is_rule_eq {d : Dat} (h : pl d = true) (hd : dep d ≤ 64) (C : Ctx tabs cols) : m_is_rule [d, .int many, .lst (tabs.map Tab.dat), .lst (cols.map Col.dat)] = .ok (.bl (gRule many tabs cols d).isSome) := by
  have tup0 : ∀ {xs : List Dat}, pl (.tup xs) = true → dep (.tup xs) ≤ 64 → (∀ k rest n, xs = .str k :: rest → lookS kLens k = some n → (rest.length : Int) + 1 ≠ n) → m_is_rule [.tup xs, .int many, .lst (tabs.map Tab.dat), .lst (cols.map Col.dat)] = .ok (.bl false) := by
    intro xs h hd hk
    rw [o_is_rule]
    cases xs with
    | nil => simp [b_is_rule, eq_tup0 h hd]
    | cons x rest =>
      have t0 := tup_ne h hd (by simp)
      have hx := pl_tup h x (by simp)
      cases x with
      | str k =>
        simp [b_is_rule, t0]
        cases q : lookS kLens k with
        | none =>
          have : notInKD [("num", 3), ("pick", 2), ("word", 3), ("flag", 2), ("link", 2), ("serial", 3), ("sum", 3), ("copy", 3), ("unlike", 3)] (.str k) = .ok (.bl true) := by
            show Res.ok (Dat.bl (!(lookS kLens k).isSome)) = _
            rw [q]; rfl
          simp [this]
        | some n =>
          have e1 : notInKD [("num", 3), ("pick", 2), ("word", 3), ("flag", 2), ("link", 2), ("serial", 3), ("sum", 3), ("copy", 3), ("unlike", 3)] (.str k) = .ok (.bl false) := by
            show Res.ok (Dat.bl (!(lookS kLens k).isSome)) = _
            rw [q]; rfl
          have e2 : itemKD [("num", 3), ("pick", 2), ("word", 3), ("flag", 2), ("link", 2), ("serial", 3), ("sum", 3), ("copy", 3), ("unlike", 3)] (.str k) = .ok (.int n) := by
            show (match lookS kLens k with | some i => Res.ok (Dat.int i) | none => .stuck) = _
            rw [q]
          have := hk k rest n rfl q
          simp [e1, e2, this]
      | _ => simp [pl] at hx <;> simp [b_is_rule, t0]
  cases d with
  | tup xs =>
    by_cases q : ∃ k rest n, xs = .str k :: rest ∧ lookS kLens k = some n ∧ (rest.length : Int) + 1 = n
    · obtain ⟨k, rest, n, rfl, hk, hn⟩ := q
      have two : ∀ {k : Str}, lookS kLens k = some 2 → (rest.length : Int) + 1 = 2 → ∃ a, rest = [a] := fun _ z => by
        match rest, z with
        | [a], _ => exact ⟨a, rfl⟩
        | [], z => simp at z
        | _ :: _ :: _, z => simp at z; omega
      have three : ∀ {k : Str}, lookS kLens k = some 3 → (rest.length : Int) + 1 = 3 → ∃ a b, rest = [a, b] := fun _ z => by
        match rest, z with
        | [a, b], _ => exact ⟨a, b, rfl⟩
        | [], z => simp at z
        | [_], z => simp at z
        | _ :: _ :: _ :: _, z => simp at z; omega
      rcases look_kinds hk with rfl | rfl | rfl | rfl | rfl | rfl | rfl | rfl | rfl
      · rw [look_num] at hk; cases hk; obtain ⟨a, b, rfl⟩ := three look_num hn
        rw [rule_num_eq h hd C]
        cases a <;> cases b <;> simp [gCount, gLe, gRule, ruleOf]
        rename_i i j
        simp only [ruleOk]
        by_cases z : i ≤ j
        · simp [z]; congr 1; rw [Bool.eq_iff_iff]; simp; omega
        · simp [z]
      · rw [look_word] at hk; cases hk; obtain ⟨a, b, rfl⟩ := three look_word hn
        rw [rule_word_eq h hd C]
        cases a <;> cases b <;> simp [gCount, gLe, gRule, ruleOf]
        rename_i i j
        simp only [ruleOk]
        by_cases z : i ≤ j
        · simp [z]; congr 1; rw [Bool.eq_iff_iff]; simp; omega
        · simp [z]
      · rw [look_unlike] at hk; cases hk; obtain ⟨a, b, rfl⟩ := three look_unlike hn
        rw [rule_unlike_eq h hd C]
        cases a <;> cases b <;> simp [gCount, gLe, gRule, ruleOf, gSpan]
        rename_i i j
        simp only [ruleOk]
        by_cases z : i ≤ j
        · simp [z]; congr 1; rw [Bool.eq_iff_iff]; simp; omega
        · simp [z]
      · rw [look_pick] at hk; cases hk; obtain ⟨a, rfl⟩ := two look_pick hn
        rw [rule_pick_eq h hd C]
        cases a <;> simp [gRule, ruleOf, gOptions]
        rename_i os
        cases e : optsOf os with
        | none => rfl
        | some o =>
          have h2 := (optsOf_dat e).2
          have : (o.all fun o => wordB o.1 6 && (decide (1 ≤ o.2) && decide (o.2 ≤ 9))) = true := by
            rw [List.all_eq_true]
            intro z hz
            obtain ⟨z1, z2, z3⟩ := h2 z hz
            rw [z1]; simp [z2, z3]
          have e2 : ruleOk many tabs cols (.pick o) = optsOk o := by
            show (optsOk o && o.all fun o => wordB o.1 6 && (decide (1 ≤ o.2) && decide (o.2 ≤ 9))) = _
            rw [this]; simp
          simp [e2]
          cases optsOk o <;> rfl
      · rw [look_flag] at hk; cases hk; obtain ⟨a, rfl⟩ := two look_flag hn
        rw [rule_flag_eq h hd C]
        cases a <;> simp [gRule, ruleOf, gCount]
        rename_i i
        simp only [ruleOk]
        by_cases z : 0 ≤ i <;> by_cases z2 : i ≤ 100 <;> simp [z, z2]
      · rw [look_serial] at hk; cases hk; obtain ⟨a, b, rfl⟩ := three look_serial hn
        rw [rule_serial_eq h hd C]
        cases a <;> cases b <;> simp [gCount, gRule, ruleOf]
        rename_i i j
        simp only [ruleOk]
        by_cases z : -999 ≤ i <;> by_cases z2 : i ≤ 999 <;> by_cases z3 : -999 ≤ j <;> by_cases z4 : j ≤ 999 <;> simp [z, z2, z3, z4]
      · rw [look_link] at hk; cases hk; obtain ⟨a, rfl⟩ := two look_link hn
        rw [rule_link_eq h hd C]
        cases a <;> simp [gRule, ruleOf, gLink]
        rename_i t
        simp only [ruleOk]
        by_cases z : t ∈ tabs.map Tab.name
        · simp only [z, decide_true, if_true]; simpa using z
        · simp only [z, decide_false]; simpa using z
      · rw [look_sum] at hk; cases hk; obtain ⟨a, b, rfl⟩ := three look_sum hn
        rw [rule_sum_eq h hd C]
        cases a <;> cases b <;> simp [gSum, gRule, ruleOf]
        rename_i x y
        simp only [ruleOk]
        exact some_ite _ _
      · rw [look_copy] at hk; cases hk; obtain ⟨a, b, rfl⟩ := three look_copy hn
        rw [rule_copy_eq h hd C]
        cases a <;> cases b <;> simp [gCopy, gRule, ruleOf]
        rename_i x y
        simp only [ruleOk]
        exact some_ite _ _
    · rw [tup0 h hd fun k rest n e1 e2 e3 => q ⟨k, rest, n, e1, e2, e3⟩]
      unfold gRule
      cases e : ruleOf (.tup xs) with
      | none => rfl
      | some r =>
        have := ruleOf_dat e
        unfold Rule.dat at this
        cases this
        exact absurd ⟨r.kind, r.args, _, rfl, look_kind r, rfl⟩ q
  | _ => simp [pl] at h <;> rw [o_is_rule] <;> simp [b_is_rule, gRule, ruleOf]
end
end RM

namespace RM
open PySem PySem.Spec PyProof.Rows L2 VL
def gCols (many : Int) (tabs : List Tab) : List Col → List Dat → Option (List Col)
  | acc, [] => some acc
  | acc, d :: r => match d with
    | .tup [.str n, rd] => if wordB n 4 && !decide (n ∈ acc.map Col.name) then match gRule many tabs acc rd with
        | some ru => gCols many tabs (acc ++ [⟨n, ru⟩]) r
        | none => none
      else none
    | _ => none
def gColumns (many : Int) (tabs : List Tab) : Dat → Option (List Col)
  | .lst ds => if decide (1 ≤ ds.length) && decide (ds.length ≤ 5) then gCols many tabs [] ds else none
  | _ => none
theorem small_ok {s : Str} (h : s.cps.toList.all small = true) : PyData.strOk s = true := by
  show s.cps.all (· < 0x110000) = true
  rw [← Array.all_toList]
  rw [List.all_eq_true] at h ⊢
  intro c hc
  have := h c hc
  unfold small at this
  simp at this ⊢
  omega
theorem word_ok {s : Str} {m : Int} (h : wordB s m = true) : PyData.strOk s = true ∧ 1 ≤ s.length ∧ (s.length : Int) ≤ m := by
  unfold wordB at h
  simp only [Bool.and_eq_true, decide_eq_true_eq] at h
  exact ⟨small_ok h.2, h.1.1, h.1.2⟩
theorem kindD_non (cols : List Col) (n : Str) : isNon (kindD cols n) = !decide (n ∈ cols.map Col.name) := by
  unfold kindD
  cases e : cols.find? fun c => decide (c.name = n) with
  | none =>
    rw [List.find?_eq_none] at e
    have : n ∉ cols.map Col.name := fun h => by
      obtain ⟨c, hc, rfl⟩ := List.mem_map.mp h
      exact absurd (e c hc) (by simp)
    simp [this]
  | some c =>
    have h1 := List.mem_of_find?_eq_some e
    have h2 := List.find?_some e
    have : n ∈ cols.map Col.name := List.mem_map.mpr ⟨c, h1, of_decide_eq_true h2⟩
    simp only [this]; rfl
theorem gRule_ok {many : Int} {tabs : List Tab} {cols : List Col} {d : Dat} {r : Rule} (h : gRule many tabs cols d = some r) : d = r.dat ∧ ruleOk many tabs cols r = true := by
  unfold gRule at h
  cases e : ruleOf d with
  | none => rw [e] at h; cases h
  | some z =>
    rw [e] at h
    dsimp only at h
    split at h
    · rename_i q; cases h; exact ⟨ruleOf_dat e, q⟩
    · cases h
theorem Ctx.snoc {many : Int} {tabs : List Tab} {cols : List Col} (C : Ctx tabs cols) {n : Str} {r : Rule} (hl : cols.length < 1000) (hn : n ∉ cols.map Col.name) (hr : ruleOk many tabs cols r = true) : Ctx tabs (cols ++ [⟨n, r⟩]) where
  tl := C.tl
  cl := by simp; omega
  tn := C.tn
  tc := C.tc
  lk := fun c hc t e => by
    rcases List.mem_append.mp hc with hc | hc
    · exact C.lk c hc t e
    · have := List.mem_singleton.mp hc
      subst this
      dsimp only at e
      subst e
      exact of_decide_eq_true hr
  nd := by
    rw [List.map_append, List.nodup_append]
    exact ⟨C.nd, by simp, fun a ha b hb e => by simp at hb; subst hb; subst e; exact hn ha⟩
section
variable {many : Int} {tabs : List Tab}
theorem look_loop : ∀ (ds : List Dat) (acc : List Col) (x0 : Dat) (x4 : Option Slot), Ctx tabs acc → acc.length + ds.length ≤ 1000 → (∀ d ∈ ds, pl d = true ∧ dep d ≤ 63) →
    retOf (forD (.nm 4) (sSeq (sExpr [] (eCall m_need_plans (aCons (eAnd (eCall isiD (aCons (eVar 4) (aCons (eC (.ty "tuple")) aNil))) (eAnd (eBin eqD (eCall lenD (aCons (eVar 4) aNil)) (eC (.int 2))) (eCall m_is_word (aCons (eBin ixD (eVar 4) (eC (.int 0))) (aCons (eC (.int 4)) aNil))))) aNil))) (sSeq (sExpr [3] (eCall m_need_plans (aCons (eAnd (eUn isND (eCall m_rule_kind (aCons (eVar 3) (aCons (eBin ixD (eVar 4) (eC (.int 0))) aNil)))) (eCall m_is_rule (aCons (eBin ixD (eVar 4) (eC (.int 1))) (aCons (eVar 1) (aCons (eVar 2) (aCons (eVar 3) aNil)))))) aNil))) (sApp 3 [] (eVar 4)))) ds
      [some (.frz x0), some (.frz (.int many)), some (.frz (.lst (tabs.map Tab.dat))), some (.own (acc.map Col.dat)), x4]) = if (gCols many tabs acc ds).isSome then .ok .non else .exc "BadPlan" := by
  intro ds
  induction ds with
  | nil => intro acc x0 x4 C hl hp; simp [gCols]
  | cons d r ih =>
    intro acc x0 x4 C hl hp
    have hd := hp d List.mem_cons_self
    have hr := fun z hz => hp z (List.mem_cons_of_mem _ hz)
    simp only [List.length_cons] at hl
    rw [forD_nm]
    cases d with
    | tup xs =>
      have hm := pl_tup hd.1
      match xs, hm, hd with
      | [], hm, hd => simp [need_plans_eq, gCols]
      | [a], hm, hd => cases a <;> simp [need_plans_eq, gCols]
      | a :: b :: c :: r, hm, hd =>
        have : ¬ ((r.length : Int) + 1 + 1 + 1 = 2) := by omega
        cases a <;> simp [need_plans_eq, gCols, this]
      | [a, b], hm, hd =>
        have ha := hm a (by simp)
        have hb := hm b (by simp)
        have hdb : dep b ≤ 64 := by
          have := hd.2
          simp only [dep, deps] at this
          omega
        simp [is_word_eq ha, need_plans_eq]
        cases e : gWord a 4 with
        | false =>
          cases a <;> simp [gCols]
          simp [gWord] at e
          simp [e]
        | true =>
          obtain ⟨n, rfl, hn⟩ := gWord_str e
          have k1 := rule_kind_eq C.cl n
          have k2 := is_rule_eq (many := many) hb hdb C
          have k3 := kindD_non acc n
          simp [k1, k2]
          rw [k3]
          by_cases hnm : n ∈ acc.map Col.name
          · have : gCols many tabs acc (.tup [.str n, b] :: r) = none := by
              simp only [gCols, hn, hnm, decide_true, Bool.not_true, Bool.and_false]; rfl
            simp only [hnm, decide_true, Bool.not_true, this]
            simp [need_plans_eq]
          · simp only [hnm, decide_false, Bool.not_false]
            cases eg : gRule many tabs acc b with
            | none =>
              have : gCols many tabs acc (.tup [.str n, b] :: r) = none := by
                simp only [gCols, hn, hnm, decide_false, Bool.not_false, Bool.and_self, if_true, eg]
              simp [need_plans_eq, this]
            | some ru =>
              obtain ⟨g1, g2⟩ := gRule_ok eg
              have : gCols many tabs acc (.tup [.str n, b] :: r) = gCols many tabs (acc ++ [⟨n, ru⟩]) r := by
                simp only [gCols, hn, hnm, decide_false, Bool.not_false, Bool.and_self, if_true, eg]
              rw [this]
              have C' := C.snoc (by omega) hnm g2
              have := ih (acc ++ [⟨n, ru⟩]) x0 (some (.frz (.tup [.str n, b]))) C' (by simp; omega) hr
              rw [← this]
              have hb1 : acc.length < big := Nat.lt_of_lt_of_le (show acc.length < 1001 by omega) (by decide)
              simp [need_plans_eq, sApp, appS, after_no, noL, hb1, g1, Col.dat]
    | _ => simp [pl] at hd <;> simp [need_plans_eq, gCols]

theorem look_columns_eq {d : Dat} (h : pl d = true) (hd : dep d ≤ 64) (C : Ctx tabs []) : m_look_columns [d, .int many, .lst (tabs.map Tab.dat)] = if (gColumns many tabs d).isSome then .ok .non else .exc "BadPlan" := by
  rw [o_look_columns]
  cases d with
  | lst ds =>
    have hm := pl_lst h
    have hdm : ∀ z ∈ ds, dep z ≤ 63 := deps_le.mp (by rw [dep] at hd; omega)
    simp [b_look_columns, gColumns]
    by_cases q1 : 1 ≤ ds.length
    · have q1' : (1 : Int) ≤ ds.length := by omega
      by_cases q2 : ds.length ≤ 5
      · have q2' : (ds.length : Int) ≤ 5 := by omega
        have z : (0 : Nat) ≤ big := by decide
        simp [q1, q1', q2, q2', need_plans_eq, z]
        exact look_loop ds [] (.lst ds) none C (by simp; omega) fun z hz => ⟨hm z hz, hdm z hz⟩
      · have q2' : ¬ (ds.length : Int) ≤ 5 := by omega
        simp [q1', q2, q2', need_plans_eq]
    · have q1' : ¬ (1 : Int) ≤ ds.length := by omega
      simp [q1', need_plans_eq, q1]
  | _ => simp [pl] at h <;> simp [b_look_columns, need_plans_eq, gColumns]
end
def gTabs : List Tab → List Dat → Option (List Tab)
  | acc, [] => some acc
  | acc, d :: r => match d with
    | .tup [.str n, .int m, cd] => if wordB n 4 && !decide (n ∈ acc.map Tab.name) && (decide (1 ≤ m) && decide (m ≤ 20)) then match gColumns m acc cd with
        | some cs => gTabs (acc ++ [⟨n, m, cs⟩]) r
        | none => none
      else none
    | _ => none
def gPlan : Dat → Option Plan
  | .lst ds => if decide (1 ≤ ds.length) && decide (ds.length ≤ 4) then gTabs [] ds else none
  | _ => none
theorem gCols_dat {many : Int} {tabs : List Tab} : ∀ {ds : List Dat} {acc cs : List Col}, gCols many tabs acc ds = some cs → ∃ more, cs = acc ++ more ∧ ds = more.map Col.dat
  | [], acc, cs, h => by cases h; exact ⟨[], by simp, rfl⟩
  | d :: r, acc, cs, h => by
    unfold gCols at h
    split at h
    · split at h
      · split at h
        · rename_i n rd q _ ru e
          obtain ⟨more, h1, h2⟩ := gCols_dat h
          refine ⟨⟨n, ru⟩ :: more, by rw [h1]; simp, ?_⟩
          rw [h2, (gRule_ok e).1]; rfl
        · cases h
      · cases h
    · cases h
theorem gColumns_dat {many : Int} {tabs : List Tab} {d : Dat} {cs : List Col} (h : gColumns many tabs d = some cs) : d = .lst (cs.map Col.dat) ∧ 1 ≤ cs.length ∧ cs.length ≤ 5 := by
  unfold gColumns at h
  split at h
  · split at h
    · rename_i ds q
      obtain ⟨more, h1, h2⟩ := gCols_dat h
      simp at h1
      subst h1
      simp at q
      subst h2
      exact ⟨rfl, by simpa using q⟩
    · cases h
  · cases h
/-- tables that were let by -/
structure TabsOk (tabs : List Tab) : Prop where
  tl : tabs.length ≤ 1000
  tn : ∀ t ∈ tabs, PyData.strOk t.name = true
  tc : ∀ t ∈ tabs, t.cols.length ≤ 1000
theorem TabsOk.ctx {tabs : List Tab} (T : TabsOk tabs) : Ctx tabs [] := ⟨T.tl, by simp, T.tn, T.tc, by simp, by simp⟩
theorem TabsOk.snoc {tabs : List Tab} (T : TabsOk tabs) (hl : tabs.length < 1000) {t : Tab} (h : PyData.strOk t.name = true) (hc : t.cols.length ≤ 1000) : TabsOk (tabs ++ [t]) where
  tl := by simp; omega
  tn := fun z hz => by
    rcases List.mem_append.mp hz with hz | hz
    · exact T.tn z hz
    · rw [List.mem_singleton.mp hz]; exact h
  tc := fun z hz => by
    rcases List.mem_append.mp hz with hz | hz
    · exact T.tc z hz
    · rw [List.mem_singleton.mp hz]; exact hc
theorem names3_eq {tabs : List Tab} (hl : tabs.length ≤ 1000) (x0 x2 : Option Dat) (y3 y4 y5 : Option Dat) : eLc (iSeq (eVar 1)) (.tp [(.nm 3), (.nm 4), (.nm 5)]) bYes (eVar 3) [3, 4, 5] [x0, some (.lst (tabs.map Tab.dat)), x2, y3, y4, y5] = .ok (.lst ((tabs.map Tab.name).map Dat.str)) := by
  refine eLc_eq (ds := tabs.map Tab.dat) (by simp) (by simp; exact le_big hl) ?_
  rw [List.map_map]
  refine lcD_every _ fun t _ => ⟨[(3, .str t.name), (4, .int t.many), (5, .lst (t.cols.map Col.dat))], ?_, ?_⟩
  · simp [Tab.dat]
  · simp [wipeE]
theorem need_loop : ∀ (ds : List Dat) (acc : List Tab) (x0 : Dat) (x2 : Option Slot), TabsOk acc → acc.length + ds.length ≤ 1000 → (∀ d ∈ ds, pl d = true ∧ dep d ≤ 64) →
    retOf (forD (.nm 2) L1_need_plan ds [some (.frz x0), some (.own (acc.map Tab.dat)), x2, none, none, none]) = if (gTabs acc ds).isSome then .ok .non else .exc "BadPlan" := by
  intro ds
  induction ds with
  | nil => intro acc x0 x2 C hl hp; simp [gTabs]
  | cons d r ih =>
    intro acc x0 x2 T hl hp
    have hd := hp d List.mem_cons_self
    have hr := fun z hz => hp z (List.mem_cons_of_mem _ hz)
    simp only [List.length_cons] at hl
    rw [forD_nm]
    generalize forD (.nm 2) L1_need_plan r = F at ih ⊢
    cases d with
    | tup xs =>
      have hm := pl_tup hd.1
      match xs, hm, hd with
      | [], hm, hd => simp [L1_need_plan, need_plans_eq, gTabs]
      | [a], hm, hd => cases a <;> simp [L1_need_plan, need_plans_eq, gTabs]
      | [a, b], hm, hd => cases a <;> cases b <;> simp [L1_need_plan, need_plans_eq, gTabs]
      | a :: b :: c :: e :: r, hm, hd =>
        have : ¬ ((r.length : Int) + 1 + 1 + 1 + 1 = 3) := by omega
        cases a <;> cases b <;> simp [L1_need_plan, need_plans_eq, gTabs, this]
      | [a, b, c], hm, hd =>
        have ha := hm a (by simp)
        have hb := hm b (by simp)
        have hc := hm c (by simp)
        have hdc : dep c ≤ 64 := by
          have := hd.2
          simp only [dep, deps] at this
          omega
        cases e : gWord a 4 with
        | false =>
          simp [L1_need_plan, is_word_eq ha, need_plans_eq, e]
          cases a <;> cases b <;> simp [gTabs]
          simp [gWord] at e
          simp [e]
        | true =>
          obtain ⟨n, rfl, hn⟩ := gWord_str e
          have hw := word_ok hn
          have k1 := names3_eq T.tl (some x0) (some (.tup [.str n, b, c])) none none none
          have k2 := notInD_strs hw.1 (names_ok T.ctx)
          rw [List.map_map] at k1 k2
          generalize hnb : decide (n ∈ acc.map Tab.name) = nb at k2
          simp [L1_need_plan, is_word_eq ha, need_plans_eq, e, k1, k2, is_count_eq hb]
          cases nb with
          | true =>
            have : gTabs acc (.tup [.str n, b, c] :: r) = none := by
              cases b <;> simp only [gTabs, hn, hnb, Bool.not_true, Bool.and_false, Bool.false_and]
              rfl
            rw [this]
            simp [need_plans_eq]
          | false =>
            simp only [if_true, Bool.not_false]
            cases eb : gCount b 1 20 with
            | false =>
              have : gTabs acc (.tup [.str n, b, c] :: r) = none := by
                cases b <;> simp only [gTabs]
                simp only [gCount] at eb
                simp only [eb, Bool.and_false]
                rfl
              simp [need_plans_eq, this]
            | true =>
              obtain ⟨m, rfl, hm1, hm2⟩ := gCount_int eb
              have k3 := look_columns_eq (many := m) hc hdc T.ctx
              have : gTabs acc (.tup [.str n, .int m, c] :: r) = match gColumns m acc c with
                | some cs => gTabs (acc ++ [⟨n, m, cs⟩]) r
                | none => none := by
                simp only [gTabs, hn, hnb, Bool.not_false, hm1, hm2, decide_true, Bool.and_self, if_true]
              rw [this]
              cases eg : gColumns m acc c with
              | none => simp [need_plans_eq, k3, eg]
              | some cs =>
                obtain ⟨g1, g2, g3⟩ := gColumns_dat eg
                subst g1
                have T' := T.snoc (t := ⟨n, m, cs⟩) (by omega) hw.1 (by show cs.length ≤ 1000; omega)
                have := ih (acc ++ [⟨n, m, cs⟩]) x0 (some (.frz (.tup [.str n, .int m, .lst (cs.map Col.dat)]))) T' (by simp; omega) hr
                rw [← this]
                have hb1 : acc.length < big := Nat.lt_of_lt_of_le (show acc.length < 1001 by omega) (by decide)
                simp [need_plans_eq, k3, eg, sApp, appS, hb1, Tab.dat]
    | _ => simp [pl] at hd <;> simp [L1_need_plan, need_plans_eq, gTabs]
theorem need_plan_eq {d : Dat} (h : pl d = true) (hd : dep d ≤ 64) : m_need_plan [d] = if (gPlan d).isSome then .ok .non else .exc "BadPlan" := by
  rw [o_need_plan]
  cases d with
  | lst ds =>
    have hm := pl_lst h
    have hdm : ∀ z ∈ ds, dep z ≤ 64 := deps_le.mp (by rw [dep] at hd; omega)
    simp [b_need_plan, gPlan]
    by_cases q1 : 1 ≤ ds.length
    · have q1' : (1 : Int) ≤ ds.length := by omega
      by_cases q2 : ds.length ≤ 4
      · have q2' : (ds.length : Int) ≤ 4 := by omega
        have z : (0 : Nat) ≤ big := by decide
        simp [q1, q1', q2, q2', need_plans_eq, z]
        exact need_loop ds [] (.lst ds) none ⟨by simp, by simp, by simp⟩ (by simp; omega) fun z hz => ⟨hm z hz, hdm z hz⟩
      · have q2' : ¬ (ds.length : Int) ≤ 4 := by omega
        simp [q1', q2, q2', need_plans_eq]
    · have q1' : ¬ (1 : Int) ≤ ds.length := by omega
      simp [q1', need_plans_eq, q1]
  | _ => simp [pl] at h <;> simp [b_need_plan, need_plans_eq, gPlan]
end RM

/-! PL: what all laws draw by. -/
namespace RM
open PySem PySem.Spec PyProof.Rows L2 VL
theorem law_cell_ok (ns : List Int) (hn : ns.length ≤ 63) (k : Nat) : ∃ c, m_law_cell [.rls (ns.map Dat.int), .int (k : Int)] = .ok (.int c) := by
  rw [o_law_cell]
  unfold b_law_cell
  have q := eqD_rls_nil ns
  by_cases h : ns.isEmpty = true
  · rw [h] at q
    refine ⟨(k : Int) * 7919, ?_⟩
    simp (disch := omega) [q, mulD_r]
  · rw [Bool.eq_false_iff.mpr h] at q
    have hl : 0 < ns.length := by cases ns with | nil => simp at h | cons => simp
    have h1 := Int.emod_nonneg (k : Int) (show (ns.length : Int) ≠ 0 by omega)
    have h2 := Int.emod_lt_of_pos (k : Int) (show (0 : Int) < (ns.length : Int) by omega)
    have h3 : ((k : Int) % (ns.length : Int)).toNat < ns.length := by omega
    have hc : (ns.map Dat.int)[((k : Int) % (ns.length : Int)).toNat]? = some (.int ns[((k : Int) % (ns.length : Int)).toNat]) := by rw [List.getElem?_map, List.getElem?_eq_getElem h3]; rfl
    refine ⟨ns[((k : Int) % (ns.length : Int)).toNat] + (k : Int) / (ns.length : Int) * 104729, ?_⟩
    have hi := ixD_rls h1 hc
    simp (disch := omega) [q, modD_int, hi, fdivD_int, mulD_r]
def dr1 (c k : Int) : Int := (c * 6364136223846793005 + (k + 1) * 1442695040888963407) % 340282366920938463463374607431768211507
def dr2 (c k : Int) : Int := dr1 c k * dr1 c k % 340282366920938463463374607431768211297
def dr3 (c k : Int) : Int := (dr2 c k % 18446744073709551557 + 1) * (dr2 c k / 18446744073709551557 + 1)
def drI (c k : Int) : Int := dr3 c k * dr2 c k % 340282366920938463463374607431768211507
theorem drI_bd (c k : Int) : 0 ≤ drI c k ∧ drI c k < 340282366920938463463374607431768211507 := by unfold drI; omega
theorem law_drawn_eq (c k : Int) : m_law_drawn [.int c, .int k] = .ok (.int (drI c k)) := by
  rw [o_law_drawn]
  unfold b_law_drawn
  have e1 : (c * 6364136223846793005 + (k + 1) * 1442695040888963407) % 340282366920938463463374607431768211507 = dr1 c k := rfl
  have b1 : 0 ≤ dr1 c k ∧ dr1 c k < 340282366920938463463374607431768211507 := by unfold dr1; omega
  have e2 : dr1 c k * dr1 c k % 340282366920938463463374607431768211297 = dr2 c k := rfl
  have b2 : 0 ≤ dr2 c k ∧ dr2 c k < 340282366920938463463374607431768211297 := by unfold dr2; omega
  have e3 : (dr2 c k % 18446744073709551557 + 1) * (dr2 c k / 18446744073709551557 + 1) = dr3 c k := rfl
  have b5 : 0 ≤ dr3 c k ∧ dr3 c k ≤ 18446744073709551557 * 36893488147419103232 := by
    unfold dr3
    exact ⟨Int.mul_nonneg (by omega) (by omega), Int.mul_le_mul (by omega) (by omega) (by omega) (by omega)⟩
  have e4 : dr3 c k * dr2 c k % 340282366920938463463374607431768211507 = drI c k := rfl
  generalize dr1 c k = m1 at *
  generalize dr2 c k = m2 at *
  generalize dr3 c k = m3 at *
  have q1 : mulD (.int m1) (.int m1) = .ok (.int (m1 * m1)) := mulD_int (mulOk_w (by omega) (by omega))
  have q3 : mulD (.int m3) (.int m2) = .ok (.int (m3 * m2)) := mulD_int (mulOk_w (by omega) (by omega))
  simp (disch := omega) [mulD_r, modD_int, e1, q1, e2, fdivD_int, mulD_l, e3, q3, e4]

theorem pick3 (a b c t : Int) (h0 : 0 ≤ t) (h1 : t < 3) : ∃ s, ixD (.lst [.int a, .int b, .int c]) (.int t) = .ok (.int s) ∧ (s = a ∨ s = b ∨ s = c) := by
  rcases (by omega : t = 0 ∨ t = 1 ∨ t = 2) with rfl | rfl | rfl
  · exact ⟨a, by simp, .inl rfl⟩
  · exact ⟨b, by simp, .inr (.inl rfl)⟩
  · exact ⟨c, by simp, .inr (.inr rfl)⟩
theorem pick2 (a b t : Int) (h0 : 0 ≤ t) (h1 : t < 2) : ∃ s, ixD (.lst [.int a, .int b]) (.int t) = .ok (.int s) ∧ (s = a ∨ s = b) := by
  rcases (by omega : t = 0 ∨ t = 1) with rfl | rfl
  · exact ⟨a, by simp, .inl rfl⟩
  · exact ⟨b, by simp, .inr rfl⟩
theorem pick4 (a b c d t : Int) (h0 : 0 ≤ t) (h1 : t < 4) : ∃ s, ixD (.lst [.int a, .int b, .int c, .int d]) (.int t) = .ok (.int s) ∧ (s = a ∨ s = b ∨ s = c ∨ s = d) := by
  rcases (by omega : t = 0 ∨ t = 1 ∨ t = 2 ∨ t = 3) with rfl | rfl | rfl | rfl
  · exact ⟨a, by simp, .inl rfl⟩
  · exact ⟨b, by simp, .inr (.inl rfl)⟩
  · exact ⟨c, by simp, .inr (.inr (.inl rfl))⟩
  · exact ⟨d, ixD_lst (by decide) rfl, .inr (.inr (.inr rfl))⟩
theorem pow20 : powD (.int 2) (.int 20) = .ok (.int 1048576) := rfl
theorem pow30 : powD (.int 2) (.int 30) = .ok (.int 1073741824) := rfl
theorem pow40 : powD (.int 2) (.int 40) = .ok (.int 1099511627776) := rfl
/-- an item of a list of so many, by a rest -/
theorem ix_rest {α : Type} {f : α → Dat} {l : List α} (h : l ≠ []) (n : Int) : ∃ a ∈ l, ixD (.lst (l.map f)) (.int (n % (l.length : Int))) = .ok (f a) ∧ ∃ i : Nat, i < l.length ∧ l[i]? = some a ∧ n % (l.length : Int) = (i : Int) := by
  have hl : 0 < l.length := by cases l with | nil => exact absurd rfl h | cons => simp
  have h1 := Int.emod_nonneg n (show (l.length : Int) ≠ 0 by omega)
  have h2 := Int.emod_lt_of_pos n (show (0 : Int) < (l.length : Int) by omega)
  have h3 : (n % (l.length : Int)).toNat < l.length := by omega
  refine ⟨l[(n % (l.length : Int)).toNat], List.getElem_mem h3, ixD_lst h1 (by rw [List.getElem?_map, List.getElem?_eq_getElem h3]; rfl), (n % (l.length : Int)).toNat, h3, List.getElem?_eq_getElem h3, by omega⟩
end RM

/-! PM: plans that are ones; the law's own making of plans. -/
namespace RM
open PySem PySem.Spec PyProof.Rows L2 VL
def colsWf (many : Int) (tabs : List Tab) : List Col → List Col → Bool
  | _, [] => true
  | acc, c :: r => wordB c.name 4 && !decide (c.name ∈ acc.map Col.name) && ruleOk many tabs acc c.rule && colsWf many tabs (acc ++ [c]) r
def tabWf (acc : List Tab) (t : Tab) : Bool := wordB t.name 4 && !decide (t.name ∈ acc.map Tab.name) && (decide (1 ≤ t.many) && decide (t.many ≤ 20)) && (decide (1 ≤ t.cols.length) && decide (t.cols.length ≤ 5)) && colsWf t.many acc [] t.cols
def tabsWf : List Tab → List Tab → Bool
  | _, [] => true
  | acc, t :: r => tabWf acc t && tabsWf (acc ++ [t]) r
def planWf (p : Plan) : Bool := decide (1 ≤ p.length) && decide (p.length ≤ 4) && tabsWf [] p
theorem colsWf_snoc {many : Int} {tabs : List Tab} {c : Col} : ∀ (r acc : List Col), colsWf many tabs acc (r ++ [c]) = (colsWf many tabs acc r && (wordB c.name 4 && !decide (c.name ∈ (acc ++ r).map Col.name) && ruleOk many tabs (acc ++ r) c.rule))
  | [], acc => by simp [colsWf]
  | z :: r, acc => by
    rw [List.cons_append, colsWf, colsWf_snoc r (acc ++ [z]), colsWf, List.append_assoc]
    simp only [Bool.and_assoc, List.singleton_append]
theorem tabsWf_snoc {t : Tab} : ∀ (r acc : List Tab), tabsWf acc (r ++ [t]) = (tabsWf acc r && tabWf (acc ++ r) t)
  | [], acc => by simp [tabsWf]
  | z :: r, acc => by
    rw [List.cons_append, tabsWf, tabsWf_snoc r (acc ++ [z]), tabsWf, List.append_assoc]
    simp only [Bool.and_assoc, List.singleton_append]
theorem ruleOf_self {many : Int} {tabs : List Tab} {cols : List Col} {r : Rule} (h : ruleOk many tabs cols r = true) : ruleOf r.dat = some r := by
  cases r <;> simp [Rule.dat, Rule.kind, Rule.args, ruleOf]
  rename_i os
  refine optsOf_self fun o ho => ?_
  simp only [ruleOk, Bool.and_eq_true, List.all_eq_true] at h
  have := h.2 o ho
  simpa using this
theorem gRule_self {many : Int} {tabs : List Tab} {cols : List Col} {r : Rule} (h : ruleOk many tabs cols r = true) : gRule many tabs cols r.dat = some r := by
  unfold gRule
  rw [ruleOf_self h]
  exact if_pos h
theorem gCols_self {many : Int} {tabs : List Tab} : ∀ (r acc : List Col), colsWf many tabs acc r = true → gCols many tabs acc (r.map Col.dat) = some (acc ++ r)
  | [], acc, _ => by simp [gCols]
  | c :: r, acc, h => by
    simp only [colsWf, Bool.and_eq_true] at h
    obtain ⟨⟨⟨h1, h2⟩, h3⟩, h4⟩ := h
    have ih := gCols_self r (acc ++ [c]) h4
    rw [List.map_cons]
    show (if wordB c.name 4 && !decide (c.name ∈ acc.map Col.name) then match gRule many tabs acc c.rule.dat with
        | some ru => gCols many tabs (acc ++ [⟨c.name, ru⟩]) (r.map Col.dat)
        | none => none
      else none) = _
    rw [h1, h2, gRule_self h3]
    simpa using ih
theorem gTabs_self : ∀ (r acc : List Tab), tabsWf acc r = true → gTabs acc (r.map Tab.dat) = some (acc ++ r)
  | [], acc, _ => by simp [gTabs]
  | t :: r, acc, h => by
    simp only [tabsWf, tabWf, Bool.and_eq_true] at h
    obtain ⟨⟨⟨⟨⟨h1, h2⟩, h3, h4⟩, h5, h6⟩, h7⟩, h8⟩ := h
    have ih := gTabs_self r (acc ++ [t]) h8
    have hc : gColumns t.many acc (.lst (t.cols.map Col.dat)) = some t.cols := by
      show (if decide (1 ≤ (t.cols.map Col.dat).length) && decide ((t.cols.map Col.dat).length ≤ 5) then gCols t.many acc [] (t.cols.map Col.dat) else none) = _
      rw [List.length_map, h5, h6, gCols_self t.cols [] h7]
      rfl
    rw [List.map_cons]
    show (if wordB t.name 4 && !decide (t.name ∈ acc.map Tab.name) && (decide (1 ≤ t.many) && decide (t.many ≤ 20)) then match gColumns t.many acc (.lst (t.cols.map Col.dat)) with
        | some cs => gTabs (acc ++ [⟨t.name, t.many, cs⟩]) (r.map Tab.dat)
        | none => none
      else none) = _
    rw [h1, h2, h3, h4, hc]
    simpa using ih
theorem gPlan_self {p : Plan} (h : planWf p = true) : gPlan (planD p) = some p := by
  simp only [planWf, Bool.and_eq_true] at h
  obtain ⟨⟨h1, h2⟩, h3⟩ := h
  show (if decide (1 ≤ (p.map Tab.dat).length) && decide ((p.map Tab.dat).length ≤ 4) then gTabs [] (p.map Tab.dat) else none) = _
  rw [List.length_map, h1, h2, gTabs_self p [] h3]
  rfl
/-! ### what holds in such plans -/
theorem colsWf_ctx {many : Int} {tabs : List Tab} (T : TabsOk tabs) : ∀ (r acc : List Col), Ctx tabs acc → acc.length + r.length ≤ 1000 → colsWf many tabs acc r = true → Ctx tabs (acc ++ r) ∧ ∀ c ∈ r, wordB c.name 4 = true
  | [], acc, C, _, _ => by simpa using C
  | c :: r, acc, C, hl, h => by
    simp only [colsWf, Bool.and_eq_true, Bool.not_eq_true', decide_eq_false_iff_not] at h
    obtain ⟨⟨⟨h1, h2⟩, h3⟩, h4⟩ := h
    simp only [List.length_cons] at hl
    obtain ⟨C', hc⟩ := colsWf_ctx T r (acc ++ [c]) (C.snoc (by omega) h2 h3) (by simp; omega) h4
    refine ⟨by simpa using C', fun z hz => ?_⟩
    rcases List.mem_cons.mp hz with rfl | hz
    · exact h1
    · exact hc z hz
theorem tabsWf_ok : ∀ (r acc : List Tab), TabsOk acc → acc.length + r.length ≤ 1000 → tabsWf acc r = true → TabsOk (acc ++ r)
  | [], acc, T, _, _ => by simpa using T
  | t :: r, acc, T, hl, h => by
    simp only [tabsWf, tabWf, Bool.and_eq_true, decide_eq_true_eq] at h
    obtain ⟨⟨⟨⟨⟨h1, h2⟩, h3, h4⟩, h5, h6⟩, h7⟩, h8⟩ := h
    simp only [List.length_cons] at hl
    have := tabsWf_ok r (acc ++ [t]) (T.snoc (by omega) (word_ok h1).1 (by omega)) (by simp; omega) h8
    simpa using this
theorem tabsOk0 : TabsOk [] := ⟨by simp, by simp, by simp⟩
theorem tabsWf_cols : ∀ (r acc : List Tab), tabsWf acc r = true → ∀ t ∈ r, wordB t.name 4 = true ∧ 1 ≤ t.many ∧ t.many ≤ 20 ∧ 1 ≤ t.cols.length ∧ t.cols.length ≤ 5 ∧ ∃ ahead, colsWf t.many ahead [] t.cols = true
  | [], _, _ => by simp
  | t :: r, acc, h => by
    simp only [tabsWf, tabWf, Bool.and_eq_true, decide_eq_true_eq] at h
    obtain ⟨⟨⟨⟨⟨h1, h2⟩, h3, h4⟩, h5, h6⟩, h7⟩, h8⟩ := h
    intro z hz
    rcases List.mem_cons.mp hz with rfl | hz
    · exact ⟨h1, h3, h4, h5, h6, acc, h7⟩
    · exact tabsWf_cols r _ h8 z hz
/-! ### plain ones -/
def okS (s : Str) : Bool := PyData.strOk s && decide (s.length ≤ 1000)
def ruleV : Rule → Bool
  | .pick os => os.all fun o => okS o.1
  | .link t => okS t
  | .sum a b => okS a && okS b
  | .copy a b => okS a && okS b
  | _ => true
theorem word_okS {s : Str} {m : Int} (h : wordB s m = true) (hm : m ≤ 1000) : okS s = true := by
  obtain ⟨h1, h2, h3⟩ := word_ok h
  unfold okS; rw [h1]; simp; omega
theorem pl_okS {s : Str} (h : okS s = true) : pl (.str s) = true := by
  unfold okS at h
  simp only [Bool.and_eq_true, decide_eq_true_eq] at h
  exact pl_str h.1 h.2
theorem kind_pl (r : Rule) : pl (.str r.kind) = true := pl_str (kind_ok r) (Nat.le_trans (kind_len r) (by decide))
theorem rule_pl {r : Rule} (h : ruleV r = true) : pl r.dat = true ∧ dep r.dat ≤ 3 := by
  have hk := kind_pl r
  cases r with
  | pick os =>
    simp only [ruleV, List.all_eq_true] at h
    have h1 : pls (os.map optD) = true := pls_mem.mpr fun d hd => by
      obtain ⟨o, ho, rfl⟩ := List.mem_map.mp hd
      simp [optD, pl, pls]
      have := pl_okS (h o ho)
      simpa [pl] using this
    have h2 : deps (os.map optD) ≤ 1 := deps_le.mpr fun d hd => by
      obtain ⟨o, ho, rfl⟩ := List.mem_map.mp hd
      simp [optD, dep, deps]
    constructor
    · simp only [Rule.dat, Rule.args, pl, pls, h1, Bool.and_true]; simpa [pl] using hk
    · simp only [Rule.dat, Rule.args, dep, deps]; omega
  | link t => simp only [ruleV] at h; exact ⟨by simp only [Rule.dat, Rule.args, pl, pls, Bool.and_true, Bool.and_eq_true]; exact ⟨by simpa [pl] using hk, by simpa [pl] using pl_okS h⟩, by simp [Rule.dat, Rule.args, dep, deps]⟩
  | sum a b =>
    simp only [ruleV, Bool.and_eq_true] at h
    exact ⟨by simp only [Rule.dat, Rule.args, pl, pls, Bool.and_true, Bool.and_eq_true]; exact ⟨by simpa [pl] using hk, by simpa [pl] using pl_okS h.1, by simpa [pl] using pl_okS h.2⟩, by simp [Rule.dat, Rule.args, dep, deps]⟩
  | copy a b =>
    simp only [ruleV, Bool.and_eq_true] at h
    exact ⟨by simp only [Rule.dat, Rule.args, pl, pls, Bool.and_true, Bool.and_eq_true]; exact ⟨by simpa [pl] using hk, by simpa [pl] using pl_okS h.1, by simpa [pl] using pl_okS h.2⟩, by simp [Rule.dat, Rule.args, dep, deps]⟩
  | _ => exact ⟨by simp only [Rule.dat, Rule.args, pl, pls, Bool.and_true]; simpa [pl] using hk, by simp [Rule.dat, Rule.args, dep, deps]⟩
theorem colOf_mem {cols : List Col} {x : Str} {c : Col} (h : colOf cols x = some c) : c ∈ cols ∧ c.name = x := by
  have h2 := List.find?_some (p := fun c : Col => decide (c.name = x)) h
  exact ⟨List.mem_of_find?_eq_some h, of_decide_eq_true h2⟩
theorem tabOf_mem {tabs : List Tab} {x : Str} {t : Tab} (h : tabOf tabs x = some t) : t ∈ tabs ∧ t.name = x := by
  have h2 := List.find?_some (p := fun c : Tab => decide (c.name = x)) h
  exact ⟨List.mem_of_find?_eq_some h, of_decide_eq_true h2⟩
theorem ruleOk_V {many : Int} {tabs : List Tab} {cols : List Col} {r : Rule} (ht : ∀ t ∈ tabs, okS t.name = true ∧ ∀ c ∈ t.cols, okS c.name = true) (hc : ∀ c ∈ cols, okS c.name = true) (h : ruleOk many tabs cols r = true) : ruleV r = true := by
  have num : ∀ x, numCol cols x = true → okS x = true := fun x hx => by
    unfold numCol at hx
    cases e : colOf cols x with
    | none => rw [e] at hx; cases hx
    | some c => obtain ⟨h1, h2⟩ := colOf_mem e; rw [← h2]; exact hc c h1
  cases r with
  | pick os =>
    simp only [ruleOk, Bool.and_eq_true, List.all_eq_true] at h
    simp only [ruleV, List.all_eq_true]
    exact fun o ho => word_okS (h.2 o ho).1 (by decide)
  | link t =>
    simp only [ruleOk, decide_eq_true_eq] at h
    obtain ⟨z, hz, rfl⟩ := List.mem_map.mp h
    exact (ht z hz).1
  | sum a b =>
    simp only [ruleOk, Bool.and_eq_true] at h
    simp only [ruleV, num a h.1, num b h.2]; rfl
  | copy a b =>
    simp only [ruleOk, copyOk] at h
    cases e : colOf cols a with
    | none => rw [e] at h; cases h
    | some c =>
      rw [e] at h
      dsimp only at h
      cases e2 : c.rule with
      | link t =>
        rw [e2] at h
        dsimp only at h
        cases e3 : tabOf tabs t with
        | none => rw [e3] at h; cases h
        | some tb =>
          rw [e3] at h
          dsimp only at h
          cases e4 : colOf tb.cols b with
          | none => rw [e4] at h; cases h
          | some cb =>
            obtain ⟨a1, a2⟩ := colOf_mem e
            obtain ⟨b1, b2⟩ := tabOf_mem e3
            obtain ⟨c1, c2⟩ := colOf_mem e4
            simp only [ruleV]
            rw [← a2, ← c2, hc c a1, (ht tb b1).2 cb c1]; rfl
      | _ => rw [e2] at h; cases h
  | _ => rfl
theorem cols_V {many : Int} {tabs : List Tab} (ht : ∀ t ∈ tabs, okS t.name = true ∧ ∀ c ∈ t.cols, okS c.name = true) : ∀ (r acc : List Col), (∀ c ∈ acc, okS c.name = true) → colsWf many tabs acc r = true → ∀ c ∈ r, okS c.name = true ∧ ruleV c.rule = true
  | [], _, _, _ => by simp
  | c :: r, acc, ha, h => by
    simp only [colsWf, Bool.and_eq_true] at h
    obtain ⟨⟨⟨h1, h2⟩, h3⟩, h4⟩ := h
    have w := word_okS h1 (by decide)
    intro z hz
    rcases List.mem_cons.mp hz with rfl | hz
    · exact ⟨w, ruleOk_V ht ha h3⟩
    · exact cols_V ht r (acc ++ [c]) (fun y hy => by
        rcases List.mem_append.mp hy with hy | hy
        · exact ha y hy
        · rw [List.mem_singleton.mp hy]; exact w) h4 z hz
theorem tabs_V : ∀ (r acc : List Tab), (∀ t ∈ acc, okS t.name = true ∧ ∀ c ∈ t.cols, okS c.name = true) → tabsWf acc r = true → ∀ t ∈ r, okS t.name = true ∧ ∀ c ∈ t.cols, okS c.name = true ∧ ruleV c.rule = true
  | [], _, _, _ => by simp
  | t :: r, acc, ha, h => by
    simp only [tabsWf, tabWf, Bool.and_eq_true] at h
    obtain ⟨⟨⟨⟨⟨h1, h2⟩, h3, h4⟩, h5, h6⟩, h7⟩, h8⟩ := h
    have w := word_okS h1 (by decide)
    have v := cols_V ha t.cols [] (by simp) h7
    intro z hz
    rcases List.mem_cons.mp hz with rfl | hz
    · exact ⟨w, v⟩
    · exact tabs_V r (acc ++ [t]) (fun y hy => by
        rcases List.mem_append.mp hy with hy | hy
        · exact ha y hy
        · rw [List.mem_singleton.mp hy]; exact ⟨w, fun c hc => (v c hc).1⟩) h8 z hz
theorem col_pl {c : Col} (h : okS c.name = true ∧ ruleV c.rule = true) : pl c.dat = true ∧ dep c.dat ≤ 4 := by
  obtain ⟨a, b⟩ := rule_pl h.2
  exact ⟨by simp only [Col.dat, pl, pls, a, Bool.and_true]; simpa [pl] using pl_okS h.1, by simp only [Col.dat, dep, deps]; omega⟩
theorem cols_pl {cs : List Col} (h : ∀ c ∈ cs, okS c.name = true ∧ ruleV c.rule = true) : pl (.lst (cs.map Col.dat)) = true ∧ dep (.lst (cs.map Col.dat)) ≤ 5 := by
  constructor
  · rw [pl]; exact pls_mem.mpr fun d hd => by
      obtain ⟨c, hc, rfl⟩ := List.mem_map.mp hd
      exact (col_pl (h c hc)).1
  · have : deps (cs.map Col.dat) ≤ 4 := deps_le.mpr fun d hd => by
      obtain ⟨c, hc, rfl⟩ := List.mem_map.mp hd
      exact (col_pl (h c hc)).2
    rw [dep]; omega
theorem tab_pl {t : Tab} (h : okS t.name = true ∧ ∀ c ∈ t.cols, okS c.name = true ∧ ruleV c.rule = true) : pl t.dat = true ∧ dep t.dat ≤ 6 := by
  obtain ⟨a, b⟩ := cols_pl h.2
  exact ⟨by simp only [Tab.dat, pl, pls, Bool.and_true, Bool.true_and]; rw [pl] at a; rw [a]; simpa [pl] using pl_okS h.1, by simp only [Tab.dat, dep, deps] at b ⊢; omega⟩
theorem tabs_pl {ts : List Tab} (h : ∀ t ∈ ts, okS t.name = true ∧ ∀ c ∈ t.cols, okS c.name = true ∧ ruleV c.rule = true) : pl (planD ts) = true ∧ dep (planD ts) ≤ 7 := by
  constructor
  · unfold planD; rw [pl]; exact pls_mem.mpr fun d hd => by
      obtain ⟨c, hc, rfl⟩ := List.mem_map.mp hd
      exact (tab_pl (h c hc)).1
  · have : deps (ts.map Tab.dat) ≤ 6 := deps_le.mpr fun d hd => by
      obtain ⟨c, hc, rfl⟩ := List.mem_map.mp hd
      exact (tab_pl (h c hc)).2
    unfold planD; rw [dep]; omega
theorem plan_pl {p : Plan} (h : tabsWf [] p = true) : pl (planD p) = true ∧ dep (planD p) ≤ 7 := tabs_pl (tabs_V p [] (by simp) h)
end RM

namespace RM
open PySem PySem.Spec PyProof.Rows L2 VL

def isLinkR : Rule → Bool
  | .link _ => true
  | _ => false
def linkR : Rule → Str
  | .link t => t
  | _ => ""
theorem kind_linkR (r : Rule) : decide (r.kind = "link") = isLinkR r := by cases r <;> simp [Rule.kind, isLinkR]
theorem kind_nus (r : Rule) : inD (.str r.kind) (.tup [.str "num", .str "unlike", .str "serial", .str "sum"]) = .ok (.bl (isNumK r)) := by
  cases r <;> simp [Rule.kind, isNumK]
theorem ne_lst_of {xs : List Dat} (h : pl (.lst xs) = true) (hd : dep (.lst xs) ≤ 64) : neD (.lst xs) (.lst []) = .ok (.bl (!xs.isEmpty)) := ne_lst0 h hd
section
variable {many : Int} {tabs : List Tab} {cols : List Col}
theorem lr_numbers (hl : cols.length ≤ 1000) (x0 x1 x2 x4 x5 x6 : Option Dat) : eLc (iSeq (eVar 3)) (.tp [(.nm 13), (.nm 15)]) (eTest (eBin inD (eBin ixD (eVar 15) (eC (.int 0))) (eTup (aCons (eC (.str "num")) (aCons (eC (.str "unlike")) (aCons (eC (.str "serial")) (aCons (eC (.str "sum")) aNil))))))) (eVar 13) [13, 15] [x0, x1, x2, some (.lst (cols.map Col.dat)), x4, x5, x6, none, none, none, none, none, none, none, none, none, none, none, none, none, none] = .ok (.lst ((cols.filter fun c => isNumK c.rule).map fun c => .str c.name)) := by
  refine eLc_eq (ds := cols.map Col.dat) (by simp) (by simp; exact le_big hl) ?_
  refine lcD_gen _ fun c _ => ⟨[(13, .str c.name), (15, c.rule.dat)], ?_, ?_, fun _ => ?_⟩
  · simp [Col.dat]
  · have z : (4 : Nat) ≤ big := by decide
    simp [wipeE, Rule.dat, z, kind_nus]
  · simp [wipeE]
theorem lr_links (hl : cols.length ≤ 1000) (x0 x1 x2 x4 x5 x6 x7 : Option Dat) : eLc (iSeq (eVar 3)) (.tp [(.nm 13), (.nm 15)]) (eTest (eBin eqD (eBin ixD (eVar 15) (eC (.int 0))) (eC (.str "link")))) (eTup (aCons (eVar 13) (aCons (eBin ixD (eVar 15) (eC (.int 1))) aNil))) [13, 15] [x0, x1, x2, some (.lst (cols.map Col.dat)), x4, x5, x6, x7, none, none, none, none, none, none, none, none, none, none, none, none, none] = .ok (.lst ((cols.filter fun c => isLinkR c.rule).map fun c => .tup [.str c.name, .str (linkR c.rule)])) := by
  refine eLc_eq (ds := cols.map Col.dat) (by simp) (by simp; exact le_big hl) ?_
  refine lcD_gen _ fun c _ => ⟨[(13, .str c.name), (15, c.rule.dat)], ?_, ?_, fun q => ?_⟩
  · simp [Col.dat]
  · simp [wipeE, Rule.dat, kind_linkR]
  · obtain ⟨t, ht⟩ : ∃ t, c.rule = .link t := by
      cases e : c.rule <;> rw [e] at q <;> simp [isLinkR] at q
      exact ⟨_, rfl⟩
    have z : (2 : Nat) ≤ big := by decide
    simp [wipeE, Rule.dat, ht, Rule.args, linkR, z]
theorem lr_far (hl : tabs.length ≤ 1000) (t : Str) (x0 x1 x3 x4 x5 x6 x7 x8 x9 x13 : Option Dat) : eLc (iSeq (eVar 2)) (.tp [(.nm 16), (.nm 17), (.nm 18)]) (eTest (eBin eqD (eVar 16) (eVar 14))) (eVar 18) [16, 17, 18] [x0, x1, some (.lst (tabs.map Tab.dat)), x3, x4, x5, x6, x7, x8, x9, none, none, none, x13, some (.str t), none, none, none, none, none, none] = .ok (.lst ((tabs.filter fun z => decide (z.name = t)).map fun z => .lst (z.cols.map Col.dat))) := by
  refine eLc_eq (ds := tabs.map Tab.dat) (by simp) (by simp; exact le_big hl) ?_
  refine lcD_gen _ fun z _ => ⟨[(16, .str z.name), (17, .int z.many), (18, .lst (z.cols.map Col.dat))], ?_, ?_, fun _ => ?_⟩
  · simp [Tab.dat]
  · simp [wipeE]
  · simp [wipeE]
/-- the end of a rule's drawing, from `way` on -/
def R_law_rule : SEnv → SRes := sSeq (sIf [] (bAnd (eTest (eBin eqD (eVar 9) (eC (.int 0)))) (eTest (eBin neD (eVar 2) (eLst aNil)))) (sRet [] (eTup (aCons (eC (.str "link")) (aCons (eBin ixD (eBin ixD (eVar 2) (eBin modD (eVar 4) (eCall lenD (aCons (eVar 2) aNil)))) (eC (.int 0))) aNil)))) sNext) (sSeq (sIf [] (bAnd (eTest (eBin eqD (eVar 9) (eC (.int 1)))) (eTest (eBin neD (eVar 7) (eLst aNil)))) (sRet [] (eTup (aCons (eC (.str "sum")) (aCons (eBin ixD (eVar 7) (eBin modD (eVar 4) (eCall lenD (aCons (eVar 7) aNil)))) (aCons (eBin ixD (eVar 7) (eBin modD (eBin fdivD (eVar 4) (eC (.int 64))) (eCall lenD (aCons (eVar 7) aNil)))) aNil))))) sNext) (sSeq (sIf [] (bAnd (eTest (eBin ltD (eVar 9) (eC (.int 4)))) (eTest (eBin neD (eVar 8) (eLst aNil)))) (sSeq (sBind (.tp [(.nm 13), (.nm 14)]) [] (eBin ixD (eVar 8) (eBin modD (eVar 4) (eCall lenD (aCons (eVar 8) aNil))))) (sSeq (sSet 10 [] (eBin ixD (eLc (iSeq (eVar 2)) (.tp [(.nm 16), (.nm 17), (.nm 18)]) (eTest (eBin eqD (eVar 16) (eVar 14))) (eVar 18) [16, 17, 18]) (eC (.int 0)))) (sRet [] (eTup (aCons (eC (.str "copy")) (aCons (eVar 13) (aCons (eBin ixD (eBin ixD (eVar 10) (eBin modD (eBin fdivD (eVar 4) (eC (.int 64))) (eCall lenD (aCons (eVar 10) aNil)))) (eC (.int 0))) aNil))))))) sNext) (sSeq (sIf [] (eTest (eBin eqD (eVar 9) (eC (.int 4)))) (sSeq (sSet 11 [] (eCall minD (aCons (eVar 5) (aCons (eC (.int 980)) aNil)))) (sRet [] (eTup (aCons (eC (.str "unlike")) (aCons (eVar 11) (aCons (eCall minD (aCons (eC (.int 999)) (aCons (eBin addD (eBin subD (eBin addD (eVar 11) (eVar 1)) (eC (.int 1))) (eBin modD (eBin fdivD (eVar 4) (eBin powD (eC (.int 2)) (eC (.int 20)))) (eBin ixD (eLst (aCons (eC (.int 1)) (aCons (eC (.int 9)) (aCons (eC (.int 300)) aNil)))) (eBin modD (eBin fdivD (eVar 4) (eBin powD (eC (.int 2)) (eC (.int 30)))) (eC (.int 3)))))) aNil))) aNil)))))) sNext) (sSeq (sIf [] (eTest (eBin eqD (eVar 9) (eC (.int 5)))) (sSeq (sSet 12 [] (eSl (eLst (aCons (eC (.str "a")) (aCons (eC (.str "bb")) (aCons (eC (.str "red")) (aCons (eC (.str "sixsix")) aNil))))) oNone (oSome (eBin addD (eC (.int 1)) (eBin modD (eVar 4) (eC (.int 4))))))) (sRet [] (eTup (aCons (eC (.str "pick")) (aCons (eCall tupleD (aCons (eLc (iArg enumD (aCons (eVar 12) aNil)) (.tp [(.nm 19), (.nm 20)]) bYes (eTup (aCons (eVar 20) (aCons (eBin addD (eC (.int 1)) (eBin modD (eCall m_law_drawn (aCons (eVar 4) (aCons (eVar 19) aNil))) (eC (.int 9)))) aNil))) [19, 20]) aNil)) aNil))))) sNext) (sSeq (sIf [] (eTest (eBin eqD (eVar 9) (eC (.int 6)))) (sRet [] (eTup (aCons (eC (.str "word")) (aCons (eBin addD (eC (.int 1)) (eBin modD (eVar 4) (eC (.int 3)))) (aCons (eBin addD (eC (.int 3)) (eBin modD (eBin fdivD (eVar 4) (eC (.int 64))) (eC (.int 4)))) aNil))))) sNext) (sSeq (sIf [] (eTest (eBin eqD (eVar 9) (eC (.int 7)))) (sRet [] (eTup (aCons (eC (.str "flag")) (aCons (eBin ixD (eLst (aCons (eC (.int 0)) (aCons (eC (.int 100)) (aCons (eC (.int 50)) (aCons (eBin modD (eVar 4) (eC (.int 101))) aNil))))) (eBin modD (eBin fdivD (eVar 4) (eC (.int 128))) (eC (.int 4)))) aNil)))) sNext) (sSeq (sIf [] (eTest (eBin eqD (eVar 9) (eC (.int 8)))) (sRet [] (eTup (aCons (eC (.str "serial")) (aCons (eVar 5) (aCons (eBin subD (eBin modD (eBin fdivD (eVar 4) (eBin powD (eC (.int 2)) (eC (.int 20)))) (eC (.int 1999))) (eC (.int 999))) aNil))))) sNext) (sRet [] (eTup (aCons (eC (.str "num")) (aCons (eVar 5) (aCons (eVar 6) aNil))))))))))))

theorem law_rule_split (x0 x1 x2 x3 : Dat) : m_law_rule [x0, x1, x2, x3] = retOf ((sSeq (sSet 4 [] (eBin fdivD (eVar 0) (eC (.int 64)))) (sSeq (sSet 5 [] (eBin ixD (eLst (aCons (eBin subD (eBin modD (eVar 4) (eC (.int 41))) (eC (.int 20))) (aCons (eUn negD (eC (.int 999))) (aCons (eBin subD (eBin modD (eVar 4) (eC (.int 1999))) (eC (.int 999))) aNil)))) (eBin modD (eBin fdivD (eVar 0) (eC (.int 8))) (eC (.int 3))))) (sSeq (sSet 6 [] (eBin ixD (eLst (aCons (eCall minD (aCons (eC (.int 999)) (aCons (eBin addD (eVar 5) (eBin modD (eBin fdivD (eVar 4) (eC (.int 4096))) (eC (.int 40)))) aNil))) (aCons (eC (.int 999)) aNil))) (eBin modD (eBin fdivD (eVar 0) (eC (.int 32))) (eC (.int 2))))) (sSeq (sSet 7 [] (eLc (iSeq (eVar 3)) (.tp [(.nm 13), (.nm 15)]) (eTest (eBin inD (eBin ixD (eVar 15) (eC (.int 0))) (eTup (aCons (eC (.str "num")) (aCons (eC (.str "unlike")) (aCons (eC (.str "serial")) (aCons (eC (.str "sum")) aNil))))))) (eVar 13) [13, 15])) (sSeq (sSet 8 [] (eLc (iSeq (eVar 3)) (.tp [(.nm 13), (.nm 15)]) (eTest (eBin eqD (eBin ixD (eVar 15) (eC (.int 0))) (eC (.str "link")))) (eTup (aCons (eVar 13) (aCons (eBin ixD (eVar 15) (eC (.int 1))) aNil))) [13, 15])) (sSeq (sSet 9 [] (eBin modD (eVar 0) (eC (.int 9)))) R_law_rule)))))) [some (.frz x0), some (.frz x1), some (.frz x2), some (.frz x3), none, none, none, none, none, none, none, none, none, none, none, none, none, none, none, none, none]) := o_law_rule x0 x1 x2 x3
structure RuleIn (many : Int) (tabs : List Tab) (cols : List Col) : Prop where
  tw : tabsWf [] tabs = true
  cw : colsWf many tabs [] cols = true
  tl : tabs.length ≤ 900
  cl : cols.length ≤ 900
  m1 : 1 ≤ many
  m2 : many ≤ 20
theorem RuleIn.T (I : RuleIn many tabs cols) : TabsOk tabs := by simpa using tabsWf_ok tabs [] tabsOk0 (by have := I.tl; simp; omega) I.tw
theorem RuleIn.C (I : RuleIn many tabs cols) : Ctx tabs cols := by simpa using (colsWf_ctx I.T cols [] I.T.ctx (by have := I.cl; simp; omega) I.cw).1
theorem RuleIn.V (I : RuleIn many tabs cols) : ∀ t ∈ tabs, okS t.name = true ∧ ∀ c ∈ t.cols, okS c.name = true ∧ ruleV c.rule = true := tabs_V tabs [] (by simp) I.tw
theorem RuleIn.W (I : RuleIn many tabs cols) : ∀ c ∈ cols, okS c.name = true ∧ ruleV c.rule = true := cols_V (fun t ht => ⟨(I.V t ht).1, fun c hc => ((I.V t ht).2 c hc).1⟩) cols [] (by simp) I.cw
theorem RuleIn.ne_tabs (I : RuleIn many tabs cols) : neD (.lst (tabs.map Tab.dat)) (.lst []) = .ok (.bl (!tabs.isEmpty)) := by
  obtain ⟨a, b⟩ := plan_pl I.tw
  unfold planD at a b
  rw [ne_lst0 a (by omega)]
  simp
theorem RuleIn.ne_names (I : RuleIn many tabs cols) (p : Col → Bool) : neD (.lst ((cols.filter p).map fun c => .str c.name)) (.lst []) = .ok (.bl (!(cols.filter p).isEmpty)) := by
  rw [ne_lst0]
  · simp only [List.isEmpty_map]
  · rw [pl]; exact pls_mem.mpr fun d hd => by
      obtain ⟨c, hc, rfl⟩ := List.mem_map.mp hd
      exact pl_okS (I.W c (List.mem_filter.mp hc).1).1
  · have : deps ((cols.filter p).map fun c => .str c.name) ≤ 0 := deps_le.mpr fun d hd => by
      obtain ⟨c, hc, rfl⟩ := List.mem_map.mp hd
      simp [dep]
    rw [dep]; omega
theorem link_okS (I : RuleIn many tabs cols) {c : Col} (hc : c ∈ cols) (h : isLinkR c.rule = true) : okS (linkR c.rule) = true := by
  have := (I.W c hc).2
  cases e : c.rule <;> rw [e] at h this <;> simp [isLinkR] at h
  exact this
theorem RuleIn.ne_links (I : RuleIn many tabs cols) : neD (.lst ((cols.filter fun c => isLinkR c.rule).map fun c => .tup [.str c.name, .str (linkR c.rule)])) (.lst []) = .ok (.bl (!(cols.filter fun c => isLinkR c.rule).isEmpty)) := by
  rw [ne_lst0]
  · simp only [List.isEmpty_map]
  · rw [pl]; exact pls_mem.mpr fun d hd => by
      obtain ⟨c, hc, rfl⟩ := List.mem_map.mp hd
      have hm := List.mem_filter.mp hc
      have a := pl_okS (I.W c hm.1).1
      have b := pl_okS (link_okS I hm.1 hm.2)
      rw [pl, pls, pls, pls, a, b]; rfl
  · have : deps ((cols.filter fun c => isLinkR c.rule).map fun c => .tup [.str c.name, .str (linkR c.rule)]) ≤ 1 := deps_le.mpr fun d hd => by
      obtain ⟨c, hc, rfl⟩ := List.mem_map.mp hd
      simp [dep, deps]
    rw [dep]; omega
theorem numCol_of (I : RuleIn many tabs cols) {c : Col} (hc : c ∈ cols.filter fun c => isNumK c.rule) : numCol cols c.name = true := by
  obtain ⟨h1, h2⟩ := List.mem_filter.mp hc
  have C := I.C
  obtain ⟨c', hc'⟩ : ∃ c', colOf cols c.name = some c' := by
    cases q : colOf cols c.name with
    | some z => exact ⟨z, rfl⟩
    | none => unfold colOf at q; rw [List.find?_eq_none] at q; exact absurd (q c h1) (by simp)
  have := find_nodup C hc'
  have hm : c ∈ cols.filter fun z => decide (z.name = c.name) := List.mem_filter.mpr ⟨h1, by simp⟩
  rw [this] at hm
  have e := List.mem_singleton.mp hm
  unfold numCol
  rw [hc', ← e]
  exact h2
theorem colOf_self (C : Ctx tabs cols) {c : Col} (h1 : c ∈ cols) : colOf cols c.name = some c := by
  obtain ⟨c', hc'⟩ : ∃ c', colOf cols c.name = some c' := by
    cases q : colOf cols c.name with
    | some z => exact ⟨z, rfl⟩
    | none => unfold colOf at q; rw [List.find?_eq_none] at q; exact absurd (q c h1) (by simp)
  have := find_nodup C hc'
  have hm : c ∈ cols.filter fun z => decide (z.name = c.name) := List.mem_filter.mpr ⟨h1, by simp⟩
  rw [this] at hm
  rw [hc', List.mem_singleton.mp hm]
end
end RM

namespace RM
open PySem PySem.Spec PyProof.Rows L2 VL
section
variable {many : Int} {tabs : List Tab} {cols : List Col} {here low high : Int}
def rEnv (more many : Int) (tabs : List Tab) (cols : List Col) (here low high way : Int) : SEnv := [some (.frz (.int more)), some (.frz (.int many)), some (.frz (.lst (tabs.map Tab.dat))), some (.frz (.lst (cols.map Col.dat))), some (.frz (.int here)), some (.frz (.int low)), some (.frz (.int high)), some (.frz (.lst ((cols.filter fun c => isNumK c.rule).map fun c => .str c.name))), some (.frz (.lst ((cols.filter fun c => isLinkR c.rule).map fun c => .tup [.str c.name, .str (linkR c.rule)]))), some (.frz (.int way)), none, none, none, none, none, none, none, none, none, none, none]
theorem big2 : (2 : Nat) ≤ big := by decide
theorem big3 : (3 : Nat) ≤ big := by decide
theorem big4 : (4 : Nat) ≤ big := by decide
theorem big1 : (1 : Nat) ≤ big := by decide
theorem big0 : (0 : Nat) ≤ big := by decide
theorem w_a : wordB "a" 6 = true := by decide +kernel
theorem w_bb : wordB "bb" 6 = true := by decide +kernel
theorem w_red : wordB "red" 6 = true := by decide +kernel
theorem w_six : wordB "sixsix" 6 = true := by decide +kernel
theorem num_ok (h1 : -999 ≤ low) (h2 : low ≤ high) (h3 : high ≤ 999) : ruleOk many tabs cols (.num low high) = true := by simp [ruleOk, h1, h2, h3]
theorem rule_ways (I : RuleIn many tabs cols) (more way : Int) (hw : 0 ≤ way ∧ way < 9) (hh : 0 ≤ here) (h1 : -999 ≤ low) (h2 : low ≤ high) (h3 : high ≤ 999) :
    ∃ r, R_law_rule (rEnv more many tabs cols here low high way) = .ret r.dat ∧ ruleOk many tabs cols r = true := by
  have t1 := I.ne_tabs
  have t2 := I.ne_names fun c => isNumK c.rule
  have t3 := I.ne_links
  have hm1 := I.m1
  have hm2 := I.m2
  -- a copy, or else a number
  have other : ∀ (way : Int), way < 4 → 0 ≤ way → (way = 0 → tabs = []) → (way = 1 → (cols.filter fun c => isNumK c.rule) = []) → ∃ r, R_law_rule (rEnv more many tabs cols here low high way) = .ret r.dat ∧ ruleOk many tabs cols r = true := by
    intro way hlt h0 z0 z1
    have c0 : (eTest (eBin eqD (eVar 9) (eC (.int 0)))) (view [] (rEnv more many tabs cols here low high way)) = .ok (way == 0) := by simp [rEnv]
    by_cases hl : (cols.filter fun c => isLinkR c.rule) = []
    · refine ⟨.num low high, ?_, num_ok h1 h2 h3⟩
      rw [hl] at t3
      simp only [List.map_nil, List.isEmpty_nil, Bool.not_true] at t3
      have w4 : ¬ way = 4 := by omega
      have w5 : ¬ way = 5 := by omega
      have w6 : ¬ way = 6 := by omega
      have w7 : ¬ way = 7 := by omega
      have w8 : ¬ way = 8 := by omega
      rcases (by omega : way = 0 ∨ way = 1 ∨ way = 2 ∨ way = 3) with rfl | rfl | rfl | rfl
      · rw [z0 rfl] at t1
        simp only [List.map_nil, List.isEmpty_nil, Bool.not_true] at t1
        simp [R_law_rule, rEnv, z0 rfl, t1, hl, t3, big3, big0, Rule.dat, Rule.kind, Rule.args]
      · rw [z1 rfl] at t2
        simp only [List.map_nil, List.isEmpty_nil, Bool.not_true] at t2
        simp [R_law_rule, rEnv, z1 rfl, t2, hl, t3, big3, big0, Rule.dat, Rule.kind, Rule.args]
      · simp [R_law_rule, rEnv, hl, t3, big3, big0, Rule.dat, Rule.kind, Rule.args]
      · simp [R_law_rule, rEnv, hl, t3, big3, big0, Rule.dat, Rule.kind, Rule.args]
    · obtain ⟨c, hc, hx, _⟩ := ix_rest (f := fun c : Col => Dat.tup [.str c.name, .str (linkR c.rule)]) hl here
      obtain ⟨hc1, hc2⟩ := List.mem_filter.mp hc
      obtain ⟨t, ht⟩ : ∃ t, c.rule = .link t := by
        cases e : c.rule <;> rw [e] at hc2 <;> simp [isLinkR] at hc2
        exact ⟨_, rfl⟩
      have htm := I.C.lk c hc1 t ht
      obtain ⟨tb, htb⟩ := tabOf_some htm
      obtain ⟨b1, b2⟩ := tabOf_mem htb
      have eh : ∃ more, (tabs.filter fun z => decide (z.name = t)) = tb :: more := by
        have := List.head?_filter (p := fun z => decide (z.name = t)) (l := tabs)
        rw [show tabs.find? (fun z => decide (z.name = t)) = some tb from htb] at this
        cases e : tabs.filter fun z => decide (z.name = t) with
        | nil => rw [e] at this; cases this
        | cons y ys => rw [e] at this; cases this; exact ⟨ys, rfl⟩
      obtain ⟨mo, eh⟩ := eh
      have hcl := (tabsWf_cols tabs [] I.tw tb b1)
      have hne : tb.cols ≠ [] := fun z => by rw [z] at hcl; simp at hcl
      obtain ⟨fc, hfc, hfx, _⟩ := ix_rest (f := Col.dat) hne (here / 64)
      have hlen : ¬ (cols.filter fun c => isLinkR c.rule).length = 0 := by simpa using hl
      have hp0 : (0 : Int) < ((cols.filter fun c => isLinkR c.rule).length : Int) := by omega
      have hp1 : (0 : Int) < (tb.cols.length : Int) := by omega
      have e1 : modD (.int here) (.int ((cols.filter fun c => isLinkR c.rule).length : Int)) = _ := modD_int hp0
      have e2 : modD (.int (here / 64)) (.int (tb.cols.length : Int)) = _ := modD_int hp1
      have e3 := fdivD_int (i := here) (j := 64) (by decide) (by decide)
      have far := fun x0 x1 x3 x4 x5 x6 x7 x8 x9 x13 => lr_far (tabs := tabs) (by have := I.tl; omega) t x0 x1 x3 x4 x5 x6 x7 x8 x9 x13
      simp only [eh, List.map_cons] at far
      have hfi : (cols.filter fun c => isLinkR c.rule).isEmpty = false := by
        cases q : (cols.filter fun c => isLinkR c.rule) with
        | nil => exact absurd q hl
        | cons _ _ => rfl
      rw [hfi] at t3
      have hlt : linkR c.rule = t := by rw [ht]; rfl
      rw [hlt] at hx
      refine ⟨.copy c.name fc.name, ?_, ?_⟩
      · have fin : ∀ x : SRes, x = .ret (Rule.copy c.name fc.name).dat → x = .ret (Rule.copy c.name fc.name).dat := fun _ h => h
        rcases (by omega : way = 0 ∨ way = 1 ∨ way = 2 ∨ way = 3) with rfl | rfl | rfl | rfl
        · rw [z0 rfl] at b1; cases b1
        · rw [z1 rfl] at t2
          simp only [List.map_nil, List.isEmpty_nil, Bool.not_true] at t2
          simp [R_law_rule, rEnv, z1 rfl, t2, t3, big3, big2, big0, Rule.dat, Rule.kind, Rule.args, e1, hx, bindS_eq, far, e3, e2, hfx]
          simp [Col.dat]
        · simp [R_law_rule, rEnv, t3, big3, big2, big0, Rule.dat, Rule.kind, Rule.args, e1, hx, bindS_eq, far, e3, e2, hfx]
          simp [Col.dat]
        · simp [R_law_rule, rEnv, t3, big3, big2, big0, Rule.dat, Rule.kind, Rule.args, e1, hx, bindS_eq, far, e3, e2, hfx]
          simp [Col.dat]
      · obtain ⟨_, _, _, hl1, hl2, ahead, hw⟩ := hcl
        have TA : Ctx ahead [] → True := fun _ => trivial
        simp only [ruleOk, copyOk]
        rw [colOf_self I.C hc1, ]
        simp only [ht]
        rw [htb]
        simp only
        cases q : colOf tb.cols fc.name with
        | some z => rfl
        | none => unfold colOf at q; rw [List.find?_eq_none] at q; exact absurd (q fc hfc) (by simp)
  rcases (by omega : way = 0 ∨ way = 1 ∨ way = 2 ∨ way = 3 ∨ way = 4 ∨ way = 5 ∨ way = 6 ∨ way = 7 ∨ way = 8) with rfl | rfl | rfl | rfl | rfl | rfl | rfl | rfl | rfl
  · by_cases q : tabs = []
    · exact other 0 (by decide) (by decide) (fun _ => q) (by simp)
    · obtain ⟨t, ht, hx, _⟩ := ix_rest (f := Tab.dat) q here
      have hl : (0 : Int) < (tabs.length : Int) := by
        have : tabs.length ≠ 0 := by simpa using q
        omega
      have e1 : modD (.int here) (.int (tabs.length : Int)) = _ := modD_int hl
      have hfi : tabs.isEmpty = false := by cases tabs with | nil => exact absurd rfl q | cons _ _ => rfl
      rw [hfi] at t1
      refine ⟨.link t.name, ?_, by simp only [ruleOk, decide_eq_true_eq]; exact List.mem_map.mpr ⟨t, ht, rfl⟩⟩
      simp [R_law_rule, rEnv, t1, big2, big0, Rule.dat, Rule.kind, Rule.args, e1, hx]
      simp [Tab.dat, big2]
  · by_cases q : (cols.filter fun c => isNumK c.rule) = []
    · exact other 1 (by decide) (by decide) (by simp) (fun _ => q)
    · obtain ⟨a, ha, hxa, _⟩ := ix_rest (f := fun c : Col => Dat.str c.name) q here
      obtain ⟨b, hb, hxb, _⟩ := ix_rest (f := fun c : Col => Dat.str c.name) q (here / 64)
      have hl : (0 : Int) < ((cols.filter fun c => isNumK c.rule).length : Int) := by
        have : (cols.filter fun c => isNumK c.rule).length ≠ 0 := by simpa using q
        omega
      have e1 : modD (.int here) (.int ((cols.filter fun c => isNumK c.rule).length : Int)) = _ := modD_int hl
      have e2 : modD (.int (here / 64)) (.int ((cols.filter fun c => isNumK c.rule).length : Int)) = _ := modD_int hl
      have e3 := fdivD_int (i := here) (j := 64) (by decide) (by decide)
      have hfi : (cols.filter fun c => isNumK c.rule).isEmpty = false := by
        cases z : (cols.filter fun c => isNumK c.rule) with
        | nil => exact absurd z q
        | cons _ _ => rfl
      rw [hfi] at t2
      refine ⟨.sum a.name b.name, ?_, by simp only [ruleOk, numCol_of I ha, numCol_of I hb]; rfl⟩
      simp [R_law_rule, rEnv, t2, big3, big0, Rule.dat, Rule.kind, Rule.args, e1, e2, e3, hxa, hxb]
  · exact other 2 (by decide) (by decide) (by simp) (by simp)
  · exact other 3 (by decide) (by decide) (by simp) (by simp)
  · have b0 : 0 ≤ here / 1073741824 % 3 ∧ here / 1073741824 % 3 < 3 := by omega
    obtain ⟨s, hs, hs2⟩ := pick3 1 9 300 (here / 1073741824 % 3) b0.1 b0.2
    have hs3 : 1 ≤ s ∧ s ≤ 300 := by omega
    have e1 := fdivD_int (i := here) (j := 1048576) (by decide) (by decide)
    have e2 := fdivD_int (i := here) (j := 1073741824) (by decide) (by decide)
    have e3 := modD_int (i := here / 1073741824) (j := 3) (by decide)
    have e4 : modD (.int (here / 1048576)) (.int s) = _ := modD_int (by omega)
    have q1 := Int.emod_nonneg (here / 1048576) (show s ≠ 0 by omega)
    have q2 := Int.emod_lt_of_pos (here / 1048576) (show 0 < s by omega)
    generalize here / 1048576 % s = u at e4 q1 q2
    generalize hf : (if 980 < low then (980 : Int) else low) = f
    have hf2 : -999 ≤ f ∧ f ≤ 980 := by rw [← hf]; split <;> omega
    generalize hg : (if f + many - 1 + u < 999 then f + many - 1 + u else (999 : Int)) = gg
    have hg2 : f + many - 1 ≤ gg ∧ gg ≤ 999 := by rw [← hg]; split <;> omega
    refine ⟨.unlike f gg, ?_, by simp only [ruleOk, Bool.and_eq_true, decide_eq_true_eq]; omega⟩
    simp [R_law_rule, rEnv, big3, big0, Rule.dat, Rule.kind, Rule.args, pow20, pow30, e1, e2, e3, hs, e4, hf, hg]
  · have e1 := modD_int (i := here) (j := 4) (by decide)
    have dj : ∀ j : Int, modD (.int (drI here j)) (.int 9) = .ok (.int (drI here j % 9)) := fun j => modD_int (by decide)
    have bj : ∀ j : Int, 0 ≤ drI here j % 9 ∧ drI here j % 9 < 9 := fun j => by omega
    rcases (by omega : here % 4 = 0 ∨ here % 4 = 1 ∨ here % 4 = 2 ∨ here % 4 = 3) with z | z | z | z
    · have sl : slD (.lst [.str "a", .str "bb", .str "red", .str "sixsix"]) none (some 1) = .ok (.lst [.str "a"]) := rfl
      refine ⟨.pick [("a", 1 + drI here 0 % 9)], ?_, ?_⟩
      · simp [R_law_rule, rEnv, big4, big3, big2, big1, big0, Rule.dat, Rule.kind, Rule.args, e1, z, sl, eLc, enumD, enumL, lcD_cons, wipeE, nx, law_drawn_eq, dj, tupleD, optD]
      · simp only [ruleOk, Bool.and_eq_true, List.all_eq_true]
        have b0 := bj 0
        refine ⟨?_, fun o ho => ?_⟩
        · simp only [optsOk, List.map_cons, List.map_nil, List.length_cons, List.length_nil]
          exact (by decide +kernel : (decide (1 ≤ 1) && decide (1 ≤ 4) && decide ((once (["a"] : List Str)).length = 1)) = true)
        · simp only [List.mem_cons, List.not_mem_nil, or_false] at ho
          rcases ho with rfl <;> exact ⟨by first | exact w_a | exact w_bb | exact w_red | exact w_six, by simp; omega⟩
    · have sl : slD (.lst [.str "a", .str "bb", .str "red", .str "sixsix"]) none (some 2) = .ok (.lst [.str "a", .str "bb"]) := rfl
      refine ⟨.pick [("a", 1 + drI here 0 % 9), ("bb", 1 + drI here 1 % 9)], ?_, ?_⟩
      · simp [R_law_rule, rEnv, big4, big3, big2, big1, big0, Rule.dat, Rule.kind, Rule.args, e1, z, sl, eLc, enumD, enumL, lcD_cons, wipeE, nx, law_drawn_eq, dj, tupleD, optD]
      · simp only [ruleOk, Bool.and_eq_true, List.all_eq_true]
        have b0 := bj 0
        have b1 := bj 1
        refine ⟨?_, fun o ho => ?_⟩
        · simp only [optsOk, List.map_cons, List.map_nil, List.length_cons, List.length_nil]
          exact (by decide +kernel : (decide (1 ≤ 2) && decide (2 ≤ 4) && decide ((once (["a", "bb"] : List Str)).length = 2)) = true)
        · simp only [List.mem_cons, List.not_mem_nil, or_false] at ho
          rcases ho with rfl | rfl <;> exact ⟨by first | exact w_a | exact w_bb | exact w_red | exact w_six, by simp; omega⟩
    · have sl : slD (.lst [.str "a", .str "bb", .str "red", .str "sixsix"]) none (some 3) = .ok (.lst [.str "a", .str "bb", .str "red"]) := rfl
      refine ⟨.pick [("a", 1 + drI here 0 % 9), ("bb", 1 + drI here 1 % 9), ("red", 1 + drI here 2 % 9)], ?_, ?_⟩
      · simp [R_law_rule, rEnv, big4, big3, big2, big1, big0, Rule.dat, Rule.kind, Rule.args, e1, z, sl, eLc, enumD, enumL, lcD_cons, wipeE, nx, law_drawn_eq, dj, tupleD, optD]
      · simp only [ruleOk, Bool.and_eq_true, List.all_eq_true]
        have b0 := bj 0
        have b1 := bj 1
        have b2 := bj 2
        refine ⟨?_, fun o ho => ?_⟩
        · simp only [optsOk, List.map_cons, List.map_nil, List.length_cons, List.length_nil]
          exact (by decide +kernel : (decide (1 ≤ 3) && decide (3 ≤ 4) && decide ((once (["a", "bb", "red"] : List Str)).length = 3)) = true)
        · simp only [List.mem_cons, List.not_mem_nil, or_false] at ho
          rcases ho with rfl | rfl | rfl <;> exact ⟨by first | exact w_a | exact w_bb | exact w_red | exact w_six, by simp; omega⟩
    · have sl : slD (.lst [.str "a", .str "bb", .str "red", .str "sixsix"]) none (some 4) = .ok (.lst [.str "a", .str "bb", .str "red", .str "sixsix"]) := rfl
      refine ⟨.pick [("a", 1 + drI here 0 % 9), ("bb", 1 + drI here 1 % 9), ("red", 1 + drI here 2 % 9), ("sixsix", 1 + drI here 3 % 9)], ?_, ?_⟩
      · simp [R_law_rule, rEnv, big4, big3, big2, big1, big0, Rule.dat, Rule.kind, Rule.args, e1, z, sl, eLc, enumD, enumL, lcD_cons, wipeE, nx, law_drawn_eq, dj, tupleD, optD]
      · simp only [ruleOk, Bool.and_eq_true, List.all_eq_true]
        have b0 := bj 0
        have b1 := bj 1
        have b2 := bj 2
        have b3 := bj 3
        refine ⟨?_, fun o ho => ?_⟩
        · simp only [optsOk, List.map_cons, List.map_nil, List.length_cons, List.length_nil]
          exact (by decide +kernel : (decide (1 ≤ 4) && decide (4 ≤ 4) && decide ((once (["a", "bb", "red", "sixsix"] : List Str)).length = 4)) = true)
        · simp only [List.mem_cons, List.not_mem_nil, or_false] at ho
          rcases ho with rfl | rfl | rfl | rfl <;> exact ⟨by first | exact w_a | exact w_bb | exact w_red | exact w_six, by simp; omega⟩
  · have e1 := modD_int (i := here) (j := 3) (by decide)
    have e2 := fdivD_int (i := here) (j := 64) (by decide) (by decide)
    have e3 := modD_int (i := here / 64) (j := 4) (by decide)
    refine ⟨.word (1 + here % 3) (3 + here / 64 % 4), ?_, by simp only [ruleOk, Bool.and_eq_true, decide_eq_true_eq]; omega⟩
    simp [R_law_rule, rEnv, big3, big0, Rule.dat, Rule.kind, Rule.args, e1, e2, e3]
  · have b0 : 0 ≤ here / 128 % 4 ∧ here / 128 % 4 < 4 := by omega
    obtain ⟨s, hs, hs2⟩ := pick4 0 100 50 (here % 101) (here / 128 % 4) b0.1 b0.2
    have e1 := modD_int (i := here) (j := 101) (by decide)
    have e2 := fdivD_int (i := here) (j := 128) (by decide) (by decide)
    have e3 := modD_int (i := here / 128) (j := 4) (by decide)
    refine ⟨.flag s, ?_, by simp only [ruleOk, Bool.and_eq_true, decide_eq_true_eq]; omega⟩
    simp [R_law_rule, rEnv, big2, big4, big0, Rule.dat, Rule.kind, Rule.args, e1, e2, e3, hs]
  · have e1 := fdivD_int (i := here) (j := 1048576) (by decide) (by decide)
    have e2 := modD_int (i := here / 1048576) (j := 1999) (by decide)
    refine ⟨.serial low (here / 1048576 % 1999 - 999), ?_, by simp only [ruleOk, Bool.and_eq_true, decide_eq_true_eq]; omega⟩
    simp [R_law_rule, rEnv, big3, big0, Rule.dat, Rule.kind, Rule.args, pow20, e1, e2]

theorem law_rule_eq (I : RuleIn many tabs cols) (more : Int) (hm : 0 ≤ more) : ∃ r, m_law_rule [.int more, .int many, .lst (tabs.map Tab.dat), .lst (cols.map Col.dat)] = .ok r.dat ∧ ruleOk many tabs cols r = true := by
  have b1 : 0 ≤ more / 8 % 3 ∧ more / 8 % 3 < 3 := by omega
  have b2 : 0 ≤ more / 32 % 2 ∧ more / 32 % 2 < 2 := by omega
  obtain ⟨lo, hlo, hlo2⟩ := pick3 (more / 64 % 41 - 20) (-999) (more / 64 % 1999 - 999) (more / 8 % 3) b1.1 b1.2
  have hlo3 : -999 ≤ lo ∧ lo ≤ 999 := by omega
  generalize hmi : (if lo + more / 64 / 4096 % 40 < 999 then lo + more / 64 / 4096 % 40 else (999 : Int)) = mi
  have hmi2 : lo ≤ mi ∧ mi ≤ 999 := by rw [← hmi]; split <;> omega
  obtain ⟨hi, hhi, hhi2⟩ := pick2 mi 999 (more / 32 % 2) b2.1 b2.2
  have hhi3 : lo ≤ hi ∧ hi ≤ 999 := by omega
  obtain ⟨r, hr, hok⟩ := rule_ways (here := more / 64) (low := lo) (high := hi) I more (more % 9) (by omega) (by omega) hlo3.1 hhi3.1 hhi3.2
  refine ⟨r, ?_, hok⟩
  rw [law_rule_split]
  have f1 := fdivD_int (i := more) (j := 64) (by decide) (by decide)
  have f2 := fdivD_int (i := more) (j := 8) (by decide) (by decide)
  have f3 := fdivD_int (i := more) (j := 32) (by decide) (by decide)
  have f4 := fdivD_int (i := more / 64) (j := 4096) (by decide) (by decide)
  have m1 := modD_int (i := more / 64) (j := 41) (by decide)
  have m2 := modD_int (i := more / 64) (j := 1999) (by decide)
  have m3 := modD_int (i := more / 8) (j := 3) (by decide)
  have m4 := modD_int (i := more / 64 / 4096) (j := 40) (by decide)
  have m5 := modD_int (i := more / 32) (j := 2) (by decide)
  have m6 := modD_int (i := more) (j := 9) (by decide)
  have n1 := fun x0 x1 x2 x4 x5 x6 => lr_numbers (cols := cols) I.C.cl x0 x1 x2 x4 x5 x6
  have n2 := fun x0 x1 x2 x4 x5 x6 x7 => lr_links (cols := cols) I.C.cl x0 x1 x2 x4 x5 x6 x7
  unfold rEnv at hr
  simp [f1, f2, f3, m1, m2, m3, big3, hlo, f4, m4, hmi, m5, big2, hhi, n1, n2, m6, hr]
theorem noL_rule (r : Rule) : noL r.dat = true := by
  cases r with
  | pick os =>
    have : noLs (os.map optD) = true := by
      induction os with
      | nil => rfl
      | cons o os ih => rw [List.map_cons, noLs_co, ih]; simp [optD]
    simp [Rule.dat, Rule.args, this]
  | _ => simp [Rule.dat, Rule.args]
def cname (n : Nat) : Str := (["a", "bb", "ccc", "dddd", "e"] : List Str).getD n ""
def tname4 (n : Nat) : Str := (["one", "two", "t", "four"] : List Str).getD n ""
theorem cname_eq (n : Nat) (h : n < 5) : (ixD (.str "abcde") (.int (0 + (n : Int)))).bind (fun a => (addD (.int 1) (.int ((0 + (n : Int)) % 4))).bind fun b => mulD a b) = .ok (.str (cname n)) := by
  match n, h with
  | 0, _ => rfl
  | 1, _ => rfl
  | 2, _ => rfl
  | 3, _ => rfl
  | 4, _ => rfl
end
end RM

namespace RM
open PySem PySem.Spec PyProof.Rows L2 VL
theorem cname_at (n : Nat) (h : n < 5) : ∃ c, ixD (.str "abcde") (.int (n : Int)) = .ok c ∧ mulD c (.int (1 + (n : Int) % 4)) = .ok (.str (cname n)) := by
  match n, h with
  | 0, _ => exact ⟨.str "a", rfl, rfl⟩
  | 1, _ => exact ⟨.str "b", rfl, rfl⟩
  | 2, _ => exact ⟨.str "c", rfl, rfl⟩
  | 3, _ => exact ⟨.str "d", rfl, rfl⟩
  | 4, _ => exact ⟨.str "e", rfl, rfl⟩
theorem cname_word (n : Nat) (h : n < 5) : wordB (cname n) 4 = true := by
  match n, h with
  | 0, _ => decide +kernel
  | 1, _ => decide +kernel
  | 2, _ => decide +kernel
  | 3, _ => decide +kernel
  | 4, _ => decide +kernel
theorem cname_new (n : Nat) (h : n < 5) : cname n ∉ (List.range n).map cname := by
  match n, h with
  | 0, _ => decide +kernel
  | 1, _ => decide +kernel
  | 2, _ => decide +kernel
  | 3, _ => decide +kernel
  | 4, _ => decide +kernel
theorem tname_word (n : Nat) (h : n < 4) : wordB (tname4 n) 4 = true := by
  match n, h with
  | 0, _ => decide +kernel
  | 1, _ => decide +kernel
  | 2, _ => decide +kernel
  | 3, _ => decide +kernel
theorem tname_new (n : Nat) (h : n < 4) : tname4 n ∉ (List.range n).map tname4 := by
  match n, h with
  | 0, _ => decide +kernel
  | 1, _ => decide +kernel
  | 2, _ => decide +kernel
  | 3, _ => decide +kernel
theorem tname_at (n : Nat) (h : n < 4) : ixD (.lst [.str "one", .str "two", .str "t", .str "four"]) (.int (n : Int)) = .ok (.str (tname4 n)) := by
  match n, h with
  | 0, _ => rfl
  | 1, _ => rfl
  | 2, _ => rfl
  | 3, _ => rfl
def N_law_plan : SEnv → SRes := (sApp 6 [2, 6] (eTup (aCons (eBin mulD (eBin ixD (eC (.str "abcde")) (eVar 7)) (eBin addD (eC (.int 1)) (eBin modD (eVar 7) (eC (.int 4))))) (aCons (eCall m_law_rule (aCons (eCall m_law_drawn (aCons (eVar 4) (aCons (eVar 7) aNil))) (aCons (eVar 5) (aCons (eVar 2) (aCons (eVar 6) aNil))))) aNil))))
theorem range_get {n i : Nat} {d : Dat} (h : (rangeL 0 (n : Int))[i]? = some d) : i < n ∧ d = .int (i : Int) := by
  rw [rangeL_get] at h
  split at h
  · cases h; exact ⟨by omega, by simp⟩
  · cases h
theorem plan_cols {more most jd : Dat} {here many : Int} {tabs : List Tab} (htw : tabsWf [] tabs = true) (htl : tabs.length ≤ 900) (hm1 : 1 ≤ many) (hm2 : many ≤ 20) (k : Nat) (hk : k ≤ 5) (x7 : Option Slot) :
    ∃ cols y7, forD (.nm 7) N_law_plan (rangeL 0 (k : Int)) [some (.frz more), some (.frz most), some (.own (tabs.map Tab.dat)), some (.frz jd), some (.frz (.int here)), some (.frz (.int many)), some (.own []), x7] = .next [some (.frz more), some (.frz most), some (.own (tabs.map Tab.dat)), some (.frz jd), some (.frz (.int here)), some (.frz (.int many)), some (.own (cols.map Col.dat)), y7] ∧
      cols.length = k ∧ colsWf many tabs [] cols = true ∧ cols.map Col.name = (List.range k).map cname := by
  obtain ⟨ρ', h1, cols, y7, h2, h3, h4, h5⟩ := forD_inv (p := .nm 7) (b := N_law_plan) (ds := rangeL 0 (k : Int)) (ρ := [some (.frz more), some (.frz most), some (.own (tabs.map Tab.dat)), some (.frz jd), some (.frz (.int here)), some (.frz (.int many)), some (.own []), x7])
    (fun i ρ => ∃ cols y7, ρ = [some (.frz more), some (.frz most), some (.own (tabs.map Tab.dat)), some (.frz jd), some (.frz (.int here)), some (.frz (.int many)), some (.own (cols.map Col.dat)), y7] ∧ cols.length = i ∧ colsWf many tabs [] cols = true ∧ cols.map Col.name = (List.range i).map cname)
    ⟨[], x7, rfl, rfl, rfl, rfl⟩ (fun i d ρ hd ⟨cols, y7, e, hl, hw, hn⟩ => by
      obtain ⟨hi, rfl⟩ := range_get hd
      subst e
      have I : RuleIn many tabs cols := ⟨htw, hw, htl, by omega, hm1, hm2⟩
      obtain ⟨r, hr, hok⟩ := law_rule_eq I (drI here i) (drI_bd here i).1
      obtain ⟨c, hc1, hc2⟩ := cname_at i (by omega)
      have m4 := modD_int (i := (i : Int)) (j := 4) (by decide)
      have hnl : noL (.tup [.str (cname i), r.dat]) = true := by simp [noL_rule]
      have hb : cols.length < big := Nat.lt_of_lt_of_le (show cols.length < 6 by omega) (by decide)
      have hst := sApp_step (ρ := [some (.frz more), some (.frz most), some (.own (tabs.map Tab.dat)), some (.frz jd), some (.frz (.int here)), some (.frz (.int many)), some (.own (cols.map Col.dat)), some (.frz (.int (i : Int)))]) (i := 6) (js := [2, 6]) (d := .tup [.str (cname i), r.dat]) (ds := cols.map Col.dat)
        (f := eTup (aCons (eBin mulD (eBin ixD (eC (.str "abcde")) (eVar 7)) (eBin addD (eC (.int 1)) (eBin modD (eVar 7) (eC (.int 4))))) (aCons (eCall m_law_rule (aCons (eCall m_law_drawn (aCons (eVar 4) (aCons (eVar 7) aNil))) (aCons (eVar 5) (aCons (eVar 2) (aCons (eVar 6) aNil))))) aNil))) rfl (by simp [hc1, m4, hc2, law_drawn_eq, hr, big2]) (by rw [after_no hnl]; rfl) (by simpa using hb)
      rw [after_no hnl] at hst
      refine ⟨_, _, bindU_nm, hst, cols ++ [⟨cname i, r⟩], some (.frz (.int (i : Int))), by simp [Col.dat], by simp [hl], ?_, ?_⟩
      · rw [colsWf_snoc, hw, List.nil_append, hn, cname_word i (by omega), hok]
        simp only [cname_new i (by omega), decide_false]; rfl
      · rw [List.map_append, hn, List.range_succ, List.map_append]; rfl)
  rw [rangeL_length] at h3 h5
  subst h2
  refine ⟨cols, y7, h1, by omega, h4, ?_⟩
  rw [h5]; congr 2
theorem freeze_def {js : List Nat} {ρ : SEnv} : freeze js ρ = frzF js 0 ρ := rfl
theorem frzF_no {js : List Nat} {n : Nat} : frzF js n [] = [] := rfl
theorem frzF_co {js : List Nat} {n : Nat} {s : Option Slot} {r : SEnv} : frzF js n (s :: r) = frzAt js n s :: frzF js (n + 1) r := rfl
theorem frzAt_frz {js : List Nat} {n : Nat} {d : Dat} : frzAt js n (some (.frz d)) = some (.frz d) := rfl
theorem frzAt_non {js : List Nat} {n : Nat} : frzAt js n none = none := rfl
theorem frzAt_own {js : List Nat} {n : Nat} {ds : List Dat} (h : n ∈ js) : frzAt js n (some (.own ds)) = some (.frz (.lst ds)) := if_pos h
theorem frzAt_out {js : List Nat} {n : Nat} (h : n ∉ js) (s : Option Slot) : frzAt js n s = s := by
  rcases s with _ | s
  · rfl
  · cases s with
    | frz d => rfl
    | own ds => exact if_neg h
theorem L1_law_plan_eq : L1_law_plan = (sSeq (sSet 4 [] (eCall m_law_drawn (aCons (eVar 0) (aCons (eVar 3) aNil)))) (sSeq (sSet 5 [] (eBin addD (eC (.int 1)) (eBin modD (eVar 4) (eVar 1)))) (sSeq (sOwn 6 [] aNil) (sSeq (sFor [] (iArg rng1D (aCons (eBin addD (eC (.int 1)) (eBin modD (eBin fdivD (eVar 4) (eC (.int 64))) (eC (.int 5)))) aNil)) (.nm 7) N_law_plan) (sApp 2 [6] (eTup (aCons (eBin ixD (eLst (aCons (eC (.str "one")) (aCons (eC (.str "two")) (aCons (eC (.str "t")) (aCons (eC (.str "four")) aNil))))) (eVar 3)) (aCons (eVar 5) (aCons (eVar 6) aNil))))))))) := rfl
theorem plan_tabs {more most : Int} (hmo : 1 ≤ most) (hmo2 : most ≤ 20) (k : Nat) (hk : k ≤ 4) :
    ∃ tabs ρ', forD (.nm 3) L1_law_plan (rangeL 0 (k : Int)) [some (.frz (.int more)), some (.frz (.int most)), some (.own []), none, none, none, none, none] = .next ρ' ∧ (∃ y3 y4 y5 y6 y7, ρ' = [some (.frz (.int more)), some (.frz (.int most)), some (.own (tabs.map Tab.dat)), y3, y4, y5, y6, y7]) ∧
      tabs.length = k ∧ tabsWf [] tabs = true ∧ tabs.map Tab.name = (List.range k).map tname4 ∧ ∀ t ∈ tabs, t.many ≤ most ∧ t.cols.map Col.name = (List.range t.cols.length).map cname := by
  obtain ⟨ρ', h1, tabs, ⟨y3, y4, y5, y6, y7, h2⟩, h3, h4, h5, h6⟩ := forD_inv (p := .nm 3) (b := L1_law_plan) (ds := rangeL 0 (k : Int)) (ρ := [some (.frz (.int more)), some (.frz (.int most)), some (.own []), none, none, none, none, none])
    (fun i ρ => ∃ tabs, (∃ y3 y4 y5 y6 y7, ρ = [some (.frz (.int more)), some (.frz (.int most)), some (.own (tabs.map Tab.dat)), y3, y4, y5, y6, y7]) ∧ tabs.length = i ∧ tabsWf [] tabs = true ∧ tabs.map Tab.name = (List.range i).map tname4 ∧ ∀ t ∈ tabs, t.many ≤ most ∧ t.cols.map Col.name = (List.range t.cols.length).map cname)
    ⟨[], ⟨none, none, none, none, none, rfl⟩, rfl, rfl, rfl, by simp⟩ (fun i d ρ hd ⟨tabs, ⟨y3, y4, y5, y6, y7, e⟩, hl, hw, hn, hmy⟩ => by
      obtain ⟨hi, rfl⟩ := range_get hd
      subst e
      have d1 := drI_bd more i
      generalize hh : drI more i = here at d1
      have q1 := Int.emod_nonneg here (show most ≠ 0 by omega)
      have q2 := Int.emod_lt_of_pos here (show 0 < most by omega)
      have a1 : modD (.int here) (.int most) = _ := modD_int (by omega)
      have a2 := fdivD_int (i := here) (j := 64) (by decide) (by decide)
      have a3 := modD_int (i := here / 64) (j := 5) (by decide)
      obtain ⟨kc, hkc, hkc2⟩ : ∃ kc : Nat, 1 + here / 64 % 5 = (kc : Int) ∧ 1 ≤ kc ∧ kc ≤ 5 := ⟨(1 + here / 64 % 5).toNat, by omega, by omega⟩
      have a4 : rng1D [.int (kc : Int)] = .ok (rangeL 0 (kc : Int)) := rng1_int (by omega) (by omega)
      obtain ⟨cols, z7, hc1, hc2, hc3, hc4⟩ := plan_cols (more := .int more) (most := .int most) (jd := .int (i : Int)) (here := here) (many := 1 + here % most) hw (by omega) (by omega) (by omega) kc hkc2.2 y7
      have a5 := tname_at i (by omega)
      have hb : tabs.length < big := Nat.lt_of_lt_of_le (show tabs.length < 6 by omega) (by decide)
      refine ⟨_, _, bindU_nm, ?_, tabs ++ [⟨tname4 i, 1 + here % most, cols⟩], ⟨some (.frz (.int (i : Int))), some (.frz (.int here)), some (.frz (.int (1 + here % most))), some (.frz (.lst (cols.map Col.dat))), z7, rfl⟩, by simp [hl], ?_, ?_, ?_⟩
      · rw [L1_law_plan_eq]
        simp [law_drawn_eq, hh, a1, a2, a3, hkc, a4, big0, hc1]
        simp [sApp, appS, a5, big4, big3, after, freeze_def, frzF_no, frzF_co, frzAt_frz, frzAt_own, frzAt_out, hb, Tab.dat]
      · rw [tabsWf_snoc, hw, List.nil_append]
        have w := tname_new i (by omega)
        rw [← hn] at w
        simp only [tabWf, tname_word i (by omega), w, decide_false, hc3, Bool.and_true, Bool.true_and, Bool.not_false, Bool.and_eq_true, decide_eq_true_eq]
        omega
      · rw [List.map_append, hn, List.range_succ, List.map_append]; rfl
      · intro t ht
        rcases List.mem_append.mp ht with ht | ht
        · exact hmy t ht
        · rw [List.mem_singleton.mp ht]; exact ⟨by show 1 + here % most ≤ most; omega, by rw [hc2]; exact hc4⟩)
  rw [rangeL_length] at h3 h5
  exact ⟨tabs, ρ', h1, ⟨y3, y4, y5, y6, y7, h2⟩, by omega, h4, by rw [h5]; congr 2, h6⟩
/-- the law's own plans are plans -/
theorem law_plan_full (more most : Int) (hmo : 1 ≤ most) (hmo2 : most ≤ 20) : ∃ p, m_law_plan [.int more, .int most] = .ok (planD p) ∧ planWf p = true ∧ p.map Tab.name = (List.range p.length).map tname4 ∧ ∀ t ∈ p, t.many ≤ most ∧ t.cols.map Col.name = (List.range t.cols.length).map cname := by
  obtain ⟨k, hk, hk2⟩ : ∃ k : Nat, 1 + more % 4 = (k : Int) ∧ 1 ≤ k ∧ k ≤ 4 := ⟨(1 + more % 4).toNat, by omega, by omega⟩
  obtain ⟨tabs, ρ', h1, ⟨y3, y4, y5, y6, y7, h2⟩, h3, h4, h5, h6⟩ := plan_tabs (more := more) hmo hmo2 k hk2.2
  refine ⟨tabs, ?_, by simp only [planWf, h4, Bool.and_true, Bool.and_eq_true, decide_eq_true_eq]; omega, by rw [h3]; exact h5, h6⟩
  have a3 := modD_int (i := more) (j := 4) (by decide)
  have a4 : rng1D [.int (k : Int)] = .ok (rangeL 0 (k : Int)) := rng1_int (by omega) (by omega)
  rw [o_law_plan]
  simp [b_law_plan, big0, a3, hk, a4, h1, h2, planD]
theorem law_plan_eq (more most : Int) (hmo : 1 ≤ most) (hmo2 : most ≤ 20) : ∃ p, m_law_plan [.int more, .int most] = .ok (planD p) ∧ planWf p = true ∧ p.map Tab.name = (List.range p.length).map tname4 ∧ ∀ t ∈ p, t.many ≤ most := by
  obtain ⟨p, h1, h2, h3, h4⟩ := law_plan_full more most hmo hmo2
  exact ⟨p, h1, h2, h3, fun t ht => (h4 t ht).1⟩
end RM

/-! PS: the draws (from K10P, turned to the namespace RM). -/
namespace RM
open PySem PySem.Spec PyProof.Rows L2 VL
def drawF (s t c r : Int) : Int := (s * 7919 + t * 104729 + c * 1299709 + r * 15485863 + 1) * 48271 % 2147483647
def drawI (s t c r : Int) : Int := (drawF s t c r * drawF s t c r + 7 * drawF s t c r + r) % 2147483629
theorem drawF_bd (s t c r : Int) : 0 ≤ drawF s t c r ∧ drawF s t c r < 2147483647 := by unfold drawF; omega
theorem draw_eq (s t c r : Int) : m_draw [.int s, .int t, .int c, .int r] = .ok (.int (drawI s t c r)) := by
  rw [o_draw]
  have h := drawF_bd s t c r
  unfold b_draw
  simp (disch := omega) [mulD_r, modD_int, mulD_l]
  rfl
theorem count_eq (n lo hi : Int) : m_is_count [.int n, .int lo, .int hi] = .ok (.bl (decide (lo ≤ n) && decide (n ≤ hi))) := by
  rw [o_is_count]
  unfold b_is_count
  simp
  have e1 : isiD [.int n, .ty "int"] = .ok (.bl true) := rfl
  have e2 : isiD [.int n, .ty "bool"] = .ok (.bl false) := rfl
  try rw [e1, e2]
  by_cases h : lo ≤ n <;> simp [h]
theorem need_t : m_need_draws [.bl true] = .ok .non := rfl
theorem drawn_eq {s t c r : Int} (hs : 0 ≤ s ∧ s ≤ 999999) (ht : 0 ≤ t ∧ t ≤ 99) (hc : 0 ≤ c ∧ c ≤ 99) (hr : 0 ≤ r ∧ r ≤ 99) : m_drawn [.int s, .int t, .int c, .int r] = .ok (.int (drawI s t c r)) := by
  rw [o_drawn]
  unfold b_drawn
  simp [count_eq, hs, ht, hc, hr, need_t, draw_eq]
theorem drawI_bd (s t c r : Int) : 0 ≤ drawI s t c r ∧ drawI s t c r < 2147483629 := by unfold drawI; omega
def Lf : Nat → Int → Int
  | 0, l => l
  | i + 1, l => Lf i l / 26
def wP : Nat → Int → List Nat
  | 0, _ => []
  | i + 1, l => wP i l ++ [97 + (Lf i l % 26).toNat]
theorem wP_len : ∀ i l, (wP i l).length = i
  | 0, _ => rfl
  | i + 1, l => by show (wP i l ++ [_]).length = _; rw [List.length_append, wP_len i l]; rfl
theorem wP_ok : ∀ i l, ∀ c ∈ wP i l, c < 0x110000
  | 0, _, c, h => by cases h
  | i + 1, l, c, h => by
    have h' : c ∈ wP i l ++ [97 + (Lf i l % 26).toNat] := h
    rcases List.mem_append.mp h' with q | q
    · exact wP_ok i l c q
    · have := List.mem_singleton.mp q
      omega
theorem ixA (n : Int) : ixD (.str "abcdefghijklmnopqrstuvwxyz") (.int (n % 26)) = .ok (.str (Sx [97 + (n % 26).toNat])) := by
  have key : ∀ j : Nat, j < 26 → ("abcdefghijklmnopqrstuvwxyz" : Str).cps.toList[j]? = some (97 + j) := by decide +kernel
  exact ixD_str (by decide +kernel) (by omega) (key _ (by omega))
theorem word_of_eq {n lo hi : Int} (h1 : 1 ≤ lo) (h2 : lo ≤ hi) (h3 : hi ≤ 100) : m_word_of [.int n, .int lo, .int hi] = .ok (.str (Sx (wP (lo + n % (hi - lo + 1)).toNat (n / (hi - lo + 1))))) := by
  rw [o_word_of]
  unfold b_word_of
  have hm := Int.emod_nonneg n (show hi - lo + 1 ≠ 0 by omega)
  have hm2 := Int.emod_lt_of_pos n (show 0 < hi - lo + 1 by omega)
  generalize em : lo + n % (hi - lo + 1) = many
  generalize el : n / (hi - lo + 1) = l
  have hb : 0 ≤ many ∧ many ≤ 100 := by omega
  obtain ⟨ρ', e, I⟩ := forD_inv (p := .nm 5) (b := sSeq (sSet 4 [] (eBin addD (eVar 4) (eBin ixD (eC (.str "abcdefghijklmnopqrstuvwxyz")) (eBin modD (eVar 0) (eC (.int 26)))))) (sSet 0 [] (eBin fdivD (eVar 0) (eC (.int 26))))) (ds := rangeL 0 many)
    (ρ := [some (.frz (.int l)), some (.frz (.int lo)), some (.frz (.int hi)), some (.frz (.int many)), some (.frz (.str "")), none])
    (fun i ρ => i ≤ many.toNat → ∃ t, ρ = [some (.frz (.int (Lf i l))), some (.frz (.int lo)), some (.frz (.int hi)), some (.frz (.int many)), some (.frz (.str (Sx (wP i l)))), t]) (fun _ => ⟨none, rfl⟩) (fun i d ρ hd hI => by
      refine ⟨[(5, d)], ?_⟩
      have hj : i < many.toNat := by
        rw [rangeL_get] at hd
        by_cases q : i < (many - 0).toNat
        · omega
        · rw [if_neg q] at hd; cases hd
      obtain ⟨t, rfl⟩ := hI (by omega)
      refine ⟨[some (.frz (.int (Lf (i + 1) l))), some (.frz (.int lo)), some (.frz (.int hi)), some (.frz (.int many)), some (.frz (.str (Sx (wP (i + 1) l)))), some (.frz d)], rfl, ?_, fun _ => ⟨_, rfl⟩⟩
      have ha : addD (.str (Sx (wP i l))) (.str (Sx [97 + (Lf i l % 26).toNat])) = .ok (.str (Sx (wP (i + 1) l))) := by
        rw [addD_str (by rw [Sx_len, Sx_len, wP_len]; exact le_big (by simp; omega)), Sx_app]; rfl
      show (sSeq _ _ [some (.frz (.int (Lf i l))), some (.frz (.int lo)), some (.frz (.int hi)), some (.frz (.int many)), some (.frz (.str (Sx (wP i l)))), some (.frz d)]) = _
      simp (disch := omega) [modD_int, ixA, ha, fdivD_int]
      rfl)
  obtain ⟨t, rfl⟩ := I (by rw [rangeL_eq]; simp)
  have el : (rangeL 0 many).length = many.toNat := by rw [rangeL_eq]; simp
  rw [el] at e
  simp (disch := omega) [modD_int, fdivD_int, em, rng1_int]
  simp (disch := omega) [*]
theorem wP_join (i : Nat) (l : Int) : joinD (.str "") (.lst (((wP i l).map fun c => Sx [c]).map Dat.str)) = (if ((((wP i l).map fun c => Sx [c]).map Str.length).sum + ((wP i l).map fun c => Sx [c]).length * ("" : Str).length ≤ big) then .ok (.str (Sx (wP i l))) else .stuck) := by
  have e : Txt.join ("" : Str) ((wP i l).map fun c => Sx [c]) = Sx (wP i l) := by
    have := join_nil ((wP i l).map fun c => [c])
    rw [List.map_map] at this
    refine Eq.trans this ?_
    congr 1
    induction wP i l with
    | nil => rfl
    | cons c r ih => show [c] ++ (r.map fun c => [c]).flatten = c :: r; rw [ih]; rfl
  show (match strsD (((wP i l).map fun c => Sx [c]).map Dat.str) with | some ys => if (ys.map Str.length).sum + ys.length * ("" : Str).length ≤ big then Res.ok (Dat.str (Txt.join "" ys)) else .stuck | none => .stuck) = _
  rw [strsD_map]
  show (if (((wP i l).map fun c => Sx [c]).map Str.length).sum + ((wP i l).map fun c => Sx [c]).length * ("" : Str).length ≤ big then Res.ok (Dat.str (Txt.join "" ((wP i l).map fun c => Sx [c]))) else .stuck) = _
  rw [e]
theorem wP_sum (i : Nat) (l : Int) : (((wP i l).map fun c => Sx [c]).map Str.length).sum = i := by
  have : ∀ L : List Nat, ((L.map fun c => Sx [c]).map Str.length).sum = L.length := by
    intro L
    induction L with
    | nil => rfl
    | cons c r ih => rw [List.map_cons, List.map_cons, List.sum_cons, ih, Sx_len]; simp; omega
  rw [this, wP_len]
/-! ### shares -/
def pre (xs : List Int) (j : Nat) : Int := (xs.take j).sum
theorem pre_succ {xs : List Int} {j : Nat} {x : Int} (h : xs[j]? = some x) : pre xs (j + 1) = pre xs j + x := by
  obtain ⟨hl, e⟩ := List.getElem?_eq_some_iff.mp h
  unfold pre
  rw [List.take_succ, h]
  simp
theorem pre_mono {xs : List Int} (hp : ∀ x ∈ xs, 1 ≤ x) : ∀ (d j : Nat), pre xs j ≤ pre xs (j + d)
  | 0, j => Int.le_refl _
  | d + 1, j => by
    have ih := pre_mono hp d j
    by_cases h : j + d < xs.length
    · have := pre_succ (xs := xs) (j := j + d) (List.getElem?_eq_getElem h)
      have h1 := hp _ (List.getElem_mem h)
      show pre xs j ≤ pre xs (j + d + 1)
      omega
    · show pre xs j ≤ pre xs (j + d + 1)
      unfold pre at ih ⊢
      rw [List.take_of_length_le (show xs.length ≤ j + d + 1 by omega)]
      rw [List.take_of_length_le (show xs.length ≤ j + d by omega)] at ih
      exact ih
/-- the place j where left stands -/
def At (xs : List Int) (left : Int) (j : Nat) : Prop := j < xs.length ∧ pre xs j ≤ left ∧ left < pre xs (j + 1)
theorem shared_of_eq {n : Int} {xs : List Int} (hp : ∀ x ∈ xs, 1 ≤ x) (hl : xs ≠ []) (hx : xs.length ≤ 100) : ∃ j : Nat, At xs (n % xs.sum) j ∧ m_shared_of [.int n, .lst (xs.map Dat.int)] = .ok (.int (j : Int)) := by
  have hs : 0 < xs.sum := by
    have h1 := pre_mono hp (xs.length - 1) 1
    cases xs with
    | nil => exact absurd rfl hl
    | cons x r =>
      have : pre (x :: r) 1 = x := by simp [pre]
      have h2 := hp x (by simp)
      have h3 : pre (x :: r) (1 + ((x :: r).length - 1)) = (x :: r).sum := by unfold pre; rw [List.take_of_length_le (by simp; omega)]
      omega
  have b1 := Int.emod_nonneg n (show xs.sum ≠ 0 by omega)
  have b2 := Int.emod_lt_of_pos n hs
  generalize el : n % xs.sum = left at b1 b2 ⊢
  have key := whileD_inv (js := []) (c := eTest (eBin geD (eVar 2) (eBin ixD (eVar 1) (eVar 3)))) (b := sSeq (sSet 2 [] (eBin subD (eVar 2) (eBin ixD (eVar 1) (eVar 3)))) (sSet 3 [] (eBin addD (eVar 3) (eC (.int 1)))))
    (fun ρ => ∃ j : Nat, ρ = [some (.frz (.int n)), some (.frz (.lst (xs.map Dat.int))), some (.frz (.int (left - pre xs j))), some (.frz (.int (j : Int)))] ∧ j < xs.length ∧ pre xs j ≤ left)
    (fun (ρ : SEnv) => match ρ[3]? with | some (some (Slot.frz (Dat.int j))) => xs.length - j.toNat | _ => 0) (fun ρ ⟨j, e, hj, hle⟩ => by
      subst e
      have hg : (xs.map Dat.int)[(j : Int).toNat]? = some (.int xs[j]) := by rw [Int.toNat_natCast, List.getElem?_map, List.getElem?_eq_getElem hj]; rfl
      have hi := ixD_lst (show (0 : Int) ≤ (j : Int) by omega) hg
      refine ⟨decide (left - pre xs j ≥ xs[j]), by simp [hi], fun hk => ?_⟩
      have hk' := of_decide_eq_true hk
      have hps := pre_succ (xs := xs) (j := j) (List.getElem?_eq_getElem hj)
      have hlt : j + 1 < xs.length := by
        by_cases q : j + 1 < xs.length
        · exact q
        · have : pre xs (j + 1) = xs.sum := by unfold pre; rw [List.take_of_length_le (by omega)]
          omega
      refine ⟨[some (.frz (.int n)), some (.frz (.lst (xs.map Dat.int))), some (.frz (.int (left - pre xs (j + 1)))), some (.frz (.int ((j + 1 : Nat) : Int)))], ?_, ⟨j + 1, rfl, hlt, by omega⟩, ?_⟩
      · simp [hi]
        omega
      · show xs.length - ((j + 1 : Nat) : Int).toNat < xs.length - ((j : Nat) : Int).toNat
        omega)
  obtain ⟨ρ', e, ⟨j, rfl, hj, hle⟩, hc⟩ := key 4096 [some (.frz (.int n)), some (.frz (.lst (xs.map Dat.int))), some (.frz (.int left)), some (.frz (.int 0))] ⟨0, by simp [pre], by cases xs with | nil => exact absurd rfl hl | cons => simp, by simpa [pre] using b1⟩ (by show xs.length - (0 : Int).toNat < 4096; omega)
  have hg : (xs.map Dat.int)[(j : Int).toNat]? = some (.int xs[j]) := by rw [Int.toNat_natCast, List.getElem?_map, List.getElem?_eq_getElem hj]; rfl
  have hi := ixD_lst (show (0 : Int) ≤ (j : Int) by omega) hg
  refine ⟨j, ⟨hj, hle, ?_⟩, ?_⟩
  · simp [hi] at hc
    have hps := pre_succ (xs := xs) (j := j) (List.getElem?_eq_getElem hj)
    omega
  · rw [o_shared_of]
    unfold b_shared_of
    simp (disch := omega) [sumD_ints, modD_int, el]
    rw [e]
    simp
theorem filter_lt (m j : Nat) : ((List.range m).filter fun i => decide (i < j)).length = min m j := by
  induction m with
  | zero => simp
  | succ m ih =>
    rw [List.range_succ, List.filter_append, List.length_append, ih]
    by_cases h : m < j
    · simp [h]; omega
    · simp [h]; omega
/-! ### spreads -/
theorem divides_eq (a b : Nat) (hb : b < 4096) : m_divides_both [.int (a : Int), .int (b : Int)] = .ok (.int (Nat.gcd a b : Nat)) := by
  obtain ⟨ρ', e, ⟨x, y, rfl, hg⟩, hc⟩ := whileD_inv (js := []) (c := eTest (eBin neD (eVar 1) (eC (.int 0)))) (b := sPar 0 1 [] (aCons (eVar 1) (aCons (eBin modD (eVar 0) (eVar 1)) aNil)))
    (fun ρ => ∃ x y : Nat, ρ = [some (.frz (.int (x : Int))), some (.frz (.int (y : Int)))] ∧ Nat.gcd x y = Nat.gcd a b)
    (fun (ρ : SEnv) => match ρ[1]? with | some (some (Slot.frz (Dat.int j))) => j.toNat | _ => 0) (fun ρ ⟨x, y, e, hg⟩ => by
      subst e
      refine ⟨!((y : Int) == 0), by simp, fun hk => ?_⟩
      have hy : 0 < y := by
        simp at hk
        omega
      refine ⟨[some (.frz (.int (y : Int))), some (.frz (.int ((x % y : Nat) : Int)))], ?_, ⟨y, x % y, rfl, ?_⟩, ?_⟩
      · simp (disch := omega) [modD_int]
      · rw [← hg, Nat.gcd_comm x y, Nat.gcd_rec y x, Nat.gcd_comm]
      · show ((x % y : Nat) : Int).toNat < ((y : Nat) : Int).toNat
        have := Nat.mod_lt x hy
        omega) 4096 [some (.frz (.int (a : Int))), some (.frz (.int (b : Int)))] ⟨a, b, rfl, rfl⟩ (by show ((b : Nat) : Int).toNat < 4096; omega)
  have hy : y = 0 := by
    simp at hc
    omega
  subst hy
  rw [o_divides_both]
  unfold b_divides_both
  rw [sSeq_eq, sWhile_eq, e]
  simp
  rw [← hg, Nat.gcd_zero_right]
def stepTo (P : Nat → Bool) : Nat → Nat → Nat
  | 0, s => s
  | n + 1, s => if P s = true then stepTo P n (s + 1) else s
theorem stepTo_spec (P : Nat → Bool) : ∀ (n s t : Nat), t < n → P (s + t) = false → P (stepTo P n s) = false ∧ s ≤ stepTo P n s ∧ stepTo P n s ≤ s + t
  | 0, _, _, h, _ => absurd h (Nat.not_lt_zero _)
  | n + 1, s, t, h, hp => by
    unfold stepTo
    by_cases q : P s = true
    · rw [if_pos q]
      cases t with
      | zero => rw [Nat.add_zero, q] at hp; cases hp
      | succ t =>
        obtain ⟨h1, h2, h3⟩ := stepTo_spec P n (s + 1) t (by omega) (by rw [show s + 1 + t = s + (t + 1) by omega]; exact hp)
        exact ⟨h1, by omega, by omega⟩
    · rw [if_neg q]
      exact ⟨Bool.eq_false_iff.mpr q, Nat.le_refl _, by omega⟩
theorem while_step {c : Env → Res Bool} {b : SEnv → SRes} (ρ : Nat → SEnv) (P : Nat → Bool) (M : Nat) (hc : ∀ s, 1 ≤ s → s ≤ M → c (view [] (ρ s)) = .ok (P s)) (hb : ∀ s, b (ρ s) = .next (ρ (s + 1))) : ∀ (n s t : Nat), 1 ≤ s → t < n → s + t ≤ M → P (s + t) = false → whileD [] c b n (ρ s) = .next (ρ (stepTo P n s))
  | 0, _, _, _, h, _, _ => absurd h (Nat.not_lt_zero _)
  | n + 1, s, t, h1, h, hM, hp => by
    unfold whileD stepTo
    rw [hc s h1 (by omega)]
    show (if P s = true then _ else _) = _
    by_cases q : P s = true
    · rw [if_pos q, if_pos q, hb s]
      cases t with
      | zero => rw [Nat.add_zero, q] at hp; cases hp
      | succ t => exact while_step ρ P M hc hb n (s + 1) t (by omega) (by omega) (by omega) (by rw [show s + 1 + t = s + (t + 1) by omega]; exact hp)
    · rw [if_neg q, if_neg q]
def cop (size : Nat) (s : Nat) : Bool := !(decide (Nat.gcd s size = 1))
theorem cop_end (size s0 : Nat) (h : s0 ≤ size) : cop size (s0 + (size + 1 - s0)) = false := by
  unfold cop
  rw [show s0 + (size + 1 - s0) = size + 1 by omega]
  simp
theorem cop_by {size s : Nat} (h0 : 0 < size) (hs : 1 ≤ s) : cop size s = decide (0 < ((List.range (size - 1)).filter fun (i : Nat) => decide (size % (2 + i) = 0) && decide (s % (2 + i) = 0)).length) := by
  unfold cop
  by_cases h : Nat.gcd s size = 1
  · rw [decide_eq_true h]
    symm
    refine decide_eq_false fun q => ?_
    obtain ⟨i, hi⟩ := List.exists_mem_of_length_pos q
    obtain ⟨hi1, hi2⟩ := List.mem_filter.mp hi
    simp only [Bool.and_eq_true, decide_eq_true_eq] at hi2
    have := Nat.dvd_gcd (Nat.dvd_of_mod_eq_zero hi2.2) (Nat.dvd_of_mod_eq_zero hi2.1)
    rw [h] at this
    have := Nat.le_of_dvd (by decide) this
    omega
  · rw [decide_eq_false h]
    symm
    refine decide_eq_true (List.length_pos_of_mem (a := Nat.gcd s size - 2) (List.mem_filter.mpr ⟨List.mem_range.mpr ?_, ?_⟩))
    · have h1 := Nat.gcd_le_right s h0
      have h2 := Nat.gcd_pos_of_pos_right s h0
      omega
    · have h2 := Nat.gcd_pos_of_pos_right s h0
      rw [show 2 + (Nat.gcd s size - 2) = Nat.gcd s size by omega]
      rw [Nat.mod_eq_zero_of_dvd (Nat.gcd_dvd_right s size), Nat.mod_eq_zero_of_dvd (Nat.gcd_dvd_left s size)]
      rfl
def step0 (n : Int) (size : Nat) : Nat := (1 + n / (size : Int) % (size : Int)).toNat
theorem step0_bd (n : Int) {size : Nat} (h0 : 0 < size) : 1 ≤ step0 n size ∧ step0 n size ≤ size ∧ ((step0 n size : Nat) : Int) = 1 + n / (size : Int) % (size : Int) := by
  have h1 := Int.emod_nonneg (n / (size : Int)) (show (size : Int) ≠ 0 by omega)
  have h2 := Int.emod_lt_of_pos (n / (size : Int)) (show (0 : Int) < (size : Int) by omega)
  unfold step0
  omega
def stepS (n : Int) (size : Nat) : Nat := stepTo (cop size) 4096 (step0 n size)
def spreadI (n : Int) (size : Nat) (row : Int) : Int := (n % (size : Int) + row * ((stepS n size : Nat) : Int)) % (size : Int)
theorem stepS_ok (n : Int) {size : Nat} (h0 : 0 < size) (h1 : size ≤ 2000) : Nat.gcd (stepS n size) size = 1 ∧ stepS n size ≤ 2001 := by
  obtain ⟨b1, b2, _⟩ := step0_bd n h0
  obtain ⟨q1, q2, q3⟩ := stepTo_spec (cop size) 4096 (step0 n size) (size + 1 - step0 n size) (by omega) (cop_end size _ b2)
  refine ⟨?_, by unfold stepS; omega⟩
  have q1' : cop size (stepS n size) = false := q1
  generalize stepS n size = z at q1'
  unfold cop at q1'
  simpa using q1'
theorem spread_of_eq (n : Int) {size : Nat} (row : Int) (h0 : 0 < size) (h1 : size ≤ 2000) (hr : 0 ≤ row ∧ row ≤ 1000) : m_spread_of [.int n, .int row, .int (size : Int)] = .ok (.int (spreadI n size row)) := by
  obtain ⟨b1, b2, b3⟩ := step0_bd n h0
  rw [o_spread_of]
  unfold b_spread_of
  have e := while_step (c := eTest (eBin neD (eCall m_divides_both (aCons (eVar 3) (aCons (eVar 2) aNil))) (eC (.int 1)))) (b := sSet 3 [] (eBin addD (eVar 3) (eC (.int 1)))) (fun s => [some (.frz (.int n)), some (.frz (.int row)), some (.frz (.int (size : Int))), some (.frz (.int (s : Int)))]) (cop size) (size + 1) (fun s h1 h2 => by
    have hd : eCall m_divides_both (aCons (eVar 3) (aCons (eVar 2) aNil)) [some (.int n), some (.int row), some (.int (size : Int)), some (.int (s : Int))] = .ok (.int (Nat.gcd s size : Nat)) := divides_eq s size (by omega)
    show eTest _ [some (.int n), some (.int row), some (.int (size : Int)), some (.int (s : Int))] = _
    rw [eTest_eq, eBin_eq, hd]
    show Res.ok (!(((Nat.gcd s size : Nat) : Int) == 1)) = .ok (!decide (Nat.gcd s size = 1))
    congr 2
    by_cases q : Nat.gcd s size = 1
    · rw [decide_eq_true q]; exact beq_iff_eq.mpr (by omega)
    · rw [decide_eq_false q]
      exact beq_eq_false_iff_ne.mpr (by omega)) (fun s => by simp) 4096 (step0 n size) (size + 1 - step0 n size) b1 (by omega) (by omega) (cop_end size _ b2)
  simp (disch := omega) only [sSeq_eq, sSet_eq, view_eq, viewF_cons, viewF_nil, viewAt_frz, eBin_eq, eVar_zero, eVar_succ, eC_eq, Res.bind_ok, fdivD_int, modD_int, addD_int, Res.toS_ok, after_nil, List.set_cons_succ, List.set_cons_zero, thn_next, sWhile_eq]
  rw [← b3, e]
  simp (disch := omega) only [thn_next, sRet_eq, view_eq, viewF_cons, viewF_nil, viewAt_frz, eBin_eq, eVar_zero, eVar_succ, Res.bind_ok, modD_int, mulD_l, addD_int, Res.toS_ok, retOf_ret]
  rfl
theorem spread_inj (n : Int) {size : Nat} (h0 : 0 < size) (h1 : size ≤ 2000) {r r' : Nat} (hr : r < r') (hr' : r' < r + size) : spreadI n size (r : Int) ≠ spreadI n size (r' : Int) := by
  intro e
  unfold spreadI at e
  obtain ⟨hg, _⟩ := stepS_ok n h0 h1
  generalize stepS n size = st at e hg
  have e2 := Int.emod_emod_of_dvd
  have hd : (size : Int) ∣ ((r' - r : Nat) : Int) * (st : Int) := by
    have h3 := Int.dvd_of_emod_eq_zero (Int.emod_eq_emod_iff_emod_sub_eq_zero.mp e.symm)
    have : (n % (size : Int) + (r' : Int) * (st : Int)) - (n % (size : Int) + (r : Int) * (st : Int)) = ((r' - r : Nat) : Int) * (st : Int) := by
      rw [show ((r' - r : Nat) : Int) = (r' : Int) - (r : Int) by omega, Int.sub_mul]
      omega
    rw [this] at h3
    exact h3
  have hd2 : size ∣ (r' - r) * st := by exact_mod_cast hd
  have hd3 : size ∣ r' - r := Nat.Coprime.dvd_of_dvd_mul_right (show Nat.Coprime size st by rw [Nat.Coprime, Nat.gcd_comm]; exact hg) hd2
  have := Nat.le_of_dvd (by omega) hd3
  omega

end RM

/-! PT: what a plan gives at a place; the World made of a plan. -/
namespace RM
open PySem PySem.Spec PyProof.Rows L2 VL
theorem tabs_get : ∀ (r acc : List Tab), tabsWf acc r = true → ∀ (i : Nat) (t : Tab), r[i]? = some t → tabWf (acc ++ r.take i) t = true
  | [], _, _, i, t, h => by simp at h
  | x :: r, acc, w, i, t, h => by
    rw [tabsWf, Bool.and_eq_true] at w
    cases i with
    | zero => simp at h; subst h; simpa using w.1
    | succ i => have := tabs_get r (acc ++ [x]) w.2 i t (by simpa using h); simpa using this
theorem cols_get {many : Int} {tabs : List Tab} : ∀ (r acc : List Col), colsWf many tabs acc r = true → ∀ (i : Nat) (c : Col), r[i]? = some c → wordB c.name 4 = true ∧ c.name ∉ (acc ++ r.take i).map Col.name ∧ ruleOk many tabs (acc ++ r.take i) c.rule = true
  | [], _, _, i, t, h => by simp at h
  | x :: r, acc, w, i, t, h => by
    rw [colsWf, Bool.and_eq_true, Bool.and_eq_true, Bool.and_eq_true] at w
    cases i with
    | zero =>
      simp at h; subst h
      refine ⟨w.1.1.1, ?_, by simpa using w.1.2⟩
      have := w.1.1.2
      simpa using this
    | succ i => have := cols_get r (acc ++ [x]) w.2 i t (by simpa using h); simpa using this
theorem nodup_get {α : Type} : ∀ (l : List α), (∀ (i : Nat) (a : α), l[i]? = some a → a ∉ l.take i) → l.Nodup := by
  intro l h
  rw [List.Nodup, List.pairwise_iff_getElem]
  intro i j hi hj hij e
  refine h j l[j] (by simp [hj]) ?_
  refine List.mem_of_getElem? (i := i) ?_
  rw [List.getElem?_take_of_lt hij, ← e]
  simp [hi]
/-- what a good plan says of a table -/
structure TabAt (p : Plan) (i : Nat) (t : Tab) : Prop where
  at_ : p[i]? = some t
  nm : wordB t.name 4 = true
  m1 : 1 ≤ t.many
  m2 : t.many ≤ 20
  c1 : 1 ≤ t.cols.length
  c2 : t.cols.length ≤ 5
  wf : colsWf t.many (p.take i) [] t.cols = true
theorem tab_at {p : Plan} (h : planWf p = true) {i : Nat} {t : Tab} (ht : p[i]? = some t) : TabAt p i t := by
  unfold planWf at h
  rw [Bool.and_eq_true] at h
  have := tabs_get p [] h.2 i t ht
  unfold tabWf at this
  simp only [Bool.and_eq_true, decide_eq_true_eq, List.nil_append] at this
  exact ⟨ht, this.1.1.1.1, this.1.1.2.1, this.1.1.2.2, this.1.2.1, this.1.2.2, this.2⟩
theorem plan_len {p : Plan} (h : planWf p = true) : 1 ≤ p.length ∧ p.length ≤ 4 := by
  unfold planWf at h
  simp only [Bool.and_eq_true, decide_eq_true_eq] at h
  exact h.1
theorem plan_nodup {p : Plan} (h : planWf p = true) : (p.map Tab.name).Nodup := by
  refine nodup_get _ fun i a ha => ?_
  rw [List.getElem?_map] at ha
  cases e : p[i]? with
  | none => rw [e] at ha; cases ha
  | some t =>
    rw [e] at ha
    cases ha
    unfold planWf at h
    rw [Bool.and_eq_true] at h
    have := tabs_get p [] h.2 i t e
    unfold tabWf at this
    simp only [Bool.and_eq_true, decide_eq_true_eq, List.nil_append, Bool.not_eq_true', decide_eq_false_iff_not] at this
    rw [← List.map_take]
    exact this.1.1.1.2
theorem cols_nodup {p : Plan} {i : Nat} {t : Tab} (T : TabAt p i t) : (t.cols.map Col.name).Nodup := by
  refine nodup_get _ fun j a ha => ?_
  rw [List.getElem?_map] at ha
  cases e : t.cols[j]? with
  | none => rw [e] at ha; cases ha
  | some c =>
    rw [e] at ha
    cases ha
    rw [← List.map_take]
    exact (cols_get _ _ T.wf j c e).2.1
/-- a rule at its place -/
theorem rule_at {p : Plan} {i : Nat} {t : Tab} (T : TabAt p i t) {j : Nat} {c : Col} (hc : t.cols[j]? = some c) : wordB c.name 4 = true ∧ ruleOk t.many (p.take i) (t.cols.take j) c.rule = true :=
  ⟨(cols_get _ _ T.wf j c hc).1, (cols_get _ _ T.wf j c hc).2.2⟩
theorem find_take {α : Type} {f : α → Bool} {l : List α} {n : Nat} {a : α} (h : (l.take n).find? f = some a) : ∃ j, j < n ∧ l[j]? = some a ∧ l.findIdx? f = some j := by
  obtain ⟨h1, j, hj, h2, h3⟩ := List.find?_eq_some_iff_getElem.mp h
  have hj' : j < n ∧ j < l.length := by rw [List.length_take] at hj; omega
  have e : l[j]? = some a := by rw [← h2, List.getElem_take]; simp [hj'.2]
  refine ⟨j, hj'.1, e, ?_⟩
  rw [List.findIdx?_eq_some_iff_getElem]
  refine ⟨hj'.2, ?_, fun k hk => ?_⟩
  · rw [List.getElem?_eq_getElem hj'.2] at e
    rw [Option.some.inj e]; exact h1
  · have := h3 k hk
    rw [List.getElem_take] at this
    simpa using this
theorem index_strs {l : List Str} {x : Str} {j : Nat} (h : l.findIdx? (fun y => decide (y = x)) = some j) : indexD (.lst (l.map Dat.str)) (.str x) = .ok (.int (j : Nat)) := by
  have e0 : ((l.map Dat.str).map vOf).findIdx? (fun y => eqV y (vOf (.str x))) = l.findIdx? (fun y => decide (y = x)) := by
    rw [List.map_map, List.findIdx?_map]; rfl
  have e1 : (flatD (.str x) && (l.map Dat.str).all flatD) = true := by simp [flatD]
  unfold indexD
  show (if (flatD (.str x) && (l.map Dat.str).all flatD) = true then _ else _) = _
  rw [if_pos e1, e0, h]
theorem index_cols {cols : List Col} {x : Str} {j : Nat} (h : cols.findIdx? (fun c => decide (c.name = x)) = some j) : indexD (.lst (cols.map fun c => .str c.name)) (.str x) = .ok (.int (j : Nat)) := by
  have := index_strs (l := cols.map Col.name) (x := x) (j := j) (by rw [List.findIdx?_map]; exact h)
  rw [List.map_map] at this
  exact this
theorem index_tabs {p : Plan} {x : Str} {j : Nat} (h : p.findIdx? (fun c => decide (c.name = x)) = some j) : indexD (.lst (p.map fun t => .str t.name)) (.str x) = .ok (.int (j : Nat)) := by
  have := index_strs (l := p.map Tab.name) (x := x) (j := j) (by rw [List.findIdx?_map]; exact h)
  rw [List.map_map] at this
  exact this
/-! ### the World -/
def placesL : Nat → Plan → List (Key × Dat)
  | _, [] => []
  | n, t :: r => (.inr t.name, .int (n : Nat)) :: placesL (n + 1) r
def worldD (p : Plan) (seed : Int) : Dat := .ins "World" [("plan", planD p), ("seed", .int seed), ("places", .dct (placesL 0 p))]
@[simp] theorem fld_plan {p : Plan} {seed : Int} : fldD "World" "plan" (worldD p seed) = .ok (planD p) := Eq.trans rfl rfl
@[simp] theorem fld_seed {p : Plan} {seed : Int} : fldD "World" "seed" (worldD p seed) = .ok (.int seed) := Eq.trans rfl rfl
@[simp] theorem fld_places {p : Plan} {seed : Int} : fldD "World" "places" (worldD p seed) = .ok (.dct (placesL 0 p)) := Eq.trans rfl rfl
theorem dLook_cons {k k' : Key} {d : Dat} {r : List (Key × Dat)} : dLook ((k, d) :: r) k' = if k = k' then some d else dLook r k' := by
  unfold dLook
  by_cases q : k = k'
  · simp [q]
  · rw [List.find?_cons_of_neg (by simpa using q), if_neg q]
theorem placesL_look : ∀ (p : Plan) (n : Nat) (x : Str) (j : Nat), p.findIdx? (fun t => decide (t.name = x)) = some j → dLook (placesL n p) (.inr x) = some (.int ((n + j : Nat) : Int))
  | [], n, x, j, h => by simp at h
  | t :: r, n, x, j, h => by
    unfold placesL
    rw [dLook_cons]
    rw [List.findIdx?_cons] at h
    by_cases q : t.name = x
    · simp [q] at h; subst h; simp [q]
    · simp [q] at h
      obtain ⟨i, hi, rfl⟩ := h
      rw [if_neg (by simpa using q), placesL_look r (n + 1) x i hi, show n + 1 + i = n + (i + 1) by omega]
theorem placesL_none : ∀ (p : Plan) (n : Nat) (x : Str), x ∉ p.map Tab.name → dLook (placesL n p) (.inr x) = none
  | [], n, x, h => rfl
  | t :: r, n, x, h => by
    unfold placesL
    simp only [List.map_cons, List.mem_cons, not_or] at h
    rw [dLook_cons, if_neg (by simpa using fun e => h.1 (Eq.symm e)), placesL_none r (n + 1) x h.2]
theorem places_ix {p : Plan} {x : Str} {j : Nat} (h : p.findIdx? (fun t => decide (t.name = x)) = some j) : ixD (.dct (placesL 0 p)) (.str x) = .ok (.int (j : Nat)) := by
  have := placesL_look p 0 x j h
  unfold ixD
  simp only [keyOf]
  rw [this]
  simp
theorem plan_ix {p : Plan} {i : Nat} {t : Tab} (h : p[i]? = some t) : ixD (planD p) (.int (i : Int)) = .ok t.dat := ixD_lst (by omega) (by rw [show ((i : Int)).toNat = i by omega, List.getElem?_map, h]; rfl)
theorem cols_ix {cols : List Col} {i : Nat} {c : Col} (h : cols[i]? = some c) : ixD (.lst (cols.map Col.dat)) (.int (i : Int)) = .ok c.dat := ixD_lst (by omega) (by rw [show ((i : Int)).toNat = i by omega, List.getElem?_map, h]; rfl)
theorem findIdx_nodup {α : Type} {f : α → Str} : ∀ {l : List α} {j : Nat} {a : α}, (l.map f).Nodup → l[j]? = some a → l.findIdx? (fun z => decide (f z = f a)) = some j := by
  intro l j a nd h
  rw [List.findIdx?_eq_some_iff_getElem]
  have hj : j < l.length := by
    rcases Nat.lt_or_ge j l.length with q | q
    · exact q
    · rw [List.getElem?_eq_none q] at h; cases h
  rw [List.getElem?_eq_getElem hj] at h
  refine ⟨hj, by rw [Option.some.inj h]; simp, fun k hk => ?_⟩
  simp only [decide_eq_true_eq]
  intro e
  rw [List.Nodup, List.pairwise_iff_getElem] at nd
  refine nd k j (by simpa using Nat.lt_trans hk hj) (by simpa using hj) hk ?_
  rw [List.getElem_map, List.getElem_map, e, Option.some.inj h]
/-- dict() of unlike texts keeps the pairs -/
theorem merge_nodup : ∀ (l acc : List (Key × Dat)), ((acc ++ l).map Prod.fst).Nodup → mergeD acc l = acc ++ l
  | [], acc, _ => by simp [mergeD]
  | kv :: l, acc, h => by
    have e : putD acc kv.1 kv.2 = acc ++ [kv] := by
      unfold putD
      rw [if_neg]
      simp only [List.any_eq_true, decide_eq_true_eq, not_exists, not_and]
      intro z hz e
      rw [List.map_append, List.nodup_append] at h
      exact h.2.2 z.1 (List.mem_map.mpr ⟨z, hz, rfl⟩) kv.1 (by simp) e
    have := merge_nodup l (acc ++ [kv]) (by simpa using h)
    unfold mergeD at this ⊢
    rw [List.foldl_cons, e, this]
    simp
theorem pairs_map {α : Type} {f : α → Str} {v : α → Dat} : ∀ l : List α, pairsOf (l.map fun a => .tup [.str (f a), v a]) = some (l.map fun a => (.inr (f a), v a))
  | [] => rfl
  | a :: l => by rw [List.map_cons, VL.pairsOf, pairs_map l]; rfl
theorem dict_map {α : Type} {f : α → Str} {v : α → Dat} {l : List α} (h : (l.map f).Nodup) : dictD [.lst (l.map fun a => .tup [.str (f a), v a])] = .ok (.dct (l.map fun a => (.inr (f a), v a))) := by
  show (match VL.pairsOf (l.map fun a => .tup [.str (f a), v a]) with | some kvs => Res.ok (Dat.dct (mergeD [] kvs)) | none => .stuck) = _
  rw [pairs_map]
  show Res.ok (Dat.dct (mergeD [] _)) = _
  rw [merge_nodup _ []]
  · simp
  · rw [List.nil_append, List.map_map]
    have : (l.map (Prod.fst ∘ fun a => ((.inr (f a), v a) : Key × Dat))) = (l.map f).map Sum.inr := by rw [List.map_map]; rfl
    rw [this]
    rw [List.Nodup, List.pairwise_map]
    exact List.Pairwise.imp (fun hne e => hne (by cases e; rfl)) h
theorem look_map {α : Type} {f : α → Str} {v : α → Dat} {l : List α} (h : (l.map f).Nodup) {j : Nat} {a : α} (ha : l[j]? = some a) : ixD (.dct (l.map fun a => (.inr (f a), v a))) (.str (f a)) = .ok (v a) := by
  have hi := findIdx_nodup h ha
  unfold ixD
  simp only [keyOf]
  have : dLook (l.map fun a => ((.inr (f a), v a) : Key × Dat)) (.inr (f a)) = some (v a) := by
    unfold dLook
    rw [List.find?_map]
    have e : ((fun kv : Key × Dat => decide (kv.1 = .inr (f a))) ∘ fun a => ((.inr (f a), v a) : Key × Dat)) = fun z => decide (f z = f a) := by
      funext z; simp [Function.comp]
    rw [e]
    obtain ⟨h1, h2, h3⟩ := List.findIdx?_eq_some_iff_getElem.mp hi
    have : l.find? (fun z => decide (f z = f a)) = some a := by
      rw [List.find?_eq_some_iff_getElem]
      refine ⟨by simp, j, h1, ?_, fun k hk => by simpa using h3 k hk⟩
      rw [List.getElem?_eq_getElem h1] at ha
      exact Option.some.inj ha
    rw [this]; rfl
  rw [this]
end RM

/-! PU: the program's worth and the law's are one. -/
namespace RM
open PySem PySem.Spec PyProof.Rows L2 VL
@[simp] theorem eMet_world {m : Str} {mir : List Dat → Res Dat} {f : Env → Res Dat} {as : Env → Res (List Dat)} {ρ : Env} : eMet "World" m mir f as ρ = (f ρ).bind fun o => if isIns "World" m o = true then (as ρ).bind fun ds => mir (o :: ds) else .stuck := Eq.trans rfl rfl
theorem isW {p : Plan} {seed : Int} {m : Str} (h : (([("plan", planD p), ("seed", .int seed), ("places", .dct (placesL 0 p))] : List (Str × Dat)).lookup m).isNone = true) : isIns "World" m (worldD p seed) = true := by
  unfold worldD isIns
  simp only [decide_true, Bool.true_and]
  exact h
@[simp] theorem isW_worth {p : Plan} {seed : Int} : isIns "World" "worth" (worldD p seed) = true := isW rfl
@[simp] theorem isW_looked {p : Plan} {seed : Int} : isIns "World" "looked" (worldD p seed) = true := isW rfl
@[simp] theorem isW_at {p : Plan} {seed : Int} : isIns "World" "at" (worldD p seed) = true := isW rfl
@[simp] theorem isW_need {p : Plan} {seed : Int} : isIns "World" "need_cell" (worldD p seed) = true := isW rfl
@[simp] theorem isW_names {p : Plan} {seed : Int} : isIns "World" "names" (worldD p seed) = true := isW rfl
@[simp] theorem isW_columns {p : Plan} {seed : Int} : isIns "World" "columns" (worldD p seed) = true := isW rfl
@[simp] theorem isW_many {p : Plan} {seed : Int} : isIns "World" "many" (worldD p seed) = true := isW rfl
@[simp] theorem isW_cell {p : Plan} {seed : Int} : isIns "World" "cell" (worldD p seed) = true := isW rfl
@[simp] theorem isW_row {p : Plan} {seed : Int} : isIns "World" "row" (worldD p seed) = true := isW rfl
@[simp] theorem isW_rows {p : Plan} {seed : Int} : isIns "World" "rows" (worldD p seed) = true := isW rfl
@[simp] theorem isW_tables {p : Plan} {seed : Int} : isIns "World" "tables" (worldD p seed) = true := isW rfl
/-- a cell's value -/
def flatV : Dat → Bool
  | .bl _ => true
  | .int _ => true
  | .str s => PyData.strOk s && decide (s.length ≤ 1000)
  | _ => false
/-- what a rule's values are -/
def kindV (p : Plan) : Rule → Dat → Prop
  | .link t, d => ∃ (j : Nat) (g : Tab) (i : Int), p.findIdx? (fun z => decide (z.name = t)) = some j ∧ p[j]? = some g ∧ d = .int i ∧ 1 ≤ i ∧ i ≤ g.many
  | r, d => isNumK r = true → ∃ i, d = .int i
theorem names_of {cols : List Col} (hl : cols.length ≤ 1000) {fi : Env → Res Dat} {i j : Nat} {ρ : Env} (hi : i < ρ.length) (hij : i ≠ j) (h : fi ρ = .ok (.lst (cols.map Col.dat))) : eLc (iSeq fi) (.tp [(.nm i), (.nm j)]) bYes (eVar i) [i, j] ρ = .ok (.lst (cols.map fun c => .str c.name)) := by
  refine eLc_eq (ds := cols.map Col.dat) (by simp [h]) (by simp; exact le_big hl) ?_
  have := lcD_gen (p := .tp [(.nm i), (.nm j)]) (t := bYes) (f := eVar i) (ρ := wipeE ρ [i, j]) (x := Col.dat) (y := fun c => .str c.name) (tb := fun _ => true) cols fun c _ => ⟨[(i, .str c.name), (j, c.rule.dat)], by simp [Col.dat], rfl, fun _ => by
    have hlen := wipeE_length ρ [i, j]
    have : (((wipeE ρ [i, j]).set i (some (Dat.str c.name))).set j (some c.rule.dat))[i]? = some (some (.str c.name)) := by
      rw [List.getElem?_set_ne (fun e => hij e.symm), List.getElem?_set_self (by rw [hlen]; exact hi)]
    show eVar i (((wipeE ρ [i, j]).set i (some (Dat.str c.name))).set j (some c.rule.dat)) = _
    unfold eVar
    rw [this]⟩
  rw [List.filter_eq_self.mpr (by simp)] at this
  exact this
theorem shares_of {os : List (Str × Int)} (hl : os.length ≤ 1000) {fi : Env → Res Dat} {i j : Nat} {ρ : Env} (hj : j < ρ.length) (hi : i < ρ.length) (h : fi ρ = .ok (.tup (os.map optD))) : eLc (iSeq fi) (.tp [(.nm i), (.nm j)]) bYes (eVar j) [i, j] ρ = .ok (.lst ((os.map Prod.snd).map Dat.int)) := by
  refine eLc_eq (ds := os.map optD) (by simp [h]) (by simp; exact le_big hl) ?_
  have := lcD_gen (p := .tp [(.nm i), (.nm j)]) (t := bYes) (f := eVar j) (ρ := wipeE ρ [i, j]) (x := optD) (y := fun o => .int o.2) (tb := fun _ => true) os fun c _ => ⟨[(i, .str c.1), (j, .int c.2)], by simp [optD], rfl, fun _ => by
    have hlen := wipeE_length ρ [i, j]
    have : (((wipeE ρ [i, j]).set i (some (Dat.str c.1))).set j (some (Dat.int c.2)))[j]? = some (some (.int c.2)) := by
      rw [List.getElem?_set_self (by rw [List.length_set, hlen]; exact hj)]
    show eVar j (((wipeE ρ [i, j]).set i (some (Dat.str c.1))).set j (some (Dat.int c.2))) = _
    unfold eVar
    rw [this]⟩
  rw [List.map_map]
  rw [List.filter_eq_self.mpr (by simp)] at this
  exact this
section
variable {p : Plan} {seed : Int} {i j k : Nat} {t : Tab} {c : Col} {row : Int}
theorem W_num {lo hi : Int} (ht : p[i]? = some t) (hc : t.cols[j]? = some c) (hr : c.rule = .num lo hi) (h : lo ≤ hi) : m_World_worth (k + 1) [worldD p seed, .int (i : Int), .int row, .int (j : Int)] = .ok (.int (lo + drawI seed i j row % (hi - lo + 1))) := by
  rw [o_World_worth]
  unfold b_World_worth
  simp (disch := omega) [bindS_eq, plan_ix ht, Tab.dat, cols_ix hc, Col.dat, draw_eq, hr, Rule.dat, Rule.kind, Rule.args, modD_int]
theorem W_word {lo hi : Int} (ht : p[i]? = some t) (hc : t.cols[j]? = some c) (hr : c.rule = .word lo hi) (h1 : 1 ≤ lo) (h2 : lo ≤ hi) (h3 : hi ≤ 100) : m_World_worth (k + 1) [worldD p seed, .int (i : Int), .int row, .int (j : Int)] = .ok (.str (Sx (wP (lo + drawI seed i j row % (hi - lo + 1)).toNat (drawI seed i j row / (hi - lo + 1))))) := by
  rw [o_World_worth]
  unfold b_World_worth
  simp (disch := omega) [bindS_eq, plan_ix ht, Tab.dat, cols_ix hc, Col.dat, draw_eq, hr, Rule.dat, Rule.kind, Rule.args, modD_int, word_of_eq h1 h2 h3]
theorem W_flag {s : Int} (ht : p[i]? = some t) (hc : t.cols[j]? = some c) (hr : c.rule = .flag s)  : m_World_worth (k + 1) [worldD p seed, .int (i : Int), .int row, .int (j : Int)] = .ok (.bl (decide (drawI seed i j row % 100 < s))) := by
  rw [o_World_worth]
  unfold b_World_worth
  simp (disch := omega) [bindS_eq, plan_ix ht, Tab.dat, cols_ix hc, Col.dat, draw_eq, hr, Rule.dat, Rule.kind, Rule.args, modD_int]
theorem W_serial {a b : Int} (ht : p[i]? = some t) (hc : t.cols[j]? = some c) (hr : c.rule = .serial a b) (h1 : -1000 ≤ b) (h2 : b ≤ 1000) : m_World_worth (k + 1) [worldD p seed, .int (i : Int), .int row, .int (j : Int)] = .ok (.int (a + b * (row - 1))) := by
  rw [o_World_worth]
  unfold b_World_worth
  simp (disch := omega) [bindS_eq, plan_ix ht, Tab.dat, cols_ix hc, Col.dat, draw_eq, hr, Rule.dat, Rule.kind, Rule.args, modD_int, mulD_l]
theorem W_unlike {lo hi : Int} {z : Nat} (ht : p[i]? = some t) (hc : t.cols[j]? = some c) (hr : c.rule = .unlike lo hi) (h : hi - lo + 1 = (z : Int)) (h0 : 0 < z) (h1 : z ≤ 2000) (h2 : 0 ≤ row ∧ row ≤ 1000) : m_World_worth (k + 1) [worldD p seed, .int (i : Int), .int row, .int (j : Int)] = .ok (.int (lo + spreadI (drawI seed i j 0) z row)) := by
  rw [o_World_worth]
  unfold b_World_worth
  simp (disch := omega) [bindS_eq, plan_ix ht, Tab.dat, cols_ix hc, Col.dat, draw_eq, hr, Rule.dat, Rule.kind, Rule.args, modD_int, h, spread_of_eq _ row h0 h1 h2]
end
end RM

/-! PV: pick, link, sum, copy; worth on both sides. -/
namespace RM
open PySem PySem.Spec PyProof.Rows L2 VL
theorem tnames_of {p : Plan} (hl : p.length ≤ 1000) {fi : Env → Res Dat} {i : Nat} {ρ : Env} (hi : i < ρ.length) (h : fi ρ = .ok (planD p)) : eLc (iSeq fi) (.nm i) bYes (eBin ixD (eVar i) (eC (.int 0))) [i] ρ = .ok (.lst (p.map fun t => .str t.name)) := by
  refine eLc_eq (ds := p.map Tab.dat) (by simp [h, planD]) (by simp; exact le_big hl) ?_
  refine lcD_all p fun t _ => ?_
  have : eVar i ((wipeE ρ [i]).set i (some t.dat)) = .ok t.dat := by
    unfold eVar
    rw [List.getElem?_set_self (by rw [wipeE_length]; exact hi)]
  rw [eBin_eq, this]
  simp [Tab.dat]
theorem many_of {p : Plan} (hl : p.length ≤ 1000) {x : Str} {fi fx : Env → Res Dat} {i : Nat} {ρ : Env} (hi : i < ρ.length) (h : fi ρ = .ok (planD p)) (hx : ∀ d, fx ((wipeE ρ [i]).set i (some d)) = .ok (.str x)) :
    eLc (iSeq fi) (.nm i) (eTest (eBin eqD (eBin ixD (eVar i) (eC (.int 0))) fx)) (eBin ixD (eVar i) (eC (.int 1))) [i] ρ = .ok (.lst ((p.filter fun t => decide (t.name = x)).map fun t => .int t.many)) := by
  refine eLc_eq (ds := p.map Tab.dat) (by simp [h, planD]) (by simp; exact le_big hl) ?_
  refine lcD_nm p fun t _ => ?_
  have : eVar i ((wipeE ρ [i]).set i (some t.dat)) = .ok t.dat := by
    unfold eVar
    rw [List.getElem?_set_self (by rw [wipeE_length]; exact hi)]
  constructor
  · rw [eTest_eq, eBin_eq, eBin_eq, this, hx]
    simp [Tab.dat]
  · intro _
    rw [eBin_eq, this]
    simp [Tab.dat]
theorem filter_head {p : Plan} {x : Str} {j : Nat} {g : Tab} (h : p.findIdx? (fun t => decide (t.name = x)) = some j) (hg : p[j]? = some g) : ∃ r, (p.filter fun t => decide (t.name = x)) = g :: r := by
  obtain ⟨h1, h2, h3⟩ := List.findIdx?_eq_some_iff_getElem.mp h
  have hf : p.find? (fun t => decide (t.name = x)) = some g := by
    rw [List.find?_eq_some_iff_getElem]
    rw [List.getElem?_eq_getElem h1] at hg
    have := Option.some.inj hg
    exact ⟨by rw [← this]; exact h2, j, h1, this, fun k hk => by simpa using h3 k hk⟩
  rw [← List.head?_filter] at hf
  cases e : p.filter fun t => decide (t.name = x) with
  | nil => rw [e] at hf; cases hf
  | cons a r => rw [e] at hf; cases hf; exact ⟨r, rfl⟩
section
variable {p : Plan} {seed : Int} {i j k : Nat} {t : Tab} {c : Col} {row : Int}
theorem pick_ix {os : List (Str × Int)} {z : Nat} {o : Str × Int} (h : os[z]? = some o) : ixD (.tup (os.map optD)) (.int (z : Int)) = .ok (optD o) := ixD_tup (by omega) (by rw [show ((z : Int)).toNat = z by omega, List.getElem?_map, h]; rfl)
theorem W_pick {os : List (Str × Int)} {z : Nat} {o : Str × Int} (ht : p[i]? = some t) (hc : t.cols[j]? = some c) (hr : c.rule = .pick os) (hl : os.length ≤ 1000) (hs : m_shared_of [.int (drawI seed i j row), .lst ((os.map Prod.snd).map Dat.int)] = .ok (.int (z : Int))) (ho : os[z]? = some o) : m_World_worth (k + 1) [worldD p seed, .int (i : Int), .int row, .int (j : Int)] = .ok (.str o.1) := by
  rw [o_World_worth]
  unfold b_World_worth
  rw [List.map_map] at hs
  simp (disch := first | omega | (simp; done)) [bindS_eq, plan_ix ht, Tab.dat, cols_ix hc, Col.dat, draw_eq, hr, Rule.dat, Rule.kind, Rule.args, modD_int, shares_of (os := os), hs, pick_ix ho, optD]
theorem W_link {x : Str} {n : Nat} {g : Tab} (ht : p[i]? = some t) (hc : t.cols[j]? = some c) (hr : c.rule = .link x) (hn : p.findIdx? (fun t => decide (t.name = x)) = some n) (hg : p[n]? = some g) (hm : 1 ≤ g.many) : m_World_worth (k + 1) [worldD p seed, .int (i : Int), .int row, .int (j : Int)] = .ok (.int (1 + drawI seed i j row % g.many)) := by
  rw [o_World_worth]
  unfold b_World_worth
  simp (disch := omega) [bindS_eq, plan_ix ht, Tab.dat, cols_ix hc, Col.dat, draw_eq, hr, Rule.dat, Rule.kind, Rule.args, modD_int, places_ix hn, plan_ix hg]
theorem looked_sum {rec : List Dat → Res Dat} {a b : Str} {ja jb : Nat} {x y : Int} (hl : t.cols.length ≤ 1000) (ht : p[i]? = some t) (ha : t.cols.findIdx? (fun c => decide (c.name = a)) = some ja) (hb : t.cols.findIdx? (fun c => decide (c.name = b)) = some jb)
    (ra : rec [worldD p seed, .int (i : Int), .int row, .int (ja : Int)] = .ok (.int x)) (rb : rec [worldD p seed, .int (i : Int), .int row, .int (jb : Int)] = .ok (.int y)) : m_World_looked rec [worldD p seed, .int (i : Int), .int row, .tup [.str "sum", .str a, .str b]] = .ok (.int (x + y)) := by
  rw [o_World_looked]
  unfold b_World_looked
  have e1 : eLc (iSeq (eBin ixD (eBin ixD (eUn (fldD "World" "plan") (eVar 0)) (eVar 1)) (eC (.int 2)))) (.tp [(.nm 7), (.nm 8)]) bYes (eVar 7) [7, 8] [some (worldD p seed), some (.int (i : Int)), some (.int row), some (.tup [.str "sum", .str a, .str b]), none, none, none, none, none] = .ok (.lst (t.cols.map fun c => .str c.name)) := names_of hl (by simp) (by decide) (by simp [plan_ix ht, Tab.dat])
  simp [e1, index_cols ha, index_cols hb, ra, rb]
theorem W_sum {a b : Str} {ja jb : Nat} {x y : Int} (hl : t.cols.length ≤ 1000) (ht : p[i]? = some t) (hc : t.cols[j]? = some c) (hr : c.rule = .sum a b) (ha : t.cols.findIdx? (fun c => decide (c.name = a)) = some ja) (hb : t.cols.findIdx? (fun c => decide (c.name = b)) = some jb)
    (ra : m_World_worth k [worldD p seed, .int (i : Int), .int row, .int (ja : Int)] = .ok (.int x)) (rb : m_World_worth k [worldD p seed, .int (i : Int), .int row, .int (jb : Int)] = .ok (.int y)) : m_World_worth (k + 1) [worldD p seed, .int (i : Int), .int row, .int (j : Int)] = .ok (.int (x + y)) := by
  rw [o_World_worth]
  unfold b_World_worth
  simp [bindS_eq, plan_ix ht, Tab.dat, cols_ix hc, Col.dat, draw_eq, hr, Rule.dat, Rule.kind, Rule.args, looked_sum hl ht ha hb ra rb]
theorem looked_copy {rec : List Dat → Res Dat} {a b x : Str} {ja jb n : Nat} {ca : Col} {g : Tab} {f : Int} {d : Dat} (hl : t.cols.length ≤ 1000) (hgl : g.cols.length ≤ 1000) (nd : (t.cols.map Col.name).Nodup) (ht : p[i]? = some t) (ha : t.cols.findIdx? (fun c => decide (c.name = a)) = some ja) (hca : t.cols[ja]? = some ca) (hra : ca.rule = .link x) (hna : ca.name = a)
    (hn : p.findIdx? (fun t => decide (t.name = x)) = some n) (hg : p[n]? = some g) (hb : g.cols.findIdx? (fun c => decide (c.name = b)) = some jb)
    (ra : rec [worldD p seed, .int (i : Int), .int row, .int (ja : Int)] = .ok (.int f)) (rb : rec [worldD p seed, .int (n : Int), .int f, .int (jb : Int)] = .ok d) : m_World_looked rec [worldD p seed, .int (i : Int), .int row, .tup [.str "copy", .str a, .str b]] = .ok d := by
  have hd : dictD [.lst (t.cols.map Col.dat)] = .ok (.dct (t.cols.map fun c => (.inr c.name, c.rule.dat))) := dict_map (f := Col.name) (v := fun c => c.rule.dat) nd
  have hk : ixD (.dct (t.cols.map fun c => (.inr c.name, c.rule.dat))) (.str a) = .ok (.tup [.str "link", .str x]) := by
    have := look_map (f := Col.name) (v := fun c => c.rule.dat) nd hca
    rw [hna, hra] at this
    exact this
  rw [o_World_looked]
  unfold b_World_looked
  have e1 : eLc (iSeq (eBin ixD (eBin ixD (eUn (fldD "World" "plan") (eVar 0)) (eVar 1)) (eC (.int 2)))) (.tp [(.nm 7), (.nm 8)]) bYes (eVar 7) [7, 8] [some (worldD p seed), some (.int (i : Int)), some (.int row), some (.tup [.str "copy", .str a, .str b]), none, none, none, none, none] = .ok (.lst (t.cols.map fun c => .str c.name)) := names_of hl (by simp) (by decide) (by simp [plan_ix ht, Tab.dat])
  have e2 : eLc (iSeq (eBin ixD (eBin ixD (eUn (fldD "World" "plan") (eVar 0)) (eVar 6)) (eC (.int 2)))) (.tp [(.nm 7), (.nm 8)]) bYes (eVar 7) [7, 8] [some (worldD p seed), some (.int (i : Int)), some (.int row), some (.tup [.str "copy", .str a, .str b]), some (.lst (t.cols.map fun c => .str c.name)), some (.int f), some (.int (n : Int)), none, none] = .ok (.lst (g.cols.map fun c => .str c.name)) := names_of hgl (by simp) (by decide) (by simp [plan_ix hg, Tab.dat])
  simp [e1, e2, index_cols ha, index_cols hb, ra, rb, hd, hk, plan_ix ht, Tab.dat, places_ix hn]
theorem W_copy {a b x : Str} {ja jb n : Nat} {ca : Col} {g : Tab} {f : Int} {d : Dat} (hl : t.cols.length ≤ 1000) (hgl : g.cols.length ≤ 1000) (nd : (t.cols.map Col.name).Nodup) (ht : p[i]? = some t) (hc : t.cols[j]? = some c) (hr : c.rule = .copy a b) (ha : t.cols.findIdx? (fun c => decide (c.name = a)) = some ja) (hca : t.cols[ja]? = some ca) (hra : ca.rule = .link x) (hna : ca.name = a)
    (hn : p.findIdx? (fun t => decide (t.name = x)) = some n) (hg : p[n]? = some g) (hb : g.cols.findIdx? (fun c => decide (c.name = b)) = some jb)
    (ra : m_World_worth k [worldD p seed, .int (i : Int), .int row, .int (ja : Int)] = .ok (.int f)) (rb : m_World_worth k [worldD p seed, .int (n : Int), .int f, .int (jb : Int)] = .ok d) : m_World_worth (k + 1) [worldD p seed, .int (i : Int), .int row, .int (j : Int)] = .ok d := by
  rw [o_World_worth]
  unfold b_World_worth
  simp [bindS_eq, plan_ix ht, Tab.dat, cols_ix hc, Col.dat, draw_eq, hr, Rule.dat, Rule.kind, Rule.args, looked_copy hl hgl nd ht ha hca hra hna hn hg hb ra rb]
/-! the law's side -/
def wEnv (p : Plan) (seed : Int) (i : Nat) (row : Int) (j : Nat) (t : Tab) (k : Str) (r : Dat) (x9 x10 x11 : Option Dat) : Env :=
  [some (planD p), some (.int seed), some (.int (i : Int)), some (.int row), some (.int (j : Int)), some (.tup [.str t.name, .int t.many, .lst (t.cols.map Col.dat)]), some (.str k), some r, some (.int (drawI seed (i : Int) (j : Int) row)), x9, x10, x11, none, none, none, none, none, none]
end
end RM

/-! PW: World.worth and _law_worth tell the same. -/
namespace RM
open PySem PySem.Spec PyProof.Rows L2 VL
theorem sum_pos : ∀ {xs : List Int}, (∀ x ∈ xs, 1 ≤ x) → xs ≠ [] → 0 < xs.sum
  | [], _, h => absurd rfl h
  | [x], hp, _ => by have := hp x (by simp); simp; omega
  | x :: y :: r, hp, _ => by
    have h1 := hp x (by simp)
    have h2 := sum_pos (xs := y :: r) (fun z hz => hp z (List.mem_cons_of_mem _ hz)) (by simp)
    rw [List.sum_cons]; omega
theorem kind_num {p : Plan} {r : Rule} {d : Dat} (h : kindV p r d) (hn : isNumK r = true) : ∃ i, d = .int i := by
  cases r <;> first | exact h hn | simp [isNumK] at hn
theorem find_mem {p : Plan} {i : Nat} {x : Str} (h : x ∈ (p.take i).map Tab.name) : ∃ n g, n < i ∧ p[n]? = some g ∧ p.findIdx? (fun t => decide (t.name = x)) = some n := by
  obtain ⟨g, hg, hx⟩ := List.mem_map.mp h
  cases e : (p.take i).find? fun t => decide (t.name = x) with
  | none =>
    rw [List.find?_eq_none] at e
    exact absurd (by simpa using hx) (e g hg)
  | some g' =>
    obtain ⟨n, h1, h2, h3⟩ := find_take e
    exact ⟨n, g', h1, h2, h3⟩
theorem find_all {α : Type} {f : α → Bool} {l : List α} {a : α} (h : l.find? f = some a) : ∃ j, j < l.length ∧ l[j]? = some a ∧ l.findIdx? f = some j := by
  have : (l.take l.length).find? f = some a := by rw [List.take_length]; exact h
  exact find_take this
theorem flat_word {n : Nat} {l : Int} (h : n ≤ 1000) : flatV (.str (Sx (wP n l))) = true := by
  show (PyData.strOk (Sx (wP n l)) && decide ((Sx (wP n l)).length ≤ 1000)) = true
  rw [Bool.and_eq_true]
  constructor
  · have := wP_ok n l
    unfold PyData.strOk Sx
    simpa using this
  · rw [Sx_len, wP_len]; simpa using h
end RM

/-! RA: what World.worth tells, for laws that have no worth of their own. -/
namespace RM
open PySem PySem.Spec PyProof.Rows L2 VL
theorem lt_of_get {α : Type} {l : List α} {n : Nat} {a : α} (h : l[n]? = some a) : n < l.length := by
  rcases Nat.lt_or_ge n l.length with q | q
  · exact q
  · rw [List.getElem?_eq_none q] at h; cases h
section
variable {p : Plan} {seed : Int} {i j : Nat} {t : Tab} {c : Col} {row : Int}
/-- the columns of a sum -/
theorem sum_cols {a : Str} (ha : numCol (t.cols.take j) a = true) : ∃ ja ca, ja < j ∧ t.cols[ja]? = some ca ∧ ca.name = a ∧ t.cols.findIdx? (fun c => decide (c.name = a)) = some ja ∧ isNumK ca.rule = true := by
  unfold numCol colOf at ha
  cases q : (t.cols.take j).find? fun c => decide (c.name = a) with
  | none => rw [q] at ha; cases ha
  | some ca =>
    rw [q] at ha
    obtain ⟨ja, h1, h2, h3⟩ := find_take q
    exact ⟨ja, ca, h1, h2, by simpa using List.find?_some q, h3, ha⟩
/-- the columns of a copy -/
theorem copy_cols {a b : Str} (hr : copyOk (p.take i) (t.cols.take j) a b = true) : ∃ ja ca x n g jb cb, ja < j ∧ t.cols[ja]? = some ca ∧ ca.name = a ∧ t.cols.findIdx? (fun c => decide (c.name = a)) = some ja ∧ ca.rule = .link x ∧
    n < i ∧ p[n]? = some g ∧ g.name = x ∧ p.findIdx? (fun t => decide (t.name = x)) = some n ∧ g.cols[jb]? = some cb ∧ cb.name = b ∧ g.cols.findIdx? (fun c => decide (c.name = b)) = some jb := by
  unfold copyOk colOf at hr
  cases q : (t.cols.take j).find? fun c => decide (c.name = a) with
  | none => rw [q] at hr; cases hr
  | some ca =>
    rw [q] at hr
    simp only at hr
    cases er : ca.rule with
    | link x =>
      rw [er] at hr
      simp only at hr
      unfold tabOf at hr
      cases qt : (p.take i).find? fun t => decide (t.name = x) with
      | none => rw [qt] at hr; cases hr
      | some g =>
        rw [qt] at hr
        simp only at hr
        obtain ⟨ja, a1, a2, a3⟩ := find_take q
        obtain ⟨n, n1, n2, n3⟩ := find_take qt
        obtain ⟨cb, hcb⟩ := Option.isSome_iff_exists.mp hr
        obtain ⟨jb, b1, b2, b3⟩ := find_all hcb
        exact ⟨ja, ca, x, n, g, jb, cb, a1, a2, by simpa using List.find?_some q, a3, er, n1, n2, by simpa using List.find?_some qt, n3, b2, by simpa using List.find?_some hcb, b3⟩
    | _ => rw [er] at hr; cases hr
theorem worth_ok (hp : planWf p = true) {seed : Int} : ∀ (n i j : Nat) (t : Tab) (c : Col) (row : Int), p[i]? = some t → t.cols[j]? = some c → 1 ≤ row → row ≤ t.many → 5 * i + j < n →
    ∃ d, (∀ k, 5 * i + j < k → m_World_worth k [worldD p seed, .int (i : Int), .int row, .int (j : Int)] = .ok d) ∧ flatV d = true ∧ kindV p c.rule d := by
  intro n
  have hpl : p.length ≤ 1000 := by have := plan_len hp; omega
  induction n with
  | zero => intro i j t c row _ _ _ _ h; omega
  | succ n ih =>
    intro i j t c row ht hc r1 r2 hk
    have T := tab_at hp ht
    obtain ⟨hw, hr⟩ := rule_at T hc
    have hl : t.cols.length ≤ 1000 := by have := T.c2; omega
    have hm2 := T.m2
    have hj5 : j < 5 := by have := lt_of_get hc; have := T.c2; omega
    have go : ∀ {d : Dat}, (∀ k, 5 * i + j ≤ k → m_World_worth (k + 1) [worldD p seed, .int (i : Int), .int row, .int (j : Int)] = .ok d) → ∀ k, 5 * i + j < k → m_World_worth k [worldD p seed, .int (i : Int), .int row, .int (j : Int)] = .ok d := fun h k hk => by
      cases k with
      | zero => omega
      | succ k => exact h k (by omega)
    cases e : c.rule with
    | num lo hi =>
      rw [e] at hr
      simp only [ruleOk, Bool.and_eq_true, decide_eq_true_eq] at hr
      exact ⟨_, go fun k _ => W_num ht hc e hr.2, rfl, fun _ => ⟨_, rfl⟩⟩
    | word lo hi =>
      rw [e] at hr
      simp only [ruleOk, Bool.and_eq_true, decide_eq_true_eq] at hr
      refine ⟨_, go fun k _ => W_word ht hc e hr.1.1 hr.2 (by omega), flat_word ?_, fun h => by simp [isNumK] at h⟩
      have h1 := Int.emod_nonneg (drawI seed i j row) (show hi - lo + 1 ≠ 0 by omega)
      have h2 := Int.emod_lt_of_pos (drawI seed i j row) (show 0 < hi - lo + 1 by omega)
      omega
    | unlike lo hi =>
      rw [e] at hr
      simp only [ruleOk, Bool.and_eq_true, decide_eq_true_eq] at hr
      have h := hr.1.2
      exact ⟨_, go fun k _ => W_unlike (z := (hi - lo + 1).toNat) ht hc e (by omega) (by omega) (by omega) (by omega), rfl, fun _ => ⟨_, rfl⟩⟩
    | pick os =>
      rw [e] at hr
      simp only [ruleOk, optsOk, Bool.and_eq_true, decide_eq_true_eq, List.all_eq_true] at hr
      have hpos : ∀ x ∈ os.map Prod.snd, 1 ≤ x := fun x hx => by
        obtain ⟨o, ho, rfl⟩ := List.mem_map.mp hx
        exact (hr.2 o ho).2.1
      have hne : os.map Prod.snd ≠ [] := fun q => by
        have : os = [] := List.map_eq_nil_iff.mp q
        rw [this] at hr; simp at hr
      have hln : (os.map Prod.snd).length ≤ 100 := by rw [List.length_map]; omega
      obtain ⟨z, hz, hs⟩ := shared_of_eq (n := drawI seed i j row) hpos hne hln
      have hzl : z < os.length := by have := hz.1; rwa [List.length_map] at this
      have ho : os[z]? = some os[z] := by simp [hzl]
      refine ⟨_, go fun k _ => W_pick ht hc e (by omega) hs ho, word_okS (hr.2 _ (List.getElem_mem hzl)).1 (by decide), fun h => by simp [isNumK] at h⟩
    | flag s => exact ⟨_, go fun k _ => W_flag ht hc e, rfl, fun h => by simp [isNumK] at h⟩
    | serial a b =>
      rw [e] at hr
      simp only [ruleOk, Bool.and_eq_true, decide_eq_true_eq] at hr
      exact ⟨_, go fun k _ => W_serial ht hc e (by omega) (by omega), rfl, fun _ => ⟨_, rfl⟩⟩
    | link x =>
      rw [e] at hr
      simp only [ruleOk, decide_eq_true_eq] at hr
      obtain ⟨n, g, hn, hg, hf⟩ := find_mem hr
      have G := tab_at hp hg
      have gm := G.m1
      refine ⟨_, go fun k _ => W_link ht hc e hf hg G.m1, rfl, n, g, _, hf, hg, rfl, ?_, ?_⟩
      · have := Int.emod_nonneg (drawI seed i j row) (show g.many ≠ 0 by omega)
        omega
      · have := Int.emod_lt_of_pos (drawI seed i j row) (show 0 < g.many by omega)
        omega
    | sum a b =>
      rw [e] at hr
      simp only [ruleOk, Bool.and_eq_true] at hr
      obtain ⟨ja, ca, a1, a2, _, a3, a4⟩ := sum_cols hr.1
      obtain ⟨jb, cb, b1, b2, _, b3, b4⟩ := sum_cols hr.2
      obtain ⟨d1, p1, p3, p4⟩ := ih i ja t ca row ht a2 r1 r2 (by omega)
      obtain ⟨d2, q1, q3, q4⟩ := ih i jb t cb row ht b2 r1 r2 (by omega)
      obtain ⟨x, rfl⟩ := kind_num p4 a4
      obtain ⟨y, rfl⟩ := kind_num q4 b4
      exact ⟨_, go fun k _ => W_sum hl ht hc e a3 b3 (p1 k (by omega)) (q1 k (by omega)), rfl, fun _ => ⟨_, rfl⟩⟩
    | copy a b =>
      rw [e] at hr
      simp only [ruleOk] at hr
      obtain ⟨ja, ca, x, n', g', jb, cb, a1, a2, hna, a3, er, n1, n2, hgx, n3, b2, hnb, b3⟩ := copy_cols hr
      have G := tab_at hp n2
      have hgl := G.c2
      obtain ⟨d1, p1, p3, p4⟩ := ih i ja t ca row ht a2 r1 r2 (by omega)
      rw [er] at p4
      obtain ⟨n'', g'', f, f1, f2, rfl, f4, f5⟩ := p4
      have en : n'' = n' := by rw [n3] at f1; exact (Option.some.inj f1).symm
      subst en
      have eg : g'' = g' := by rw [n2] at f2; exact (Option.some.inj f2).symm
      subst eg
      have hjb := lt_of_get b2
      obtain ⟨d, q1, q3, q4⟩ := ih n'' jb g'' cb f n2 b2 f4 f5 (by omega)
      exact ⟨d, go fun k _ => W_copy hl (by omega) (cols_nodup T) ht hc e a3 a2 er hna n3 n2 b3 (p1 k (by omega)) (q1 k (by omega)), q3, fun h => by simp [isNumK] at h⟩
def val (p : Plan) (seed : Int) (i : Nat) (row : Int) (j : Nat) : Dat := match m_World_worth 21 [worldD p seed, .int (i : Int), .int row, .int (j : Int)] with
  | .ok d => d
  | _ => .non
theorem val_eq (hp : planWf p = true) (ht : p[i]? = some t) (hc : t.cols[j]? = some c) (r1 : 1 ≤ row) (r2 : row ≤ t.many) :
    m_World_worth 21 [worldD p seed, .int (i : Int), .int row, .int (j : Int)] = .ok (val p seed i row j) ∧ ((∀ k, 5 * i + j < k → m_World_worth k [worldD p seed, .int (i : Int), .int row, .int (j : Int)] = .ok (val p seed i row j)) ∧ kindV p c.rule (val p seed i row j)) ∧ flatV (val p seed i row j) = true := by
  have T := tab_at hp ht
  have h1 := (plan_len hp).2
  have h2 := lt_of_get ht
  have h3 := lt_of_get hc
  have h4 := T.c2
  obtain ⟨d, d1, d2, d3⟩ := worth_ok hp (seed := seed) 21 i j t c row ht hc r1 r2 (by omega)
  have e : val p seed i row j = d := by unfold val; rw [d1 21 (by omega)]
  rw [e]
  exact ⟨d1 21 (by omega), ⟨d1, d3⟩, d2⟩
theorem val_of {d : Dat} (h : m_World_worth 21 [worldD p seed, .int (i : Int), .int row, .int (j : Int)] = .ok d) : val p seed i row j = d := by unfold val; rw [h]
/-! the rules -/
theorem val_num {lo hi : Int} (ht : p[i]? = some t) (hc : t.cols[j]? = some c) (hr : c.rule = .num lo hi) (h : lo ≤ hi) : val p seed i row j = .int (lo + drawI seed i j row % (hi - lo + 1)) := val_of (W_num ht hc hr h)
theorem val_word {lo hi : Int} (ht : p[i]? = some t) (hc : t.cols[j]? = some c) (hr : c.rule = .word lo hi) (h1 : 1 ≤ lo) (h2 : lo ≤ hi) (h3 : hi ≤ 100) : val p seed i row j = .str (Sx (wP (lo + drawI seed i j row % (hi - lo + 1)).toNat (drawI seed i j row / (hi - lo + 1)))) := val_of (W_word ht hc hr h1 h2 h3)
theorem val_flag {s : Int} (ht : p[i]? = some t) (hc : t.cols[j]? = some c) (hr : c.rule = .flag s) : val p seed i row j = .bl (decide (drawI seed i j row % 100 < s)) := val_of (W_flag ht hc hr)
theorem val_serial {a b : Int} (ht : p[i]? = some t) (hc : t.cols[j]? = some c) (hr : c.rule = .serial a b) (h1 : -1000 ≤ b) (h2 : b ≤ 1000) : val p seed i row j = .int (a + b * (row - 1)) := val_of (W_serial ht hc hr h1 h2)
theorem val_unlike {lo hi : Int} {z : Nat} (ht : p[i]? = some t) (hc : t.cols[j]? = some c) (hr : c.rule = .unlike lo hi) (h : hi - lo + 1 = (z : Int)) (h0 : 0 < z) (h1 : z ≤ 2000) (h2 : 0 ≤ row ∧ row ≤ 1000) : val p seed i row j = .int (lo + spreadI (drawI seed i j 0) z row) := val_of (W_unlike ht hc hr h h0 h1 h2)
theorem val_pick {os : List (Str × Int)} (ht : p[i]? = some t) (hc : t.cols[j]? = some c) (hr : c.rule = .pick os) (hok : ∀ o ∈ os, 1 ≤ o.2) (hne : os ≠ []) (hl : os.length ≤ 100) : ∃ (z : Nat) (o : Str × Int), os[z]? = some o ∧ At (os.map Prod.snd) (drawI seed i j row % (os.map Prod.snd).sum) z ∧ val p seed i row j = .str o.1 := by
  have hpos : ∀ x ∈ os.map Prod.snd, 1 ≤ x := fun x hx => by
    obtain ⟨o, ho, rfl⟩ := List.mem_map.mp hx
    exact hok o ho
  obtain ⟨z, hz, hs⟩ := shared_of_eq (n := drawI seed i j row) hpos (by simpa using hne) (by simpa using hl)
  have hzl : z < os.length := by have := hz.1; rwa [List.length_map] at this
  have ho : os[z]? = some os[z] := by simp [hzl]
  exact ⟨z, _, ho, hz, val_of (W_pick ht hc hr (by omega) hs ho)⟩
theorem val_link {x : Str} {n : Nat} {g : Tab} (ht : p[i]? = some t) (hc : t.cols[j]? = some c) (hr : c.rule = .link x) (hn : p.findIdx? (fun t => decide (t.name = x)) = some n) (hg : p[n]? = some g) (hm : 1 ≤ g.many) : val p seed i row j = .int (1 + drawI seed i j row % g.many) := val_of (W_link ht hc hr hn hg hm)
theorem val_sum {a b : Str} (hp : planWf p = true) (ht : p[i]? = some t) (hc : t.cols[j]? = some c) (hr : c.rule = .sum a b) (r1 : 1 ≤ row) (r2 : row ≤ t.many) : ∃ ja jb ca cb x y, ja < j ∧ jb < j ∧ t.cols[ja]? = some ca ∧ t.cols[jb]? = some cb ∧ ca.name = a ∧ cb.name = b ∧ val p seed i row ja = .int x ∧ val p seed i row jb = .int y ∧ val p seed i row j = .int (x + y) := by
  have T := tab_at hp ht
  have hl := T.c2
  have ho := (rule_at T hc).2
  have h1 := (plan_len hp).2
  have h2 := lt_of_get ht
  have h3 := lt_of_get hc
  rw [hr] at ho
  simp only [ruleOk, Bool.and_eq_true] at ho
  obtain ⟨ja, ca, a1, a2, a5, a3, a4⟩ := sum_cols ho.1
  obtain ⟨jb, cb, b1, b2, b5, b3, b4⟩ := sum_cols ho.2
  have ea := (val_eq (seed := seed) hp ht a2 r1 r2).2.1
  have eb := (val_eq (seed := seed) hp ht b2 r1 r2).2.1
  obtain ⟨x, hx⟩ := kind_num ea.2 a4
  obtain ⟨y, hy⟩ := kind_num eb.2 b4
  refine ⟨ja, jb, ca, cb, x, y, a1, b1, a2, b2, a5, b5, hx, hy, val_of (W_sum (by omega) ht hc hr a3 b3 ?_ ?_)⟩
  · rw [← hx]; exact ea.1 20 (by omega)
  · rw [← hy]; exact eb.1 20 (by omega)
theorem val_copy {a b : Str} (hp : planWf p = true) (ht : p[i]? = some t) (hc : t.cols[j]? = some c) (hr : c.rule = .copy a b) (r1 : 1 ≤ row) (r2 : row ≤ t.many) : ∃ ja ca x n g jb cb f, ja < j ∧ t.cols[ja]? = some ca ∧ ca.name = a ∧ ca.rule = .link x ∧ n < i ∧ p[n]? = some g ∧ g.name = x ∧ g.cols[jb]? = some cb ∧ cb.name = b ∧ val p seed i row ja = .int f ∧ 1 ≤ f ∧ f ≤ g.many ∧ val p seed i row j = val p seed n f jb := by
  have T := tab_at hp ht
  have hl := T.c2
  have ho := (rule_at T hc).2
  have h1 := (plan_len hp).2
  have h2 := lt_of_get ht
  have h3 := lt_of_get hc
  rw [hr] at ho
  simp only [ruleOk] at ho
  obtain ⟨ja, ca, x, n', g', jb, cb, a1, a2, hna, a3, er, n1, n2, hgx, n3, b2, hnb, b3⟩ := copy_cols ho
  have G := tab_at hp n2
  have hgl := G.c2
  have hjb := lt_of_get b2
  have ea := (val_eq (seed := seed) hp ht a2 r1 r2).2.1
  have p4 := ea.2
  rw [er] at p4
  obtain ⟨n'', g'', f, f1, f2, hf, f4, f5⟩ := p4
  have en : n'' = n' := by rw [n3] at f1; exact (Option.some.inj f1).symm
  subst en
  have eg : g'' = g' := by rw [n2] at f2; exact (Option.some.inj f2).symm
  subst eg
  have eb := (val_eq (seed := seed) hp n2 b2 f4 f5).2.1
  refine ⟨ja, ca, x, n'', g'', jb, cb, f, a1, a2, hna, er, n1, n2, hgx, b2, hnb, hf, f4, f5, val_of (W_copy (by omega) (by omega) (cols_nodup T) ht hc hr a3 a2 er hna n3 n2 b3 ?_ (eb.1 20 (by omega)))⟩
  rw [← hf]; exact ea.1 20 (by omega)
end
end RM

/-! PX: what the World's methods tell. -/
namespace RM
open PySem PySem.Spec PyProof.Rows L2 VL
section
variable {p : Plan} {seed : Int} {i j : Nat} {t : Tab} {c : Col} {row : Int}
theorem need_cell_eq (o : Dat) (b : Bool) : m_World_need_cell [o, .bl b] = if b = true then .ok .non else .exc "NoCell" := by
  rw [o_World_need_cell]
  cases b <;> simp [b_World_need_cell]
theorem wnames_eq (hp : planWf p = true) : m_World_names [worldD p seed] = .ok (.lst (p.map fun t => .str t.name)) := by
  rw [o_World_names]
  have e : eLc (iSeq (eUn (fldD "World" "plan") (eVar 0))) (.tp [(.nm 1), (.nm 2), (.nm 3)]) bYes (eVar 1) [1, 2, 3] [some (worldD p seed), none, none, none] = .ok (.lst (p.map fun t => .str t.name)) := by
    refine eLc_eq (ds := p.map Tab.dat) (by simp [planD]) (by simp; exact le_big (by have := (plan_len hp).2; omega)) ?_
    have := lcD_gen (p := .tp [(.nm 1), (.nm 2), (.nm 3)]) (t := bYes) (f := eVar 1) (ρ := wipeE [some (worldD p seed), none, none, none] [1, 2, 3]) (x := Tab.dat) (y := fun t => .str t.name) (tb := fun _ => true) p fun t _ => ⟨[(1, .str t.name), (2, .int t.many), (3, .lst (t.cols.map Col.dat))], by simp [Tab.dat], rfl, fun _ => by simp [wipeE]⟩
    rw [List.filter_eq_self.mpr (by simp)] at this
    exact this
  simp [b_World_names, e]
theorem in_places {x : Str} (h : p.findIdx? (fun t => decide (t.name = x)) = some i) : inD (.str x) (.dct (placesL 0 p)) = .ok (.bl true) := by
  unfold inD inB
  simp only [keyOf]
  rw [placesL_look p 0 x i h]
  rfl
theorem notin_places {x : Str} (h : x ∉ p.map Tab.name) : inD (.str x) (.dct (placesL 0 p)) = .ok (.bl false) := by
  unfold inD inB
  simp only [keyOf]
  rw [placesL_none p 0 x h]
  rfl
theorem at_eq (hp : planWf p = true) (ht : p[i]? = some t) : m_World_at [worldD p seed, .str t.name] = .ok (.int (i : Int)) := by
  have h := findIdx_nodup (plan_nodup hp) ht
  rw [o_World_at]
  simp [b_World_at, in_places h, need_cell_eq, places_ix h]
/-- no name of a table -/
def noTab (p : Plan) : Dat → Prop
  | .str x => x ∉ p.map Tab.name
  | .non => True
  | .int _ => True
  | .lst _ => True
  | _ => False
theorem at_bad {d : Dat} (h : noTab p d) : m_World_at [worldD p seed, d] = .exc "NoCell" := by
  rw [o_World_at]
  cases d with
  | str x => simp [b_World_at, notin_places h, need_cell_eq]
  | non => simp [b_World_at, need_cell_eq]
  | int n => simp [b_World_at, need_cell_eq]
  | lst n => simp [b_World_at, need_cell_eq]
  | _ => exact h.elim
theorem columns_eq (hp : planWf p = true) (ht : p[i]? = some t) : m_World_columns [worldD p seed, .str t.name] = .ok (.lst (t.cols.map fun c => .str c.name)) := by
  have hl := (tab_at hp ht).c2
  rw [o_World_columns]
  have e := names_of (cols := t.cols) (by omega) (fi := eBin ixD (eBin ixD (eUn (fldD "World" "plan") (eVar 0)) (eMet "World" "at" m_World_at (eVar 0) (aCons (eVar 1) aNil))) (eC (.int 2))) (i := 2) (j := 3) (ρ := [some (worldD p seed), some (.str t.name), none, none]) (by simp) (by decide) (by simp [at_eq hp ht, plan_ix ht, Tab.dat])
  simp [b_World_columns, e]
theorem many_eq (hp : planWf p = true) (ht : p[i]? = some t) : m_World_many [worldD p seed, .str t.name] = .ok (.int t.many) := by
  rw [o_World_many]
  simp [b_World_many, at_eq hp ht, plan_ix ht, Tab.dat]
theorem columns_bad {d : Dat} (h : noTab p d) : m_World_columns [worldD p seed, d] = .exc "NoCell" := by
  rw [o_World_columns]
  simp [b_World_columns, eLc, at_bad h]
theorem many_bad {d : Dat} (h : noTab p d) : m_World_many [worldD p seed, d] = .exc "NoCell" := by
  rw [o_World_many]
  simp [b_World_many, at_bad h]
theorem rows_bad {d : Dat} (h : noTab p d) : m_World_rows [worldD p seed, d] = .exc "NoCell" := by
  rw [o_World_rows]
  simp [b_World_rows, eLc, many_bad h]
theorem row_bad {d e : Dat} (h : noTab p d) : m_World_row [worldD p seed, d, e] = .exc "NoCell" := by
  rw [o_World_row]
  simp [b_World_row, many_bad h]
theorem cell_bad {d e f : Dat} (h : noTab p d) : m_World_cell [worldD p seed, d, e, f] = .exc "NoCell" := by
  rw [o_World_cell]
  simp [b_World_cell, at_bad h]
theorem row_none (hp : planWf p = true) (ht : p[i]? = some t) {d : Dat} (hd : pl d = true) (h : gCount d 1 t.many = false) : m_World_row [worldD p seed, .str t.name, d] = .exc "NoCell" := by
  rw [o_World_row]
  simp [b_World_row, many_eq hp ht, is_count_eq hd, h, need_cell_eq]
theorem cell_none (hp : planWf p = true) (ht : p[i]? = some t) {d e : Dat} (hd : pl d = true) (h : gCount d 1 t.many = false) : m_World_cell [worldD p seed, .str t.name, d, e] = .exc "NoCell" := by
  rw [o_World_cell]
  simp [b_World_cell, at_eq hp ht, many_eq hp ht, is_count_eq hd, h, need_cell_eq]
/-- no name of a column -/
def noCol (t : Tab) : Dat → Prop
  | .str x => PyData.strOk x = true ∧ x ∉ t.cols.map Col.name
  | .non => True
  | .int _ => True
  | .lst _ => True
  | _ => False
theorem cols_ok (hp : planWf p = true) (ht : p[i]? = some t) : ∀ y ∈ t.cols.map Col.name, PyData.strOk y = true := fun y hy => by
  obtain ⟨c, hc, rfl⟩ := List.mem_map.mp hy
  obtain ⟨j, hj⟩ := List.getElem?_of_mem hc
  exact (word_ok (rule_at (tab_at hp ht) hj).1).1
theorem cell_col (hp : planWf p = true) (ht : p[i]? = some t) {d : Dat} (h : noCol t d) : m_World_cell [worldD p seed, .str t.name, .int 1, d] = .exc "NoCell" := by
  rw [o_World_cell]
  have h1 := (tab_at hp ht).m1
  have hg : gCount (.int 1) 1 t.many = true := by simp [gCount, h1]
  have hd : pl (.int 1) = true := by simp [pl]
  have hcs := columns_eq (seed := seed) hp ht
  rw [show (t.cols.map fun c => Dat.str c.name) = (t.cols.map Col.name).map Dat.str by rw [List.map_map]; rfl] at hcs
  cases d with
  | str x =>
    have hi := inD_strs (x := x) (ys := t.cols.map Col.name) h.1 (cols_ok hp ht)
    rw [decide_eq_false h.2] at hi
    rw [List.map_map] at hi hcs
    simp [b_World_cell, at_eq hp ht, many_eq hp ht, is_count_eq hd, hg, need_cell_eq, hcs, hi]
  | non => simp [b_World_cell, at_eq hp ht, many_eq hp ht, is_count_eq hd, hg, need_cell_eq]
  | int n => simp [b_World_cell, at_eq hp ht, many_eq hp ht, is_count_eq hd, hg, need_cell_eq]
  | lst n => simp [b_World_cell, at_eq hp ht, many_eq hp ht, is_count_eq hd, hg, need_cell_eq]
  | _ => exact h.elim
theorem cell_eq (hp : planWf p = true) (ht : p[i]? = some t) (hc : t.cols[j]? = some c) (r1 : 1 ≤ row) (r2 : row ≤ t.many) : m_World_cell [worldD p seed, .str t.name, .int row, .str c.name] = .ok (val p seed i row j) := by
  have T := tab_at hp ht
  rw [o_World_cell]
  have hg : gCount (.int row) 1 t.many = true := by simp [gCount, r1, r2]
  have hd : pl (.int row) = true := by simp [pl]
  have hcs := columns_eq (seed := seed) hp ht
  have hi := inD_strs (x := c.name) (ys := t.cols.map Col.name) (word_ok (rule_at T hc).1).1 (cols_ok hp ht)
  rw [decide_eq_true (List.mem_map.mpr ⟨c, List.mem_of_getElem? hc, rfl⟩), List.map_map] at hi
  have hi' : inD (.str c.name) (.lst (t.cols.map fun c => .str c.name)) = .ok (.bl true) := hi
  have hx := index_cols (findIdx_nodup (cols_nodup T) hc)
  simp [b_World_cell, at_eq hp ht, many_eq hp ht, is_count_eq hd, hg, need_cell_eq, hcs, hi', hx, (val_eq hp ht hc r1 r2).1]
end
end RM

/-! PY: rows, tables, the making of a World. -/
namespace RM
open PySem PySem.Spec PyProof.Rows L2 VL
theorem enumL_zip {α : Type} {f : α → Dat} : ∀ (l : List α) (n : Nat), enumL n (l.map f) = (l.zipIdx n).map fun z => .tup [.int ((z.2 : Nat) : Int), f z.1]
  | [], n => rfl
  | a :: l, n => by rw [List.map_cons, enumL, enumL_zip l (n + 1)]; rfl
theorem zip_map {α β : Type} (f : α → β) (l : List α) : (l.zipIdx.map fun z => f z.1) = l.map f := by
  have : (l.zipIdx.map fun z => f z.1) = (l.zipIdx.map Prod.fst).map f := by rw [List.map_map]; rfl
  rw [this, List.zipIdx_map_fst]
theorem zip_get {α : Type} {l : List α} {z : α × Nat} (h : z ∈ l.zipIdx) : l[z.2]? = some z.1 := by
  obtain ⟨a, n⟩ := z
  exact List.mem_zipIdx_iff_getElem?.mp h
theorem bindUs_tp {ps qs : List Pat} {xs r : List Dat} {us vs : List (Nat × Dat)} (h : bindUs qs xs = some us) (h2 : bindUs ps r = some vs) : bindUs (.tp qs :: ps) (.tup xs :: r) = some (us ++ vs) := by
  rw [bindUs, bindU_tp, h, h2]
def rowD (p : Plan) (seed : Int) (i : Nat) (t : Tab) (row : Int) : Dat := .dct (t.cols.zipIdx.map fun z => (.inr z.1.name, val p seed i row z.2))
def rowsL (p : Plan) (seed : Int) (i : Nat) (t : Tab) (n : Nat) : List Dat := (List.range n).map fun (r : Nat) => rowD p seed i t (1 + (r : Int))
def rowsD (p : Plan) (seed : Int) (i : Nat) (t : Tab) : Dat := .lst (rowsL p seed i t t.many.toNat)
def tablesD (p : Plan) (seed : Int) : Dat := .dct (p.zipIdx.map fun z => (.inr z.1.name, rowsD p seed z.2 z.1))
section
variable {p : Plan} {seed : Int} {i j : Nat} {t : Tab} {c : Col} {row : Int}
theorem row_dict (hp : planWf p = true) (ht : p[i]? = some t) : dictD [.lst (t.cols.zipIdx.map fun z => .tup [.str z.1.name, val p seed i row z.2])] = .ok (rowD p seed i t row) :=
  dict_map (f := fun z : Col × Nat => z.1.name) (v := fun z => val p seed i row z.2) (by rw [zip_map Col.name]; exact cols_nodup (tab_at hp ht))
theorem row_eq (hp : planWf p = true) (ht : p[i]? = some t) (r1 : 1 ≤ row) (r2 : row ≤ t.many) : m_World_row [worldD p seed, .str t.name, .int row] = .ok (rowD p seed i t row) := by
  have T := tab_at hp ht
  have hl := T.c2
  rw [o_World_row]
  have hg : gCount (.int row) 1 t.many = true := by simp [gCount, r1, r2]
  have hd : pl (.int row) = true := by simp [pl]
  have e : eLc (iSeq (eMet "World" "columns" m_World_columns (eVar 0) (aCons (eVar 1) aNil))) (.nm 3) bYes (eTup (aCons (eVar 3) (aCons (eMet "World" "cell" m_World_cell (eVar 0) (aCons (eVar 1) (aCons (eVar 2) (aCons (eVar 3) aNil)))) aNil))) [3] [some (worldD p seed), some (.str t.name), some (.int row), none] = .ok (.lst (t.cols.zipIdx.map fun z => .tup [.str z.1.name, val p seed i row z.2])) := by
    refine eLc_eq (ds := t.cols.zipIdx.map fun z => .str z.1.name) ?_ (by simp; exact le_big (by omega)) ?_
    · rw [zip_map fun c : Col => Dat.str c.name]
      simp [columns_eq hp ht]
    · refine lcD_all (x := fun z : Col × Nat => Dat.str z.1.name) (y := fun z => Dat.tup [.str z.1.name, val p seed i row z.2]) _ fun z hz => ?_
      simp [wipeE, cell_eq hp ht (zip_get hz) r1 r2]
  simp [b_World_row, many_eq hp ht, is_count_eq hd, hg, need_cell_eq, e, row_dict hp ht]
theorem rows_eq (hp : planWf p = true) (ht : p[i]? = some t) : m_World_rows [worldD p seed, .str t.name] = .ok (rowsD p seed i t) := by
  have T := tab_at hp ht
  have h1 := T.m1
  have h2 := T.m2
  rw [o_World_rows]
  have e : eLc (iArg rng2D (aCons (eC (.int 1)) (aCons (eBin addD (eMet "World" "many" m_World_many (eVar 0) (aCons (eVar 1) aNil)) (eC (.int 1))) aNil))) (.nm 2) bYes (eMet "World" "row" m_World_row (eVar 0) (aCons (eVar 1) (aCons (eVar 2) aNil))) [2] [some (worldD p seed), some (.str t.name), none] = .ok (rowsD p seed i t) := by
    refine eLc_eq (ds := rangeL 1 (t.many + 1)) ?_ ?_ ?_
    · simp (disch := omega) [many_eq hp ht, rng2_int]
    · rw [rangeL_eq, List.length_map, List.length_range]; exact le_big (by omega)
    · rw [rangeL_eq, show (t.many + 1 - 1).toNat = t.many.toNat by omega]
      refine lcD_all _ fun r hr => ?_
      have := List.mem_range.mp hr
      simp [wipeE, row_eq hp ht (row := 1 + (r : Int)) (by omega) (by omega)]
  simp [b_World_rows, e]
theorem tables_eq (hp : planWf p = true) : m_World_tables [worldD p seed] = .ok (tablesD p seed) := by
  have hl := (plan_len hp).2
  rw [o_World_tables]
  have e : eLc (iSeq (eMet "World" "names" m_World_names (eVar 0) aNil)) (.nm 1) bYes (eTup (aCons (eVar 1) (aCons (eMet "World" "rows" m_World_rows (eVar 0) (aCons (eVar 1) aNil)) aNil))) [1] [some (worldD p seed), none] = .ok (.lst (p.zipIdx.map fun z => .tup [.str z.1.name, rowsD p seed z.2 z.1])) := by
    refine eLc_eq (ds := p.zipIdx.map fun z => .str z.1.name) ?_ (by simp; exact le_big (by omega)) ?_
    · rw [zip_map fun c : Tab => Dat.str c.name]
      simp [wnames_eq hp]
    · refine lcD_all (x := fun z : Tab × Nat => Dat.str z.1.name) (y := fun z => Dat.tup [.str z.1.name, rowsD p seed z.2 z.1]) _ fun z hz => ?_
      simp [wipeE, rows_eq hp (zip_get hz)]
  have hd : dictD [.lst (p.zipIdx.map fun z => .tup [.str z.1.name, rowsD p seed z.2 z.1])] = .ok (tablesD p seed) := dict_map (f := fun z : Tab × Nat => z.1.name) (v := fun z => rowsD p seed z.2 z.1) (by rw [zip_map Tab.name]; exact plan_nodup hp)
  simp [b_World_tables, e, hd]
end
end RM

/-! PZ: a World is made; what it refuses. -/
namespace RM
open PySem PySem.Spec PyProof.Rows L2 VL
theorem putsD_cons {p : Pat} {fk fv : Env → Res Dat} {d : Dat} {r : List Dat} {ρ : Env} {kvs : List (Key × Dat)} {us : List (Nat × Dat)} {v : Dat} {k : Dat} {ky : Key} (h1 : bindU p d = some us) (h2 : fv (setE ρ us) = .ok v) (h3 : fk (setE ρ us) = .ok k) (h4 : keyOf k = some ky) (h5 : kvs.length < big) : putsD p fk fv (d :: r) ρ kvs = putsD p fk fv r (setE ρ us) (putD kvs ky v) := by
  rw [putsD, h1]
  simp only [h2, h3, nx, Res.bind_ok, h4, if_pos h5]
theorem puts_loop : ∀ (r : List Tab) (n : Nat) (acc : List (Key × Dat)) (ρ : Env), ρ.length = 7 → (acc.map Prod.fst ++ r.map fun t => (.inr t.name : Key)).Nodup → acc.length + r.length ≤ 1000 →
    putsD (.tp [(.nm 3), (.tp [(.nm 4), (.nm 5), (.nm 6)])]) (eVar 4) (eVar 3) (enumL n (r.map Tab.dat)) ρ acc = .ok (acc ++ placesL n r)
  | [], n, acc, ρ, _, _, _ => by simp [enumL, putsD, placesL]
  | t :: r, n, acc, ρ, hl, nd, hle => by
    match ρ, hl with
    | [x0, x1, x2, x3, x4, x5, x6], _ =>
      rw [List.map_cons, enumL]
      simp only [List.length_cons] at hle
      have e : putD acc (.inr t.name) (.int (n : Int)) = acc ++ [(.inr t.name, .int (n : Int))] := by
        unfold putD
        rw [if_neg]
        simp only [List.any_eq_true, decide_eq_true_eq, not_exists, not_and]
        intro z hz e
        rw [List.nodup_append] at nd
        exact nd.2.2 z.1 (List.mem_map.mpr ⟨z, hz, rfl⟩) (.inr t.name) (by simp) e
      rw [putsD_cons (us := [(3, .int (n : Int)), (4, .str t.name), (5, .int t.many), (6, .lst (t.cols.map Col.dat))]) (v := .int (n : Int)) (k := .str t.name) (ky := .inr t.name) ?_ (by simp) (by simp) rfl (Nat.lt_of_le_of_lt (show acc.length ≤ 1000 by omega) (by decide)), e]
      · refine Eq.trans (puts_loop r (n + 1) _ _ (by simp) (by simpa using nd) (by simp; omega)) ?_
        simp [placesL]
      · rw [bindU_tp, bindUs_nm]
        unfold Tab.dat
        rw [bindUs_tp (us := [(4, .str t.name), (5, .int t.many), (6, .lst (t.cols.map Col.dat))]) (vs := []) (by simp) (by simp)]
        rfl
section
variable {p : Plan} {seed : Int} {i j : Nat} {t : Tab} {c : Col} {row : Int}
theorem need_plan_ok (hp : planWf p = true) : m_need_plan [planD p] = .ok .non := by
  have h : tabsWf [] p = true := by unfold planWf at hp; rw [Bool.and_eq_true] at hp; exact hp.2
  rw [need_plan_eq (plan_pl h).1 (Nat.le_trans (plan_pl h).2 (by decide)), gPlan_self hp]
  rfl
theorem init_eq (hp : planWf p = true) (hs : 0 ≤ seed ∧ seed ≤ 999999) : m_World___init [planD p, .int seed] = .ok [("plan", planD p), ("seed", .int seed), ("places", .dct (placesL 0 p))] := by
  have hl := (plan_len hp).2
  have e3 : eLc (iSeq (eVar 1)) (.tp [(.nm 4), (.nm 5), (.nm 6)]) bYes (eTup (aCons (eVar 4) (aCons (eVar 5) (aCons (eCall listD (aCons (eVar 6) aNil)) aNil)))) [4, 5, 6] [none, some (planD p), some (.int seed), none, none, none, none] = .ok (planD p) := by
    refine eLc_eq (ds := p.map Tab.dat) (by simp [planD]) (by simp; exact le_big (by omega)) ?_
    have := lcD_gen (p := .tp [(.nm 4), (.nm 5), (.nm 6)]) (t := bYes) (f := eTup (aCons (eVar 4) (aCons (eVar 5) (aCons (eCall listD (aCons (eVar 6) aNil)) aNil)))) (ρ := wipeE [none, some (planD p), some (.int seed), none, none, none, none] [4, 5, 6]) (x := Tab.dat) (y := Tab.dat) (tb := fun _ => true) p fun t _ => ⟨[(4, .str t.name), (5, .int t.many), (6, .lst (t.cols.map Col.dat))], by simp [Tab.dat], rfl, fun _ => by simp [wipeE, listD, Tab.dat]⟩
    rw [List.filter_eq_self.mpr (by simp)] at this
    exact this
  unfold m_World___init initW
  have es : startI 7 [planD p, .int seed] = [none, some (planD p), some (.int seed), none, none, none, none] := rfl
  rw [if_pos (show [planD p, Dat.int seed].length = 2 from rfl), es, e3]
  have en : enumD [planD p] = .ok (enumL 0 (p.map Tab.dat)) := rfl
  have ep := puts_loop p 0 [] [none, some (planD p), some (.int seed), none, none, none, none] rfl (by
    rw [List.map_nil, List.nil_append]
    have : (p.map fun t => (.inr t.name : Key)) = (p.map Tab.name).map Sum.inr := by rw [List.map_map]; rfl
    rw [this, List.Nodup, List.pairwise_map]
    exact List.Pairwise.imp (fun hne e => hne (by cases e; rfl)) (plan_nodup hp)) (by simp; omega)
  have hb : (enumL 0 (p.map Tab.dat)).length ≤ big := by rw [enumL_length, List.length_map]; exact le_big (by omega)
  simp [need_plan_ok hp, drawn_eq hs, en, hb, ep]
theorem init_bad0 : m_World___init [.lst [], .non] = .exc "BadPlan" := by
  unfold m_World___init initW
  rw [if_pos (show [Dat.lst [], Dat.non].length = 2 from rfl)]
  have : m_need_plan [.lst []] = .exc "BadPlan" := by
    rw [need_plan_eq (by simp [pl, pls]) (by simp [dep, deps])]
    rfl
  show (eCall m_need_plan (aCons (eVar 1) aNil) [none, some (.lst []), some .non, none, none, none, none]).bind _ = _
  simp [this]
theorem init_bad (hp : planWf p = true) {d : Dat} (hd : m_drawn [d, .int 0, .int 0, .int 0] = .exc "BadDraw") : m_World___init [planD p, d] = .exc "BadDraw" := by
  unfold m_World___init initW
  have es : startI 7 [planD p, d] = [none, some (planD p), some d, none, none, none, none] := rfl
  rw [if_pos (show [planD p, d].length = 2 from rfl), es]
  simp [need_plan_ok hp, hd]
end
end RM

/-! QB: == of tables and themselves; the draws of the law. -/
namespace RM
open PySem PySem.Spec PyProof.Rows L2 VL
theorem eqB_refl {d : Dat} {c : Bool} (h : eqB d d = some c) : c = true := by
  unfold eqB at h
  split at h
  · simpa using h.symm
  · obtain ⟨x, y, h1, h2, h3, h4, h5⟩ := eqPy_of h
    rw [h1] at h2
    cases h2
    rw [h5]
    exact eqv_refl0 x (SeqAt.canLay_of_shaped h3)
theorem neE_self {d : Dat} (h : eqDp 8 d d = true) : neE d d = .ok (.bl false) := by
  unfold neE eqB2
  cases e : eqB d d with
  | none => simp [h]
  | some c => rw [eqB_refl e]; rfl
theorem neE_same {d : Dat} (h : sameD d = true) : neE d d = .ok (.bl false) := by
  unfold neE eqB2
  rw [eqB_self h]; rfl
theorem eqDp_flat {d : Dat} {n : Nat} (h : flatV d = true) : eqDp (n + 1) d d = true := by
  cases d <;> first | (simp [eqDp]; done) | simp [flatV] at h
theorem eqDps_self {n : Nat} : ∀ {xs : List Dat}, (∀ x ∈ xs, eqDp n x x = true) → eqDps n xs xs = true
  | [], _ => by rw [eqDps]
  | x :: xs, h => by
    rw [eqDps, h x List.mem_cons_self, eqDps_self fun y hy => h y (List.mem_cons_of_mem _ hy)]
    rfl
theorem eqDp_lst {n : Nat} {xs : List Dat} (h : ∀ x ∈ xs, eqDp n x x = true) : eqDp (n + 1) (.lst xs) (.lst xs) = true := by
  rw [eqDp]; exact eqDps_self h
theorem look_dct {kvs : List (Key × Dat)} {x : Str} {d : Dat} (h : ixD (.dct kvs) (.str x) = .ok d) : dLook kvs (.inr x) = some d := by
  unfold ixD at h
  simp only [keyOf] at h
  cases e : dLook kvs (.inr x) with
  | none => rw [e] at h; cases h
  | some z => rw [e] at h; cases h; rfl
theorem eqDp_dct {α : Type} {f : α → Str} {v : α → Dat} {l : List α} {n : Nat} (nd : (l.map f).Nodup) (h : ∀ a ∈ l, eqDp n (v a) (v a) = true) : eqDp (n + 1) (.dct (l.map fun a => (.inr (f a), v a))) (.dct (l.map fun a => (.inr (f a), v a))) = true := by
  rw [eqDp, Bool.and_eq_true]
  refine ⟨by simp, ?_⟩
  have key : ∀ l' : List α, (∀ a ∈ l', a ∈ l) → eqDpk n (l.map fun a => (.inr (f a), v a)) (l'.map fun a => (.inr (f a), v a)) = true := by
    intro l'
    induction l' with
    | nil => intro _; rw [List.map_nil, eqDpk]
    | cons a l' ih =>
      intro hs
      have ha := hs a List.mem_cons_self
      obtain ⟨j, hj⟩ := List.getElem?_of_mem ha
      rw [List.map_cons, eqDpk, look_dct (look_map nd hj), ih fun b hb => hs b (List.mem_cons_of_mem _ hb)]
      simp [h a ha]
  exact key l fun _ h => h
section
variable {p : Plan} {seed : Int} {i j : Nat} {t : Tab} {c : Col} {row : Int}
theorem eq_row (hp : planWf p = true) (ht : p[i]? = some t) (r1 : 1 ≤ row) (r2 : row ≤ t.many) {n : Nat} : eqDp (n + 2) (rowD p seed i t row) (rowD p seed i t row) = true :=
  eqDp_dct (f := fun z : Col × Nat => z.1.name) (v := fun z => val p seed i row z.2) (by rw [zip_map Col.name]; exact cols_nodup (tab_at hp ht)) fun z hz => eqDp_flat (val_eq hp ht (zip_get hz) r1 r2).2.2
theorem eq_rows (hp : planWf p = true) (ht : p[i]? = some t) {n : Nat} : eqDp (n + 3) (rowsD p seed i t) (rowsD p seed i t) = true := by
  refine eqDp_lst fun x hx => ?_
  obtain ⟨r, hr, rfl⟩ := List.mem_map.mp hx
  have := List.mem_range.mp hr
  exact eq_row hp ht (by omega) (by omega)
theorem eq_tables (hp : planWf p = true) : eqDp 8 (tablesD p seed) (tablesD p seed) = true :=
  eqDp_dct (f := fun z : Tab × Nat => z.1.name) (v := fun z => rowsD p seed z.2 z.1) (by rw [zip_map Tab.name]; exact plan_nodup hp) fun z hz => eq_rows hp (zip_get hz)
theorem eq_strs {α : Type} {f : α → Str} {l : List α} : eqDp 8 (.lst (l.map fun a => .str (f a))) (.lst (l.map fun a => .str (f a))) = true := by
  refine eqDp_lst fun x hx => ?_
  obtain ⟨a, _, rfl⟩ := List.mem_map.mp hx
  simp [eqDp]
/-- what is due -/
def dueD (p : Plan) (seed : Int) : Dat := .lst (p.zipIdx.map fun z => rowsD p seed z.2 z.1)
theorem due_ix (ht : p[i]? = some t) : ixD (dueD p seed) (.int (i : Int)) = .ok (rowsD p seed i t) := by
  refine ixD_lst (by omega) ?_
  rw [show ((i : Int)).toNat = i by omega, List.getElem?_map, List.getElem?_zipIdx, ht]
  simp
theorem rows_ix (r1 : 1 ≤ row) (r2 : row ≤ t.many) : ixD (rowsD p seed i t) (.int (row - 1)) = .ok (rowD p seed i t row) := by
  refine ixD_lst (by omega) ?_
  unfold rowsL
  rw [List.getElem?_map, List.getElem?_range (by omega)]
  simp only [Option.map_some]
  congr 2
  omega
theorem rows_last (h : 1 ≤ t.many) : ixD (rowsD p seed i t) (.int (-1)) = .ok (rowD p seed i t t.many) := by
  have e : atI (rowsL p seed i t t.many.toNat) (-1) = some (rowD p seed i t t.many) := by
    have hl : (rowsL p seed i t t.many.toNat).length = t.many.toNat := by unfold rowsL; simp
    unfold atI
    simp only [hl]
    have hx : ixN t.many.toNat (-1) = some (t.many.toNat - 1) := by
      unfold ixN
      rw [if_neg (by omega), if_pos (by omega)]
      congr 1
      omega
    rw [hx]
    show (rowsL p seed i t t.many.toNat)[t.many.toNat - 1]? = _
    unfold rowsL
    rw [List.getElem?_map, List.getElem?_range (by omega)]
    simp only [Option.map_some]
    congr 2
    omega
  unfold rowsD
  show (match atI (rowsL p seed i t t.many.toNat) (-1) with | some d => Res.ok d | none => .stuck) = _
  rw [e]
theorem row_ix (hp : planWf p = true) (ht : p[i]? = some t) (hc : t.cols[j]? = some c) : ixD (rowD p seed i t row) (.str c.name) = .ok (val p seed i row j) := by
  have := look_map (f := fun z : Col × Nat => z.1.name) (v := fun z => val p seed i row z.2) (l := t.cols.zipIdx) (by rw [zip_map Col.name]; exact cols_nodup (tab_at hp ht)) (j := j) (a := (c, j)) (by rw [List.getElem?_zipIdx, hc]; simp)
  exact this
@[simp] theorem len_plan : lenD [planD p] = .ok (.int (p.length : Int)) := by unfold planD; simp
theorem mod_get {α : Type} {l : List α} (h : 1 ≤ l.length) (n : Int) : ∃ i a, n % (l.length : Int) = ((i : Nat) : Int) ∧ l[i]? = some a := by
  have h1 := Int.emod_nonneg n (show (l.length : Int) ≠ 0 by omega)
  have h2 := Int.emod_lt_of_pos n (show (0 : Int) < (l.length : Int) by omega)
  refine ⟨(n % (l.length : Int)).toNat, l[(n % (l.length : Int)).toNat]'(by omega), by omega, by simp⟩
end
end RM

/-! RB: the world's own tables: no faults. -/
namespace RM
open PySem PySem.Spec PyProof.Rows L2 VL
@[simp] theorem nu_num : inD (.str "num") (.tup [.str "num", .str "unlike"]) = .ok (.bl true) := by show Res.ok (Dat.bl (inV (.str "num") [.str "num", .str "unlike"])) = _; rw [show inV (.str "num") [.str "num", .str "unlike"] = true from by decide +kernel]
@[simp] theorem nu_unlike : inD (.str "unlike") (.tup [.str "num", .str "unlike"]) = .ok (.bl true) := by show Res.ok (Dat.bl (inV (.str "unlike") [.str "num", .str "unlike"])) = _; rw [show inV (.str "unlike") [.str "num", .str "unlike"] = true from by decide +kernel]
@[simp] theorem nu_word : inD (.str "word") (.tup [.str "num", .str "unlike"]) = .ok (.bl false) := by show Res.ok (Dat.bl (inV (.str "word") [.str "num", .str "unlike"])) = _; rw [show inV (.str "word") [.str "num", .str "unlike"] = false from by decide +kernel]
@[simp] theorem nu_pick : inD (.str "pick") (.tup [.str "num", .str "unlike"]) = .ok (.bl false) := by show Res.ok (Dat.bl (inV (.str "pick") [.str "num", .str "unlike"])) = _; rw [show inV (.str "pick") [.str "num", .str "unlike"] = false from by decide +kernel]
@[simp] theorem nu_flag : inD (.str "flag") (.tup [.str "num", .str "unlike"]) = .ok (.bl false) := by show Res.ok (Dat.bl (inV (.str "flag") [.str "num", .str "unlike"])) = _; rw [show inV (.str "flag") [.str "num", .str "unlike"] = false from by decide +kernel]
@[simp] theorem nu_serial : inD (.str "serial") (.tup [.str "num", .str "unlike"]) = .ok (.bl false) := by show Res.ok (Dat.bl (inV (.str "serial") [.str "num", .str "unlike"])) = _; rw [show inV (.str "serial") [.str "num", .str "unlike"] = false from by decide +kernel]
@[simp] theorem nu_link : inD (.str "link") (.tup [.str "num", .str "unlike"]) = .ok (.bl false) := by show Res.ok (Dat.bl (inV (.str "link") [.str "num", .str "unlike"])) = _; rw [show inV (.str "link") [.str "num", .str "unlike"] = false from by decide +kernel]
@[simp] theorem nu_sum : inD (.str "sum") (.tup [.str "num", .str "unlike"]) = .ok (.bl false) := by show Res.ok (Dat.bl (inV (.str "sum") [.str "num", .str "unlike"])) = _; rw [show inV (.str "sum") [.str "num", .str "unlike"] = false from by decide +kernel]
@[simp] theorem nu_copy : inD (.str "copy") (.tup [.str "num", .str "unlike"]) = .ok (.bl false) := by show Res.ok (Dat.bl (inV (.str "copy") [.str "num", .str "unlike"])) = _; rw [show inV (.str "copy") [.str "num", .str "unlike"] = false from by decide +kernel]
theorem isi_ii {n : Int} : isiD [.int n, .ty "int"] = .ok (.bl true) := rfl
theorem isi_ib {n : Int} : isiD [.int n, .ty "bool"] = .ok (.bl false) := rfl
theorem isi_bb {n : Bool} : isiD [.bl n, .ty "bool"] = .ok (.bl true) := rfl
theorem isi_ss {n : Str} : isiD [.str n, .ty "str"] = .ok (.bl true) := rfl
theorem isi_sb {n : Str} : isiD [.str n, .ty "bool"] = .ok (.bl false) := rfl
theorem number_int (n : Int) : m_is_number [.int n] = .ok (.bl true) := by
  rw [o_is_number]
  unfold b_is_number
  simp [isi_ii, isi_ib]
theorem flat_same {d : Dat} (h : flatV d = true) : sameD d = true := by
  cases d with
  | bl b => rfl
  | int n => rfl
  | str s =>
    have : PyData.strOk s = true := by
      simp only [flatV, Bool.and_eq_true] at h
      exact h.1
    show (PyData.canLay0 (.str s) && true) = true
    rw [Bool.and_true]; exact this
  | _ => cases h
theorem same_self {d : Dat} (h : flatV d = true) : m_same [d, d] = .ok (.bl true) := by
  rw [o_same]
  unfold b_same
  have e := eqD_self (flat_same h)
  have e2 : ∀ b, eqD (.bl b) (.bl b) = .ok (.bl true) := fun b => eqD_self rfl
  cases d with
  | bl b => simp [isi_bb, e, e2]
  | int n => simp [isi_ib, e2]
  | str s => simp [isi_sb, e2]
  | _ => cases h
theorem same_ints (a b : Int) : m_same [.int a, .int b] = .ok (.bl (a == b)) := by
  rw [o_same]
  unfold b_same
  have e2 : eqD (.bl false) (.bl false) = .ok (.bl true) := eqD_self rfl
  simp [isi_ib, e2]
section
variable {p : Plan} {seed : Int} {i j : Nat} {t : Tab} {c : Col} {row : Int} {n : Nat}
theorem tab_ix (hp : planWf p = true) (ht : p[i]? = some t) : ixD (tablesD p seed) (.str t.name) = .ok (rowsD p seed i t) := by
  have := look_map (f := fun z : Tab × Nat => z.1.name) (v := fun z => rowsD p seed z.2 z.1) (l := p.zipIdx) (by rw [zip_map Tab.name]; exact plan_nodup hp) (j := i) (a := (t, i)) (by rw [List.getElem?_zipIdx, ht]; simp)
  exact this
theorem rows_at (h : n < t.many.toNat) : ixD (rowsD p seed i t) (.int (n : Int)) = .ok (rowD p seed i t (1 + (n : Int))) := by
  have := rows_ix (p := p) (seed := seed) (i := i) (t := t) (row := 1 + (n : Int)) (by omega) (by omega)
  rw [show 1 + (n : Int) - 1 = (n : Int) by omega] at this
  exact this
theorem row_look (hp : planWf p = true) (ht : p[i]? = some t) (hc : t.cols[j]? = some c) : dLook (t.cols.zipIdx.map fun z => ((.inr z.1.name, val p seed i row z.2) : Key × Dat)) (.inr c.name) = some (val p seed i row j) := look_dct (row_ix hp ht hc)
theorem in_row (hp : planWf p = true) (ht : p[i]? = some t) (hc : t.cols[j]? = some c) : inD (.str c.name) (rowD p seed i t row) = .ok (.bl true) := by
  unfold rowD inD inB
  simp only [keyOf]
  rw [row_look hp ht hc]
  rfl
theorem get_row (hp : planWf p = true) (ht : p[i]? = some t) (hc : t.cols[j]? = some c) : getD (rowD p seed i t row) (.str c.name) .non = .ok (val p seed i row j) := by
  unfold rowD getD
  simp only [keyOf]
  rw [row_look hp ht hc]
  rfl
@[simp] theorem isDct_row : isDctD (rowD p seed i t row) = true := rfl
theorem len_rows (h : 1 ≤ t.many) : lenD [rowsD p seed i t] = .ok (.int t.many) := by
  unfold rowsD rowsL
  rw [lenD_lst, List.length_map, List.length_range, show ((t.many.toNat : Nat) : Int) = t.many by omega]
theorem linked_eq {a x : Str} {ja m : Nat} {ca : Col} {g : Tab} {f : Int} (hp : planWf p = true) (ht : p[i]? = some t) (hca : t.cols[ja]? = some ca) (hna : ca.name = a) (hra : ca.rule = .link x) (hg : p[m]? = some g) (hgx : g.name = x) (hv : val p seed i row ja = .int f) (f1 : 1 ≤ f) (f2 : f ≤ g.many) :
    m_linked [planD p, tablesD p seed, t.dat, rowD p seed i t row, .str a] = .ok (rowD p seed m g f) := by
  have T := tab_at hp ht
  have hd : dictD [.lst (t.cols.map Col.dat)] = .ok (.dct (t.cols.map fun c => (.inr c.name, c.rule.dat))) := dict_map (f := Col.name) (v := fun c => c.rule.dat) (cols_nodup T)
  have hk : ixD (.dct (t.cols.map fun c => (.inr c.name, c.rule.dat))) (.str a) = .ok (.tup [.str "link", .str x]) := by
    have := look_map (f := Col.name) (v := fun c => c.rule.dat) (cols_nodup T) hca
    rw [hna, hra] at this
    exact this
  have i2 : ixD t.dat (.int 2) = .ok (.lst (t.cols.map Col.dat)) := by simp [Tab.dat]
  have hgt := get_row (seed := seed) (row := row) hp ht hca
  rw [hna, hv] at hgt
  have htx := tab_ix (seed := seed) hp hg
  rw [hgx] at htx
  have hcn := count_eq f 1 g.many
  rw [decide_eq_true f1, decide_eq_true f2] at hcn
  have hln := len_rows (p := p) (seed := seed) (i := m) (t := g) (tab_at hp hg).m1
  have hrx := rows_ix (p := p) (seed := seed) (i := m) (t := g) f1 f2
  rw [o_linked]
  unfold b_linked
  simp [i2, hd, hk, hgt, htx, hln, hcn, hrx, eMth2]
theorem texts_of {os : List (Str × Int)} (hl : os.length ≤ 1000) {fi : Env → Res Dat} {i j : Nat} {ρ : Env} (hi : i < ρ.length) (hij : i ≠ j) (h : fi ρ = .ok (.tup (os.map optD))) : eLc (iSeq fi) (.tp [(.nm i), (.nm j)]) bYes (eVar i) [i, j] ρ = .ok (.lst ((os.map Prod.fst).map Dat.str)) := by
  refine eLc_eq (ds := os.map optD) (by simp [h]) (by simp; exact le_big hl) ?_
  have := lcD_gen (p := .tp [(.nm i), (.nm j)]) (t := bYes) (f := eVar i) (ρ := wipeE ρ [i, j]) (x := optD) (y := fun o => .str o.1) (tb := fun _ => true) os fun o _ => ⟨[(i, .str o.1), (j, .int o.2)], by simp [optD], rfl, fun _ => by
    show eVar i (((wipeE ρ [i, j]).set i (some (.str o.1))).set j (some (.int o.2))) = _
    unfold eVar
    rw [List.getElem?_set_ne (Ne.symm hij), List.getElem?_set_self (by rw [wipeE_length]; exact hi)]⟩
  rw [List.filter_eq_self.mpr (by simp)] at this
  rw [this, List.map_map]; rfl
theorem wP_small : ∀ (n : Nat) (l : Int), ∀ c ∈ wP n l, 97 ≤ c ∧ c ≤ 122
  | 0, _, c, h => by cases h
  | n + 1, l, c, h => by
    have h' : c ∈ wP n l ++ [97 + (Lf n l % 26).toNat] := h
    rcases List.mem_append.mp h' with q | q
    · exact wP_small n l c q
    · have := List.mem_singleton.mp q
      omega
theorem good_word {s : Str} {lo hi : Int} (hs : s.length ≤ 1000) (h1 : lo ≤ s.length) (h2 : (s.length : Int) ≤ hi) (hc : ∀ c ∈ s.cps.toList, small c = true) : m_is_good_word [.str s, .int lo, .int hi] = .ok (.bl true) := by
  rw [o_is_good_word]
  unfold b_is_good_word
  have e : eLc (iSeq (eVar 0)) (.nm 3) bYes (eBin inD (eVar 3) (eC (.str "abcdefghijklmnopqrstuvwxyz"))) [3] [some (.str s), some (.int lo), some (.int hi), none] = .ok (.lst ((s.cps.toList.map small).map Dat.bl)) := by
    refine eLc_eq (ds := s.cps.toList.map fun c => Dat.str ⟨#[c]⟩) (by simp) ?_ ?_
    · simp only [List.length_map, str_len]; exact Nat.le_trans hs (by decide)
    · rw [List.map_map]
      refine lcD_every _ fun c _ => ⟨_, bindU_nm, ?_⟩
      simp [wipeE, inD_sign]
  have e2 := allD_map (s.cps.toList.map small)
  rw [show (s.cps.toList.map small).all id = true by rw [List.all_map, List.all_eq_true]; exact hc, List.map_map] at e2
  simp [isi_ss, lenD_str hs, h1, h2, e, e2]
theorem small_of {c : Nat} (h : 97 ≤ c ∧ c ≤ 122) : small c = true := by
  unfold small; simp [h.1, h.2]
theorem is_so_ok (hp : planWf p = true) (ht : p[i]? = some t) (hc : t.cols[j]? = some c) (hn : n < t.many.toNat) : m_is_so [planD p, tablesD p seed, t.dat, .int (n : Int), .str c.name, c.rule.dat] = .ok (.bl true) := by
  have T := tab_at hp ht
  have hr := (rule_at T hc).2
  have hm2 := T.m2
  have r1 : (1 : Int) ≤ 1 + (n : Int) := by omega
  have r2 : 1 + (n : Int) ≤ t.many := by omega
  have i0 : ixD t.dat (.int 0) = .ok (.str t.name) := by simp [Tab.dat]
  have e1 := tab_ix (seed := seed) hp ht
  have e2 := rows_at (p := p) (seed := seed) (i := i) hn
  have e3 := row_ix (seed := seed) (row := 1 + (n : Int)) hp ht hc
  have hfl := (val_eq (seed := seed) hp ht hc r1 r2).2.2
  rw [o_is_so]
  unfold b_is_so
  cases e : c.rule with
  | num lo hi =>
    rw [e] at hr
    simp only [ruleOk, Bool.and_eq_true, decide_eq_true_eq] at hr
    rw [val_num ht hc e hr.2] at e3
    have h1 := Int.emod_nonneg (drawI seed i j (1 + (n : Int))) (show hi - lo + 1 ≠ 0 by omega)
    have h2 := Int.emod_lt_of_pos (drawI seed i j (1 + (n : Int))) (show 0 < hi - lo + 1 by omega)
    generalize drawI seed i j (1 + (n : Int)) % (hi - lo + 1) = w at e3 h1 h2
    have q1 : lo ≤ lo + w := by omega
    have q2 : lo + w ≤ hi := by omega
    simp [i0, e1, e2, e3, Rule.dat, Rule.kind, Rule.args, number_int, q1, q2]
  | unlike lo hi =>
    rw [e] at hr
    simp only [ruleOk, Bool.and_eq_true, decide_eq_true_eq] at hr
    have h := hr.1.2
    rw [val_unlike (z := (hi - lo + 1).toNat) ht hc e (by omega) (by omega) (by omega) (by omega)] at e3
    have h1 : 0 ≤ spreadI (drawI seed i j 0) (hi - lo + 1).toNat (1 + (n : Int)) := Int.emod_nonneg _ (by omega)
    have h2 : spreadI (drawI seed i j 0) (hi - lo + 1).toNat (1 + (n : Int)) < ((hi - lo + 1).toNat : Int) := Int.emod_lt_of_pos _ (by omega)
    generalize spreadI (drawI seed i j 0) (hi - lo + 1).toNat (1 + (n : Int)) = w at e3 h1 h2
    have q1 : lo ≤ lo + w := by omega
    have q2 : lo + w ≤ hi := by omega
    simp [i0, e1, e2, e3, Rule.dat, Rule.kind, Rule.args, number_int, q1, q2]
  | word lo hi =>
    rw [e] at hr
    simp only [ruleOk, Bool.and_eq_true, decide_eq_true_eq] at hr
    rw [val_word ht hc e hr.1.1 hr.2 (by omega)] at e3
    have h1 := Int.emod_nonneg (drawI seed i j (1 + (n : Int))) (show hi - lo + 1 ≠ 0 by omega)
    have h2 := Int.emod_lt_of_pos (drawI seed i j (1 + (n : Int))) (show 0 < hi - lo + 1 by omega)
    generalize drawI seed i j (1 + (n : Int)) % (hi - lo + 1) = w at e3 h1 h2
    generalize drawI seed i j (1 + (n : Int)) / (hi - lo + 1) = v at e3
    have hlen : (Sx (wP (lo + w).toNat v)).length = (lo + w).toNat := by rw [Sx_len, wP_len]
    have g := good_word (s := Sx (wP (lo + w).toNat v)) (lo := lo) (hi := hi) (by omega) (by omega) (by omega) (fun c hc => small_of (wP_small _ _ c (by simpa [Sx] using hc)))
    simp [i0, e1, e2, e3, Rule.dat, Rule.kind, Rule.args, g]
  | pick os =>
    rw [e] at hr
    simp only [ruleOk, optsOk, Bool.and_eq_true, decide_eq_true_eq, List.all_eq_true] at hr
    obtain ⟨z, o, ho, _, hv⟩ := val_pick (seed := seed) (row := 1 + (n : Int)) ht hc e (fun o ho => (hr.2 o ho).2.1) (fun q => by rw [q] at hr; simp at hr) (by omega)
    rw [hv] at e3
    have hm : o ∈ os := List.mem_of_getElem? ho
    have okw : ∀ o ∈ os, PyData.strOk o.1 = true := fun o ho => (word_ok (hr.2 o ho).1).1
    have hin := inD_strs (x := o.1) (ys := os.map Prod.fst) (okw o hm) (fun y hy => by
      obtain ⟨o', ho', rfl⟩ := List.mem_map.mp hy
      exact okw o' ho')
    rw [decide_eq_true (List.mem_map.mpr ⟨o, hm, rfl⟩)] at hin
    have e4 : eLc (iSeq (eBin ixD (eVar 5) (eC (.int 1)))) (.tp [(.nm 12), (.nm 13)]) bYes (eVar 12) [12, 13] [some (planD p), some (tablesD p seed), some t.dat, some (.int (n : Int)), some (.str c.name), some (.tup [.str "pick", .tup (os.map optD)]), some (rowD p seed i t (1 + (n : Int))), some (.str o.1), some (.str "pick"), none, none, none, none, none] = .ok (.lst ((os.map Prod.fst).map Dat.str)) := texts_of (by omega) (by simp) (by decide) (by simp)
    rw [List.map_map] at e4 hin
    simp [i0, e1, e2, e3, Rule.dat, Rule.kind, Rule.args, isi_ss, e4, hin]
  | flag s =>
    rw [val_flag ht hc e] at e3
    have h1 := Int.emod_nonneg (drawI seed i j (1 + (n : Int))) (show (100 : Int) ≠ 0 by decide)
    have h2 := Int.emod_lt_of_pos (drawI seed i j (1 + (n : Int))) (show (0 : Int) < 100 by decide)
    generalize drawI seed i j (1 + (n : Int)) % 100 = w at e3 h1 h2
    have a1 : (decide (s > 0) || !decide (w < s)) = true := by
      by_cases q : w < s <;> by_cases q2 : s > 0 <;> simp [q, q2] <;> omega
    have a2 : (decide (s < 100) || decide (w < s)) = true := by
      by_cases q : w < s <;> by_cases q2 : s < 100 <;> simp [q, q2] <;> omega
    by_cases q : w < s
    · have q3 : 0 < s := by omega
      by_cases q2 : s < 100 <;> simp [i0, e1, e2, e3, Rule.dat, Rule.kind, Rule.args, isi_bb, q, q2, q3]
    · have q2 : s < 100 := by omega
      by_cases q3 : 0 < s <;> simp [i0, e1, e2, e3, Rule.dat, Rule.kind, Rule.args, isi_bb, q, q2, q3]
  | serial a b =>
    rw [e] at hr
    simp only [ruleOk, Bool.and_eq_true, decide_eq_true_eq] at hr
    rw [val_serial ht hc e (by omega) (by omega), show 1 + (n : Int) - 1 = (n : Int) by omega] at e3
    have hml := mulD_l (i := b) (j := (n : Int)) (by omega) (by omega)
    simp [i0, e1, e2, e3, Rule.dat, Rule.kind, Rule.args, number_int, hml]
  | link x =>
    rw [e] at hr
    simp only [ruleOk, decide_eq_true_eq] at hr
    obtain ⟨m, g, hm, hg, hf⟩ := find_mem hr
    have G := tab_at hp hg
    have gm := G.m1
    have hgx : g.name = x := by
      obtain ⟨h1, h2, _⟩ := List.findIdx?_eq_some_iff_getElem.mp hf
      rw [List.getElem?_eq_getElem h1] at hg
      rw [← Option.some.inj hg]; simpa using h2
    rw [val_link ht hc e hf hg G.m1] at e3
    have h1 := Int.emod_nonneg (drawI seed i j (1 + (n : Int))) (show g.many ≠ 0 by omega)
    have h2 := Int.emod_lt_of_pos (drawI seed i j (1 + (n : Int))) (show 0 < g.many by omega)
    generalize drawI seed i j (1 + (n : Int)) % g.many = w at e3 h1 h2
    have htx := tab_ix (seed := seed) hp hg
    rw [hgx] at htx
    have hcn := count_eq (1 + w) 1 g.many
    rw [decide_eq_true (show (1 : Int) ≤ 1 + w by omega), decide_eq_true (show 1 + w ≤ g.many by omega)] at hcn
    have hln := len_rows (p := p) (seed := seed) (i := m) (t := g) gm
    simp [i0, e1, e2, e3, Rule.dat, Rule.kind, Rule.args, htx, hln, hcn]
  | sum a b =>
    obtain ⟨ja, jb, ca, cb, x, y, _, _, ha, hb, na, nb, va, vb, hv⟩ := val_sum (seed := seed) hp ht hc e r1 r2
    rw [hv] at e3
    have ga := get_row (seed := seed) (row := 1 + (n : Int)) hp ht ha
    have gb := get_row (seed := seed) (row := 1 + (n : Int)) hp ht hb
    rw [na, va] at ga
    rw [nb, vb] at gb
    have sl : slD (.tup [.str "sum", .str a, .str b]) (some 1) none = .ok (.tup [.str a, .str b]) := rfl
    have e4 : eLc (iSeq (eSl (eVar 5) (oSome (eC (.int 1))) oNone)) (.nm 11) bYes (eMth2 isDctD getD (eVar 6) (eVar 11) (eC .non)) [11] [some (planD p), some (tablesD p seed), some t.dat, some (.int (n : Int)), some (.str c.name), some (.tup [.str "sum", .str a, .str b]), some (rowD p seed i t (1 + (n : Int))), some (.int (x + y)), some (.str "sum"), none, none, none, none, none] = .ok (.lst [.int x, .int y]) := by
      refine eLc_eq (ds := [.str a, .str b]) (by simp [sl]) (by simp) ?_
      refine lcD_all (x := Prod.fst) (y := Prod.snd) [(Dat.str a, Dat.int x), (Dat.str b, Dat.int y)] fun z hz => ?_
      simp only [List.mem_cons, List.not_mem_nil, or_false] at hz
      rcases hz with rfl | rfl
      · simp [wipeE, ga, eMth2]
      · simp [wipeE, gb, eMth2]
    have e5 : eLc (iSeq (eVar 10)) (.nm 11) bYes (eCall m_is_number (aCons (eVar 11) aNil)) [11] [some (planD p), some (tablesD p seed), some t.dat, some (.int (n : Int)), some (.str c.name), some (.tup [.str "sum", .str a, .str b]), some (rowD p seed i t (1 + (n : Int))), some (.int (x + y)), some (.str "sum"), none, some (.lst [.int x, .int y]), none, none, none] = .ok (.lst [.bl true, .bl true]) := by
      refine eLc_eq (ds := [.int x, .int y]) (by simp) (by simp) ?_
      refine lcD_all (x := Dat.int) (y := fun _ => Dat.bl true) [x, y] fun z hz => ?_
      simp [wipeE, number_int]
    have e6 : sumD [.lst [.int x, .int y]] = .ok (.int (x + y)) := by
      have := sumD_ints [x, y]
      simpa using this
    have e7 : allD [.lst [.bl true, .bl true]] = .ok (.bl true) := rfl
    simp [i0, e1, e2, e3, Rule.dat, Rule.kind, Rule.args, e4, e5, e6, e7, number_int]
  | copy a b =>
    obtain ⟨ja, ca, x, m, g, jb, cb, f, _, ha, na, ra, _, hg, hgx, hb, nb, va, f1, f2, hv⟩ := val_copy (seed := seed) hp ht hc e r1 r2
    have lk := linked_eq (seed := seed) (row := 1 + (n : Int)) hp ht ha na ra hg hgx va f1 f2
    have hin := in_row (seed := seed) (row := f) hp hg hb
    have hix := row_ix (seed := seed) (row := f) hp hg hb
    rw [nb] at hin hix
    rw [hv] at e3 hfl
    have sm := same_self hfl
    have nn : notND (rowD p seed m g f) = .ok (.bl true) := rfl
    have nn2 : VL.isNon (rowD p seed m g f) = false := rfl
    simp [nn2, i0, e1, e2, e3, Rule.dat, Rule.kind, Rule.args, lk, hin, hix, sm, nn]
end
end RM

/-! RC: faults tells nothing of a world's own tables. -/
namespace RM
open PySem PySem.Spec PyProof.Rows L2 VL
section
variable {p : Plan} {seed : Int} {i j : Nat} {t : Tab} {c : Col} {row : Int} {n : Nat}
theorem rows_cut (h : n ≤ t.many.toNat) : slD (rowsD p seed i t) none (some (n : Int)) = .ok (.lst (rowsL p seed i t n)) := by
  show Res.ok (Dat.lst (VL.cutD (rowsL p seed i t t.many.toNat) none (some (n : Int)))) = _
  have hl : (rowsL p seed i t t.many.toNat).length = t.many.toNat := by unfold rowsL; simp
  unfold VL.cutD
  rw [HT.sIx_nat, hl]
  show Res.ok (Dat.lst (((rowsL p seed i t t.many.toNat).drop 0).take (min n t.many.toNat - 0))) = _
  rw [List.drop_zero, Nat.sub_zero, Nat.min_eq_left h]
  unfold rowsL
  rw [← List.map_take, List.take_range, Nat.min_eq_left h]
theorem anyD_map (bs : List Bool) : anyD [.lst (bs.map Dat.bl)] = .ok (.bl (bs.any id)) := by
  show (match boolsD (bs.map Dat.bl) with | some bs => Res.ok (Dat.bl (bs.any id)) | none => .stuck) = _
  rw [boolsD_map]
theorem unlike_ne {lo hi : Int} (hp : planWf p = true) (ht : p[i]? = some t) (hc : t.cols[j]? = some c) (hr : c.rule = .unlike lo hi) {r r' : Nat} (h1 : r < t.many.toNat) (h2 : r' < t.many.toNat) : ∃ x y, val p seed i (1 + (r : Int)) j = .int x ∧ val p seed i (1 + (r' : Int)) j = .int y ∧ (x = y ↔ r = r') ∧ lo ≤ x ∧ x ≤ hi := by
  have T := tab_at hp ht
  have ho := (rule_at T hc).2
  have hm2 := T.m2
  rw [hr] at ho
  simp only [ruleOk, Bool.and_eq_true, decide_eq_true_eq] at ho
  have hs := ho.2
  have h := ho.1.2
  have hz : ((hi - lo + 1).toNat : Int) = hi - lo + 1 := by omega
  refine ⟨_, _, val_unlike (z := (hi - lo + 1).toNat) ht hc hr (by omega) (by omega) (by omega) (by omega), val_unlike (z := (hi - lo + 1).toNat) ht hc hr (by omega) (by omega) (by omega) (by omega), ?_, ?_, ?_⟩
  · constructor
    · intro e
      have e' : spreadI (drawI seed i j 0) (hi - lo + 1).toNat (1 + (r : Int)) = spreadI (drawI seed i j 0) (hi - lo + 1).toNat (1 + (r' : Int)) := by omega
      rw [show 1 + (r : Int) = ((1 + r : Nat) : Int) by omega, show 1 + (r' : Int) = ((1 + r' : Nat) : Int) by omega] at e'
      rcases Nat.lt_trichotomy r r' with q | q | q
      · exact absurd e' (spread_inj _ (by omega) (by omega) (by omega) (by omega))
      · exact q
      · exact absurd e'.symm (spread_inj _ (by omega) (by omega) (by omega) (by omega))
    · intro e; rw [e]
  · have : 0 ≤ spreadI (drawI seed i j 0) (hi - lo + 1).toNat (1 + (r : Int)) := Int.emod_nonneg _ (by omega)
    omega
  · have : spreadI (drawI seed i j 0) (hi - lo + 1).toNat (1 + (r : Int)) < ((hi - lo + 1).toNat : Int) := Int.emod_lt_of_pos _ (by omega)
    omega
theorem is_met_no {lo hi : Int} (hp : planWf p = true) (ht : p[i]? = some t) (hc : t.cols[j]? = some c) (hr : c.rule = .unlike lo hi) (hn : n < t.many.toNat) : m_is_met [rowsD p seed i t, .int (n : Int), .str c.name] = .ok (.bl false) := by
  have hm2 := (tab_at hp ht).m2
  rw [o_is_met]
  unfold b_is_met
  have e : eLc (iSeq (eSl (eVar 0) oNone (oSome (eVar 1)))) (.nm 3) bYes (eAnd (eBin inD (eVar 2) (eVar 3)) (eCall m_same (aCons (eBin ixD (eVar 3) (eVar 2)) (aCons (eBin ixD (eBin ixD (eVar 0) (eVar 1)) (eVar 2)) aNil)))) [3] [some (rowsD p seed i t), some (.int (n : Int)), some (.str c.name), none] = .ok (.lst (((List.range n).map fun _ => false).map Dat.bl)) := by
    refine eLc_eq (ds := rowsL p seed i t n) (by simp [rows_cut (show n ≤ t.many.toNat by omega)]) ?_ ?_
    · unfold rowsL; rw [List.length_map, List.length_range]; exact le_big (by omega)
    · rw [List.map_map]
      unfold rowsL
      refine lcD_all _ fun r hr' => ?_
      have hrn := List.mem_range.mp hr'
      obtain ⟨x, y, vx, vy, hxy, _⟩ := unlike_ne (seed := seed) hp ht hc hr (r := r) (r' := n) (by omega) hn
      have e1 := row_ix (seed := seed) (row := 1 + (r : Int)) hp ht hc
      have e2 := row_ix (seed := seed) (row := 1 + (n : Int)) hp ht hc
      rw [vx] at e1
      rw [vy] at e2
      have hne : (x == y) = false := by
        rw [beq_eq_false_iff_ne]; intro q; have := hxy.mp q; omega
      simp [wipeE, in_row (seed := seed) (row := 1 + (r : Int)) hp ht hc, rows_at (p := p) (seed := seed) (i := i) hn, e1, e2, same_ints, hne]
  have e2 := anyD_map ((List.range n).map fun _ => false)
  rw [show ((List.range n).map fun _ => false).any id = false by rw [List.any_map, List.any_eq_false]; simp, List.map_map] at e2
  simp [e, e2]
def F3 : SEnv → SRes := (sSeq (sSet 9 [] (eAnd (eBin inD (eVar 7) (eVar 6)) (eCall m_is_so (aCons (eVar 0) (aCons (eVar 1) (aCons (eVar 3) (aCons (eVar 5) (aCons (eVar 7) (aCons (eVar 8) aNil))))))))) (sIf [] (bOr (bNot (eTest (eVar 9))) (bAnd (eTest (eBin eqD (eBin ixD (eVar 8) (eC (.int 0))) (eC (.str "unlike")))) (eTest (eCall m_is_met (aCons (eVar 4) (aCons (eVar 5) (aCons (eVar 7) aNil))))))) (sApp 2 [] (eTup (aCons (eBin ixD (eVar 3) (eC (.int 0))) (aCons (eBin addD (eVar 5) (eC (.int 1))) (aCons (eVar 7) aNil))))) sNext))
def F2 : SEnv → SRes := sFor [] (iSeq (eBin ixD (eVar 3) (eC (.int 2)))) (.tp [(.nm 7), (.nm 8)]) F3
def F1 : SEnv → SRes := sSeq (sSet 4 [] (eBin ixD (eVar 1) (eBin ixD (eVar 3) (eC (.int 0))))) (sFor [] (iArg enumD (aCons (eVar 4) aNil)) (.tp [(.nm 5), (.nm 6)]) F2)
theorem f3_step (hp : planWf p = true) (ht : p[i]? = some t) (hc : t.cols[j]? = some c) (hn : n < t.many.toNat) (x9 : Option Slot) :
    F3 [some (.frz (planD p)), some (.frz (tablesD p seed)), some (.own []), some (.frz t.dat), some (.frz (rowsD p seed i t)), some (.frz (.int (n : Int))), some (.frz (rowD p seed i t (1 + (n : Int)))), some (.frz (.str c.name)), some (.frz c.rule.dat), x9] = .next [some (.frz (planD p)), some (.frz (tablesD p seed)), some (.own []), some (.frz t.dat), some (.frz (rowsD p seed i t)), some (.frz (.int (n : Int))), some (.frz (rowD p seed i t (1 + (n : Int)))), some (.frz (.str c.name)), some (.frz c.rule.dat), some (.frz (.bl true))] := by
  unfold F3
  have hi := in_row (seed := seed) (row := 1 + (n : Int)) hp ht hc
  have hs := is_so_ok (seed := seed) hp ht hc hn
  rw [sSet_step (d := .bl true) (by simp [hi, hs])]
  simp only [List.set_cons_succ, List.set_cons_zero]
  refine sIf_end ?_
  cases e : c.rule with
  | unlike lo hi => simp [Rule.dat, Rule.kind, Rule.args, is_met_no (seed := seed) hp ht hc e hn]
  | _ => simp [Rule.dat, Rule.kind, Rule.args]
theorem f2_step (hp : planWf p = true) (ht : p[i]? = some t) (hn : n < t.many.toNat) (x7 x8 x9 : Option Slot) : ∃ y7 y8 y9,
    F2 [some (.frz (planD p)), some (.frz (tablesD p seed)), some (.own []), some (.frz t.dat), some (.frz (rowsD p seed i t)), some (.frz (.int (n : Int))), some (.frz (rowD p seed i t (1 + (n : Int)))), x7, x8, x9] = .next [some (.frz (planD p)), some (.frz (tablesD p seed)), some (.own []), some (.frz t.dat), some (.frz (rowsD p seed i t)), some (.frz (.int (n : Int))), some (.frz (rowD p seed i t (1 + (n : Int)))), y7, y8, y9] := by
  obtain ⟨ρ', e, y7, y8, y9, rfl⟩ := forD_inv (p := .tp [(.nm 7), (.nm 8)]) (b := F3) (ds := t.cols.map Col.dat) (ρ := [some (.frz (planD p)), some (.frz (tablesD p seed)), some (.own []), some (.frz t.dat), some (.frz (rowsD p seed i t)), some (.frz (.int (n : Int))), some (.frz (rowD p seed i t (1 + (n : Int)))), x7, x8, x9])
    (fun _ ρ => ∃ y7 y8 y9, ρ = [some (.frz (planD p)), some (.frz (tablesD p seed)), some (.own []), some (.frz t.dat), some (.frz (rowsD p seed i t)), some (.frz (.int (n : Int))), some (.frz (rowD p seed i t (1 + (n : Int)))), y7, y8, y9]) ⟨x7, x8, x9, rfl⟩ (fun k d ρ hd hI => by
      obtain ⟨y7, y8, y9, rfl⟩ := hI
      rw [List.getElem?_map] at hd
      cases hc : t.cols[k]? with
      | none => rw [hc] at hd; cases hd
      | some c =>
        rw [hc] at hd
        cases hd
        exact ⟨[(7, .str c.name), (8, c.rule.dat)], _, by simp [Col.dat], f3_step (seed := seed) hp ht hc hn y9, _, _, _, rfl⟩)
  refine ⟨y7, y8, y9, ?_⟩
  unfold F2
  have i2 : ixD t.dat (.int 2) = .ok (.lst (t.cols.map Col.dat)) := by simp [Tab.dat]
  exact Eq.trans (by simp [i2]) e
theorem f1_step (hp : planWf p = true) (ht : p[i]? = some t) (x4 x5 x6 x7 x8 x9 : Option Slot) : ∃ y4 y5 y6 y7 y8 y9,
    F1 [some (.frz (planD p)), some (.frz (tablesD p seed)), some (.own []), some (.frz t.dat), x4, x5, x6, x7, x8, x9] = .next [some (.frz (planD p)), some (.frz (tablesD p seed)), some (.own []), some (.frz t.dat), y4, y5, y6, y7, y8, y9] := by
  obtain ⟨ρ', e, y5, y6, y7, y8, y9, rfl⟩ := forD_inv (p := .tp [(.nm 5), (.nm 6)]) (b := F2) (ds := enumL 0 (rowsL p seed i t t.many.toNat)) (ρ := [some (.frz (planD p)), some (.frz (tablesD p seed)), some (.own []), some (.frz t.dat), some (.frz (rowsD p seed i t)), x5, x6, x7, x8, x9])
    (fun _ ρ => ∃ y5 y6 y7 y8 y9, ρ = [some (.frz (planD p)), some (.frz (tablesD p seed)), some (.own []), some (.frz t.dat), some (.frz (rowsD p seed i t)), y5, y6, y7, y8, y9]) ⟨x5, x6, x7, x8, x9, rfl⟩ (fun k d ρ hd hI => by
      obtain ⟨y5, y6, y7, y8, y9, rfl⟩ := hI
      rw [enumL_get] at hd
      by_cases q : k < t.many.toNat
      · have hk : (rowsL p seed i t t.many.toNat)[k]? = some (rowD p seed i t (1 + (k : Int))) := by
          unfold rowsL; rw [List.getElem?_map, List.getElem?_range q]; rfl
        rw [hk] at hd
        simp only [Option.map_some, Option.some.injEq, Nat.zero_add] at hd
        subst hd
        obtain ⟨z7, z8, z9, hz⟩ := f2_step (seed := seed) hp ht q y7 y8 y9
        exact ⟨[(5, .int (k : Int)), (6, rowD p seed i t (1 + (k : Int)))], _, by simp, hz, _, _, _, _, _, rfl⟩
      · have hk : (rowsL p seed i t t.many.toNat)[k]? = none := by
          unfold rowsL; rw [List.getElem?_eq_none]; simp; omega
        rw [hk] at hd; cases hd)
  refine ⟨some (.frz (rowsD p seed i t)), y5, y6, y7, y8, y9, ?_⟩
  unfold F1
  have i0 : ixD t.dat (.int 0) = .ok (.str t.name) := by simp [Tab.dat]
  have en : enumD [rowsD p seed i t] = .ok (enumL 0 (rowsL p seed i t t.many.toNat)) := rfl
  rw [sSet_step (d := rowsD p seed i t) (by simp [i0, tab_ix hp ht])]
  simp only [List.set_cons_succ, List.set_cons_zero]
  exact Eq.trans (by simp [en]) e
theorem faults_eq (hp : planWf p = true) : m_faults [planD p, tablesD p seed] = .ok (.lst []) := by
  rw [o_faults]
  obtain ⟨ρ', e, y3, y4, y5, y6, y7, y8, y9, rfl⟩ := forD_inv (p := .nm 3) (b := F1) (ds := p.map Tab.dat) (ρ := [some (.frz (planD p)), some (.frz (tablesD p seed)), some (.own []), none, none, none, none, none, none, none])
    (fun _ ρ => ∃ y3 y4 y5 y6 y7 y8 y9, ρ = [some (.frz (planD p)), some (.frz (tablesD p seed)), some (.own []), y3, y4, y5, y6, y7, y8, y9]) ⟨none, none, none, none, none, none, none, rfl⟩ (fun k d ρ hd hI => by
      obtain ⟨y3, y4, y5, y6, y7, y8, y9, rfl⟩ := hI
      rw [List.getElem?_map] at hd
      cases ht : p[k]? with
      | none => rw [ht] at hd; cases hd
      | some t =>
        rw [ht] at hd
        cases hd
        obtain ⟨z4, z5, z6, z7, z8, z9, hz⟩ := f1_step (seed := seed) hp ht y4 y5 y6 y7 y8 y9
        exact ⟨[(3, t.dat)], _, bindU_nm, hz, _, _, _, _, _, _, _, rfl⟩)
  unfold b_faults
  unfold F1 F2 F3 at e
  have sp : seqD (planD p) = .ok (p.map Tab.dat) := rfl
  simp [need_plan_ok hp, sp, e]
end
end RM

/-! SA: a wider plan changes no cell that was there. -/
namespace RM
open PySem PySem.Spec PyProof.Rows L2 VL
/-- the same tables, with columns behind, with tables behind -/
def Wider (p q : Plan) : Prop := ∀ (i : Nat) (t : Tab), p[i]? = some t → ∃ t', q[i]? = some t' ∧ t'.name = t.name ∧ t'.many = t.many ∧ ∃ m, t'.cols = t.cols ++ m
theorem get_pre {α : Type} {l m : List α} {j : Nat} {a : α} (h : l[j]? = some a) : (l ++ m)[j]? = some a := by
  have := lt_of_get h
  rw [List.getElem?_append_left this]; exact h
theorem uniq_get {α : Type} {f : α → Str} {l : List α} (nd : (l.map f).Nodup) {i j : Nat} {a b : α} (h1 : l[i]? = some a) (h2 : l[j]? = some b) (e : f a = f b) : i = j := by
  have q1 := findIdx_nodup nd h1
  have q2 := findIdx_nodup nd h2
  rw [e, q2] at q1
  exact (Option.some.inj q1).symm
section
variable {p q : Plan} {seed : Int} {i j : Nat} {t : Tab} {c : Col} {row : Int}
theorem val_pickz {os : List (Str × Int)} {z : Nat} {o : Str × Int} (ht : p[i]? = some t) (hc : t.cols[j]? = some c) (hr : c.rule = .pick os) (hl : os.length ≤ 1000) (hs : m_shared_of [.int (drawI seed i j row), .lst ((os.map Prod.snd).map Dat.int)] = .ok (.int (z : Int))) (ho : os[z]? = some o) : val p seed i row j = .str o.1 := val_of (W_pick ht hc hr hl hs ho)
theorem val_wider (hp : planWf p = true) (hq : planWf q = true) (w : Wider p q) : ∀ (n i j : Nat) (t : Tab) (c : Col) (row : Int), p[i]? = some t → t.cols[j]? = some c → 1 ≤ row → row ≤ t.many → 5 * i + j < n → val q seed i row j = val p seed i row j := by
  intro n
  induction n with
  | zero => intro i j t c row _ _ _ _ h; omega
  | succ n ih =>
    intro i j t c row ht hc r1 r2 hk
    obtain ⟨t', ht', e1, e2, m, e3⟩ := w i t ht
    have T := tab_at hp ht
    have T' := tab_at hq ht'
    have hc' : t'.cols[j]? = some c := by rw [e3]; exact get_pre hc
    have hr := (rule_at T hc).2
    have hm2 := T.m2
    have r2' : row ≤ t'.many := by omega
    cases e : c.rule with
    | num lo hi =>
      rw [e] at hr
      simp only [ruleOk, Bool.and_eq_true, decide_eq_true_eq] at hr
      rw [val_num ht hc e hr.2, val_num ht' hc' e hr.2]
    | word lo hi =>
      rw [e] at hr
      simp only [ruleOk, Bool.and_eq_true, decide_eq_true_eq] at hr
      rw [val_word ht hc e hr.1.1 hr.2 (by omega), val_word ht' hc' e hr.1.1 hr.2 (by omega)]
    | unlike lo hi =>
      rw [e] at hr
      simp only [ruleOk, Bool.and_eq_true, decide_eq_true_eq] at hr
      have h := hr.1.2
      rw [val_unlike (z := (hi - lo + 1).toNat) ht hc e (by omega) (by omega) (by omega) (by omega), val_unlike (z := (hi - lo + 1).toNat) ht' hc' e (by omega) (by omega) (by omega) (by omega)]
    | pick os =>
      rw [e] at hr
      simp only [ruleOk, optsOk, Bool.and_eq_true, decide_eq_true_eq, List.all_eq_true] at hr
      have hpos : ∀ x ∈ os.map Prod.snd, 1 ≤ x := fun x hx => by
        obtain ⟨o, ho, rfl⟩ := List.mem_map.mp hx
        exact (hr.2 o ho).2.1
      have hne : os.map Prod.snd ≠ [] := fun q => by
        have : os = [] := List.map_eq_nil_iff.mp q
        rw [this] at hr; simp at hr
      obtain ⟨z, hz, hs⟩ := shared_of_eq (n := drawI seed i j row) hpos hne (by rw [List.length_map]; omega)
      have hzl : z < os.length := by have := hz.1; rwa [List.length_map] at this
      have ho : os[z]? = some os[z] := by simp [hzl]
      rw [val_pickz ht hc e (by omega) hs ho, val_pickz ht' hc' e (by omega) hs ho]
    | flag s => rw [val_flag ht hc e, val_flag ht' hc' e]
    | serial a b =>
      rw [e] at hr
      simp only [ruleOk, Bool.and_eq_true, decide_eq_true_eq] at hr
      rw [val_serial ht hc e (by omega) (by omega), val_serial ht' hc' e (by omega) (by omega)]
    | link x =>
      rw [e] at hr
      simp only [ruleOk, decide_eq_true_eq] at hr
      obtain ⟨k, g, hk', hg, hf⟩ := find_mem hr
      obtain ⟨g', hg', g1, g2, _⟩ := w k g hg
      have hgx : g.name = x := by
        obtain ⟨h1, h2, _⟩ := List.findIdx?_eq_some_iff_getElem.mp hf
        rw [List.getElem?_eq_getElem h1] at hg
        rw [← Option.some.inj hg]; simpa using h2
      have hf' := findIdx_nodup (plan_nodup hq) hg'
      rw [g1, hgx] at hf'
      have gm := (tab_at hp hg).m1
      rw [val_link ht hc e hf hg gm, val_link ht' hc' e hf' hg' (by omega), g2]
    | sum a b =>
      obtain ⟨ja, jb, ca, cb, x, y, a0, b0, a1, b1, a2, b2, a3, b3, hv⟩ := val_sum (seed := seed) hp ht hc e r1 r2
      obtain ⟨ja', jb', ca', cb', x', y', a0', b0', a1', b1', a2', b2', a3', b3', hv'⟩ := val_sum (seed := seed) hq ht' hc' e r1 r2'
      have ea : ja' = ja := uniq_get (cols_nodup T') a1' (by rw [e3]; exact get_pre a1) (a2'.trans a2.symm)
      have eb : jb' = jb := uniq_get (cols_nodup T') b1' (by rw [e3]; exact get_pre b1) (b2'.trans b2.symm)
      subst ea eb
      have i1 := ih i ja' t ca row ht a1 r1 r2 (by omega)
      have i2 := ih i jb' t cb row ht b1 r1 r2 (by omega)
      rw [a3, a3'] at i1
      rw [b3, b3'] at i2
      cases i1
      cases i2
      rw [hv, hv']
    | copy a b =>
      obtain ⟨ja, ca, x, k, g, jb, cb, f, a0, a1, a2, a3, k0, k1, k2, b1, b2, hf, f1, f2, hv⟩ := val_copy (seed := seed) hp ht hc e r1 r2
      obtain ⟨ja', ca', x', k', g', jb', cb', f', a0', a1', a2', a3', k0', k1', k2', b1', b2', hf', f1', f2', hv'⟩ := val_copy (seed := seed) hq ht' hc' e r1 r2'
      have a1q : t'.cols[ja]? = some ca := by rw [e3]; exact get_pre a1
      have ea : ja' = ja := uniq_get (cols_nodup T') a1' a1q (a2'.trans a2.symm)
      subst ea
      rw [a1q] at a1'
      cases a1'
      rw [a3] at a3'
      cases a3'
      obtain ⟨gq, hgq, g1, g2, m', g3⟩ := w k g k1
      have ek : k' = k := uniq_get (plan_nodup hq) k1' hgq (by rw [k2', g1, k2])
      subst ek
      rw [hgq] at k1'
      cases k1'
      have eb : jb' = jb := uniq_get (cols_nodup (tab_at hq hgq)) b1' (by rw [g3]; exact get_pre b1) (b2'.trans b2.symm)
      subst eb
      have i1 := ih i ja' t ca row ht a1 r1 r2 (by omega)
      rw [hf, hf'] at i1
      cases i1
      have hjb := lt_of_get b1
      have hgl := (tab_at hp k1).c2
      rw [hv, hv']
      exact ih k' jb' g cb f k1 b1 f1 f2 (by omega)
/-! ### wider plans that are plans -/
def WideT (t t' : Tab) : Prop := t'.name = t.name ∧ ∃ m, t'.cols = t.cols ++ m
theorem wide_names {l l' : List Tab} (h : Paired WideT l l') : l'.map Tab.name = l.map Tab.name := by
  induction h with
  | nil => rfl
  | cons a _ ih => rw [List.map_cons, List.map_cons, ih, a.1]
theorem wide_refl : ∀ l : List Tab, Paired WideT l l
  | [] => .nil
  | t :: l => .cons ⟨rfl, [], by simp⟩ (wide_refl l)
theorem wide_snoc {l l' : List Tab} {t t' : Tab} (h : Paired WideT l l') (q : WideT t t') : Paired WideT (l ++ [t]) (l' ++ [t']) := by
  induction h with
  | nil => exact .cons q .nil
  | cons a _ ih => exact .cons a ih
theorem wide_tabOf {l l' : List Tab} (h : Paired WideT l l') {x : Str} {tb : Tab} (e : tabOf l x = some tb) : ∃ tb', tabOf l' x = some tb' ∧ WideT tb tb' := by
  induction h with
  | nil => cases e
  | @cons a a' l l' r h ih =>
    unfold tabOf at e ih ⊢
    rw [List.find?_cons] at e ⊢
    rw [r.1]
    cases q : decide (a.name = x) with
    | true => rw [q] at e; cases e; exact ⟨a', rfl, r⟩
    | false => rw [q] at e; exact ih e
theorem ruleOk_wide {l l' : List Tab} (h : Paired WideT l l') {m : Int} {cols : List Col} {r : Rule} (e : ruleOk m l cols r = true) : ruleOk m l' cols r = true := by
  cases r with
  | link t => simp only [ruleOk] at e ⊢; rw [wide_names h]; exact e
  | copy a b =>
    simp only [ruleOk] at e ⊢
    unfold copyOk at e ⊢
    cases q : colOf cols a with
    | none => rw [q] at e; cases e
    | some ca =>
      rw [q] at e
      simp only at e ⊢
      cases er : ca.rule with
      | link x =>
        rw [er] at e
        simp only at e ⊢
        cases qt : tabOf l x with
        | none => rw [qt] at e; cases e
        | some tb =>
          rw [qt] at e
          simp only at e
          obtain ⟨tb', h1, _, m', h2⟩ := wide_tabOf h qt
          rw [h1]
          simp only
          rw [h2]
          unfold colOf at e ⊢
          rw [List.find?_append]
          cases qc : List.find? (fun c => decide (c.name = b)) tb.cols with
          | none => rw [qc] at e; cases e
          | some z => rfl
      | _ => rw [er] at e; cases e
  | _ => exact e
theorem colsWf_wide {l l' : List Tab} (h : Paired WideT l l') {m : Int} : ∀ (r acc : List Col), colsWf m l acc r = true → colsWf m l' acc r = true
  | [], _, _ => rfl
  | c :: r, acc, e => by
    simp only [colsWf, Bool.and_eq_true] at e ⊢
    exact ⟨⟨e.1.1, ruleOk_wide h e.1.2⟩, colsWf_wide h r _ e.2⟩
theorem tabWf_wide {l l' : List Tab} (h : Paired WideT l l') {t : Tab} (e : tabWf l t = true) : tabWf l' t = true := by
  simp only [tabWf, Bool.and_eq_true] at e ⊢
  refine ⟨⟨⟨⟨e.1.1.1.1, ?_⟩, e.1.1.2⟩, e.1.2⟩, colsWf_wide h _ _ e.2⟩
  rw [wide_names h]; exact e.1.1.1.2
theorem tabsWf_wide : ∀ (r : List Tab) {l l' : List Tab}, Paired WideT l l' → tabsWf l r = true → tabsWf l' r = true
  | [], _, _, _, _ => rfl
  | t :: r, l, l', h, e => by
    simp only [tabsWf, Bool.and_eq_true] at e ⊢
    exact ⟨tabWf_wide h e.1, tabsWf_wide r (wide_snoc h ⟨rfl, [], by simp⟩) e.2⟩
theorem tabsWf_append : ∀ (r s acc : List Tab), tabsWf acc (r ++ s) = (tabsWf acc r && tabsWf (acc ++ r) s)
  | [], s, acc => by simp [tabsWf]
  | t :: r, s, acc => by rw [List.cons_append, tabsWf, tabsWf_append r s, tabsWf]; simp [Bool.and_assoc]
def moreT (x : Str) : Tab := ⟨"more", 3, [⟨"l", .link x⟩, ⟨"n", .num 0 9⟩]⟩
theorem more_wf {t : Tab} (hp : planWf p = true) (h0 : p[0]? = some t) (hl : p.length < 4) (hn : ("more" : Str) ∉ p.map Tab.name) : planWf (p ++ [moreT t.name]) = true := by
  have hp' := hp
  simp only [planWf, Bool.and_eq_true, decide_eq_true_eq] at hp' ⊢
  refine ⟨⟨by simp, by simp; omega⟩, ?_⟩
  rw [tabsWf_snoc, hp'.2, List.nil_append]
  have hm : t.name ∈ p.map Tab.name := List.mem_map.mpr ⟨t, List.mem_of_getElem? h0, rfl⟩
  have w1 : wordB "more" 4 = true := by decide +kernel
  have w2 : wordB "l" 4 = true := by decide +kernel
  have w3 : wordB "n" 4 = true := by decide +kernel
  have w4 : ¬ (("n" : Str) = "l") := by decide +kernel
  simp only [tabWf, moreT, w1, colsWf, w2, w3, ruleOk, Bool.and_eq_true, Bool.not_eq_true', decide_eq_true_eq, decide_eq_false_iff_not, List.map_nil, List.map_cons, List.nil_append, List.not_mem_nil, List.mem_singleton, List.mem_cons, or_false, List.length_cons, List.length_nil]
  simp [hn, hm, w4]
theorem more_wider {t : Tab} : Wider p (p ++ [t]) := fun i t h => ⟨t, get_pre h, rfl, rfl, [], by simp⟩
def longT (t : Tab) : Tab := ⟨t.name, t.many, t.cols ++ [⟨"zz", .flag 50⟩]⟩
def longP (p : Plan) (i : Nat) (t : Tab) : Plan := p.take i ++ [longT t] ++ p.drop (i + 1)
theorem split_get {α : Type} {l : List α} {i : Nat} {a : α} (h : l[i]? = some a) : l = l.take i ++ [a] ++ l.drop (i + 1) := by
  have hi := lt_of_get h
  rw [List.getElem?_eq_getElem hi] at h
  rw [← Option.some.inj h, List.append_assoc, List.singleton_append, List.getElem_cons_drop, List.take_append_drop]
theorem long_wf (hp : planWf p = true) (ht : p[i]? = some t) (hl : t.cols.length < 5) (hz : ("zz" : Str) ∉ t.cols.map Col.name) : planWf (longP p i t) = true := by
  have T := tab_at hp ht
  have hi := lt_of_get ht
  have hp' := hp
  simp only [planWf, Bool.and_eq_true, decide_eq_true_eq] at hp' ⊢
  have hsp := hp'.2
  rw [split_get ht, tabsWf_append, tabsWf_append, List.nil_append, List.nil_append, Bool.and_eq_true, Bool.and_eq_true] at hsp
  refine ⟨by unfold longP; simp; omega, ?_⟩
  unfold longP
  rw [tabsWf_append, tabsWf_append, List.nil_append, List.nil_append, Bool.and_eq_true, Bool.and_eq_true]
  refine ⟨⟨hsp.1.1, ?_⟩, tabsWf_wide _ (wide_snoc (wide_refl _) (show WideT t (longT t) from ⟨rfl, _, rfl⟩)) hsp.2⟩
  have h1 := hsp.1.2
  simp only [tabsWf, tabWf, Bool.and_eq_true, decide_eq_true_eq, Bool.and_true] at h1 ⊢
  obtain ⟨⟨⟨⟨a1, a2⟩, a3⟩, a4⟩, a5⟩ := h1
  have w1 : wordB "zz" 4 = true := by decide +kernel
  refine ⟨⟨⟨⟨a1, a2⟩, a3⟩, by simp [longT], by simp [longT]; omega⟩, ?_⟩
  show colsWf t.many (p.take i) [] (t.cols ++ [⟨"zz", .flag 50⟩]) = true
  rw [colsWf_snoc, a5, w1, List.nil_append]
  simp only [ruleOk, Bool.true_and, Bool.and_eq_true, Bool.not_eq_true', decide_eq_false_iff_not, decide_eq_true_eq]
  exact ⟨hz, by decide, by decide⟩
theorem long_wider (ht : p[i]? = some t) : Wider p (longP p i t) := fun k s h => by
  have hi := lt_of_get ht
  have hk := lt_of_get h
  unfold longP
  by_cases q : k < i
  · refine ⟨s, ?_, rfl, rfl, [], by simp⟩
    rw [List.append_assoc, List.getElem?_append_left (by simp; omega), List.getElem?_take_of_lt q]; exact h
  · by_cases q2 : k = i
    · subst q2
      rw [ht] at h
      cases h
      refine ⟨longT t, ?_, rfl, rfl, _, rfl⟩
      rw [List.append_assoc, List.getElem?_append_right (by simp; omega)]
      simp [Nat.min_eq_left (Nat.le_of_lt hi)]
    · refine ⟨s, ?_, rfl, rfl, [], by simp⟩
      rw [List.getElem?_append_right (by simp; omega), List.getElem?_drop]
      rw [← h]
      congr 1
      simp
      omega
end
end RM

/-! SB: cells that are there in both; what has just been made. -/
namespace RM
open PySem PySem.Spec PyProof.Rows L2 VL
@[simp] theorem eMake_eq {C : Str} {m : List Dat → Res (List (Str × Dat))} {as : Env → Res (List Dat)} {ρ : Env} : eMake C m as ρ = (as ρ).bind fun ds => (m ds).bind fun fl => .ok (.ins C fl) := Eq.trans rfl rfl
theorem law_same_self {d : Dat} (h : flatV d = true) : m_law_same [d, d] = .ok (.bl true) := by
  rw [o_law_same]
  unfold b_law_same
  have e := eqD_self (flat_same h)
  have e2 : ∀ b, eqD (.bl b) (.bl b) = .ok (.bl true) := fun b => eqD_self rfl
  cases d with
  | bl b => simp [isi_bb, e, e2]
  | int n => simp [isi_ib, e2]
  | str s => simp [isi_sb, e2]
  | _ => cases h
section
variable {p q : Plan} {seed : Int} {i j : Nat} {t t' : Tab} {c : Col} {row : Int} {n : Nat}
theorem seq_row : seqD (rowD p seed i t row) = .ok (t.cols.zipIdx.map fun z => .str z.1.name) := by
  show Res.ok ((t.cols.zipIdx.map fun z => ((.inr z.1.name, val p seed i row z.2) : Key × Dat)).map fun kv => kD kv.1) = _
  rw [List.map_map]; rfl
theorem seq_tables : seqD (tablesD p seed) = .ok (p.zipIdx.map fun z => .str z.1.name) := by
  show Res.ok ((p.zipIdx.map fun z => ((.inr z.1.name, rowsD p seed z.2 z.1) : Key × Dat)).map fun kv => kD kv.1) = _
  rw [List.map_map]; rfl
def C3 : SEnv → SRes := (sIf [] (bNot (eTest (eCall allD (aCons (eLc (iSeq (eVar 3)) (.nm 5) bYes (eAnd (eBin inD (eVar 5) (eVar 4)) (eCall m_law_same (aCons (eBin ixD (eVar 3) (eVar 5)) (aCons (eBin ixD (eVar 4) (eVar 5)) aNil)))) [5]) aNil)))) (sRet [] (eC (.bl false))) sNext)
def C2 : SEnv → SRes := (sFor [] (iArg zipD (aCons (eBin ixD (eVar 0) (eVar 2)) (aCons (eBin ixD (eVar 1) (eVar 2)) aNil))) (.tp [(.nm 3), (.nm 4)]) C3)
theorem c3_step (hp : planWf p = true) (hq : planWf q = true) (w : Wider p q) (ht : p[i]? = some t) (ht' : q[i]? = some t') (hm : ∃ m, t'.cols = t.cols ++ m) (hn : n < t.many.toNat) (x0 x1 x2 x5 : Option Slot) :
    C3 [x0, x1, x2, some (.frz (rowD p seed i t (1 + (n : Int)))), some (.frz (rowD q seed i t' (1 + (n : Int)))), x5] = .next [x0, x1, x2, some (.frz (rowD p seed i t (1 + (n : Int)))), some (.frz (rowD q seed i t' (1 + (n : Int)))), x5] := by
  have T := tab_at hp ht
  have c2 := T.c2
  obtain ⟨m, hm⟩ := hm
  unfold C3
  refine sIf_end ?_
  have e : ∀ y0 y1 y2 y5 : Option Dat, eLc (iSeq (eVar 3)) (.nm 5) bYes (eAnd (eBin inD (eVar 5) (eVar 4)) (eCall m_law_same (aCons (eBin ixD (eVar 3) (eVar 5)) (aCons (eBin ixD (eVar 4) (eVar 5)) aNil)))) [5] [y0, y1, y2, some (rowD p seed i t (1 + (n : Int))), some (rowD q seed i t' (1 + (n : Int))), y5] = .ok (.lst ((t.cols.zipIdx.map fun _ => true).map Dat.bl)) := fun y0 y1 y2 y5 => by
    refine eLc_eq (ds := t.cols.zipIdx.map fun z => .str z.1.name) (by simp [seq_row]) (by simp; exact le_big (by omega)) ?_
    rw [List.map_map]
    refine lcD_all (x := fun z : Col × Nat => Dat.str z.1.name) (y := fun _ => Dat.bl true) _ fun z hz => ?_
    have hc := zip_get hz
    have hc' : t'.cols[z.2]? = some z.1 := by rw [hm]; exact get_pre hc
    have e1 := row_ix (seed := seed) (row := 1 + (n : Int)) hp ht hc
    have e2 := row_ix (seed := seed) (row := 1 + (n : Int)) hq ht' hc'
    have hz2 := lt_of_get hc
    have hi := lt_of_get ht
    have hpl := (plan_len hp).2
    rw [val_wider hp hq w 100 i z.2 t z.1 (1 + (n : Int)) ht hc (by omega) (by omega) (by omega)] at e2
    have fl := (val_eq (seed := seed) hp ht hc (row := 1 + (n : Int)) (by omega) (by omega)).2.2
    simp [wipeE, in_row (seed := seed) (row := 1 + (n : Int)) hq ht' hc', e1, e2, law_same_self fl]
  have e2 := allD_map (t.cols.zipIdx.map fun _ => true)
  rw [show (t.cols.zipIdx.map fun _ => true).all id = true by simp, List.map_map] at e2
  simp only [view_eq, viewF_cons, viewF_nil, viewAt_frz]
  rw [bNot_eq, eTest_eq, eCall_eq, aCons_eq, e]
  simp [e2]
theorem zip_rows (h : t'.many = t.many) : zipD [rowsD p seed i t, rowsD q seed i t'] = .ok ((List.range t.many.toNat).map fun (r : Nat) => .tup [rowD p seed i t (1 + (r : Int)), rowD q seed i t' (1 + (r : Int))]) := by
  show Res.ok (zipL (rowsL p seed i t t.many.toNat) (rowsL q seed i t' t'.many.toNat)) = _
  unfold zipL rowsL
  rw [h, List.zip_map']
  rw [List.map_map]
  rfl
theorem c2_step (hp : planWf p = true) (hq : planWf q = true) (w : Wider p q) (ht : p[i]? = some t) (x3 x4 x5 : Option Slot) : ∃ y3 y4,
    C2 [some (.frz (tablesD p seed)), some (.frz (tablesD q seed)), some (.frz (.str t.name)), x3, x4, x5] = .next [some (.frz (tablesD p seed)), some (.frz (tablesD q seed)), some (.frz (.str t.name)), y3, y4, x5] := by
  obtain ⟨t', ht', n1, n2, hm⟩ := w i t ht
  obtain ⟨ρ', e, y3, y4, rfl⟩ := forD_inv (p := .tp [(.nm 3), (.nm 4)]) (b := C3) (ds := (List.range t.many.toNat).map fun (r : Nat) => .tup [rowD p seed i t (1 + (r : Int)), rowD q seed i t' (1 + (r : Int))]) (ρ := [some (.frz (tablesD p seed)), some (.frz (tablesD q seed)), some (.frz (.str t.name)), x3, x4, x5])
    (fun _ ρ => ∃ y3 y4, ρ = [some (.frz (tablesD p seed)), some (.frz (tablesD q seed)), some (.frz (.str t.name)), y3, y4, x5]) ⟨x3, x4, rfl⟩ (fun k d ρ hd hI => by
      obtain ⟨y3, y4, rfl⟩ := hI
      rw [List.getElem?_map] at hd
      by_cases z : k < t.many.toNat
      · rw [List.getElem?_range z] at hd
        cases hd
        exact ⟨[(3, rowD p seed i t (1 + (k : Int))), (4, rowD q seed i t' (1 + (k : Int)))], _, by simp, c3_step (seed := seed) hp hq w ht ht' hm z _ _ _ x5, _, _, rfl⟩
      · rw [List.getElem?_eq_none (by simp; omega)] at hd; cases hd)
  refine ⟨y3, y4, ?_⟩
  unfold C2
  have e1 := tab_ix (seed := seed) hp ht
  have e2 := tab_ix (seed := seed) hq ht'
  rw [n1] at e2
  exact Eq.trans (by simp [e1, e2, zip_rows n2]) e
theorem shared_cells_ok (hp : planWf p = true) (hq : planWf q = true) (w : Wider p q) : m_law_shared_cells [tablesD p seed, tablesD q seed] = .ok (.bl true) := by
  rw [o_law_shared_cells]
  obtain ⟨ρ', e, y2, y3, y4, rfl⟩ := forD_inv (p := .nm 2) (b := C2) (ds := p.zipIdx.map fun z => .str z.1.name) (ρ := [some (.frz (tablesD p seed)), some (.frz (tablesD q seed)), none, none, none, none])
    (fun _ ρ => ∃ y2 y3 y4, ρ = [some (.frz (tablesD p seed)), some (.frz (tablesD q seed)), y2, y3, y4, none]) ⟨none, none, none, rfl⟩ (fun k d ρ hd hI => by
      obtain ⟨y2, y3, y4, rfl⟩ := hI
      rw [List.getElem?_map, List.getElem?_zipIdx] at hd
      cases ht : p[k]? with
      | none => rw [ht] at hd; cases hd
      | some t =>
        rw [ht] at hd
        cases hd
        obtain ⟨z3, z4, hz⟩ := c2_step (seed := seed) hp hq w ht y3 y4 none
        exact ⟨[(2, .str t.name)], _, bindU_nm, hz, _, _, _, rfl⟩)
  unfold b_law_shared_cells
  unfold C2 C3 at e
  simp [seq_tables, e]
/-! ### what has just been made -/
theorem mem_subsL {e : Dat} : ∀ {l : List Dat}, e ∈ subsL l → ∃ d ∈ l, e ∈ subs d
  | [], h => by simp [subsL] at h
  | d :: l, h => by
    rw [subsL, List.mem_append] at h
    rcases h with h | h
    · exact ⟨d, List.mem_cons_self, h⟩
    · obtain ⟨d', h1, h2⟩ := mem_subsL h
      exact ⟨d', List.mem_cons_of_mem _ h1, h2⟩
theorem mem_subsK {e : Dat} : ∀ {l : List (Key × Dat)}, e ∈ subsK l → ∃ kv ∈ l, e ∈ subs kv.2
  | [], h => by simp [subsK] at h
  | (k, d) :: l, h => by
    rw [subsK, List.mem_append] at h
    rcases h with h | h
    · exact ⟨(k, d), List.mem_cons_self, h⟩
    · obtain ⟨d', h1, h2⟩ := mem_subsK h
      exact ⟨d', List.mem_cons_of_mem _ h1, h2⟩
/-- neither a list nor a dict -/
def plainE : Dat → Bool
  | .tup _ => true
  | .int _ => true
  | .str _ => true
  | .ins _ _ => true
  | _ => false
theorem rule_subs (r : Rule) : ∀ e ∈ subs r.dat, plainE e = true := by
  intro e he
  cases r with
  | pick os =>
    simp only [Rule.dat, Rule.kind, Rule.args, subs, subsL, List.mem_cons, List.mem_append, List.append_nil, List.not_mem_nil, or_false, List.nil_append] at he
    rcases he with rfl | rfl | rfl | he
    · rfl
    · rfl
    · rfl
    · obtain ⟨d, hd, he⟩ := mem_subsL he
      obtain ⟨o, _, rfl⟩ := List.mem_map.mp hd
      simp only [optD, subs, subsL, List.mem_cons, List.append_nil, List.nil_append, List.cons_append, List.not_mem_nil, or_false] at he
      rcases he with rfl | rfl | rfl <;> rfl
  | _ =>
    simp only [Rule.dat, Rule.kind, Rule.args, subs, subsL, List.mem_cons, List.mem_append, List.append_nil, List.nil_append, List.cons_append, List.not_mem_nil, or_false] at he
    first
      | (rcases he with rfl | rfl | rfl | rfl <;> rfl)
      | (rcases he with rfl | rfl | rfl <;> rfl)
def okE (p : Plan) (e : Dat) : Prop := (∃ x xs, e = .lst (.tup x :: xs)) ∨ e = .dct (placesL 0 p) ∨ plainE e = true
theorem cols_subs (h : 1 ≤ t.cols.length) : ∀ e ∈ subs (.lst (t.cols.map Col.dat)), okE p e := by
  intro e he
  rw [subs, List.mem_cons] at he
  rcases he with rfl | he
  · refine .inl ?_
    cases hc : t.cols with
    | nil => rw [hc] at h; simp at h
    | cons c r => exact ⟨_, _, rfl⟩
  · refine .inr (.inr ?_)
    obtain ⟨d, hd, he⟩ := mem_subsL he
    obtain ⟨c, _, rfl⟩ := List.mem_map.mp hd
    simp only [Col.dat, subs, subsL, List.mem_cons, List.mem_append, List.append_nil, List.cons_append, List.nil_append] at he
    rcases he with rfl | rfl | he
    · rfl
    · rfl
    · exact rule_subs _ e he
theorem places_ints : ∀ (p : Plan) (n : Nat), ∀ kv ∈ placesL n p, ∃ i, kv.2 = .int i
  | [], _, kv, h => by simp [placesL] at h
  | t :: r, n, kv, h => by
    unfold placesL at h
    rcases List.mem_cons.mp h with rfl | h
    · exact ⟨_, rfl⟩
    · exact places_ints r (n + 1) kv h
theorem world_subs (hp : planWf p = true) : ∀ e ∈ subs (worldD p seed), okE p e := by
  intro e he
  have hl := (plan_len hp).1
  unfold worldD at he
  rw [subs, List.mem_cons] at he
  rcases he with rfl | he
  · exact .inr (.inr rfl)
  · simp only [subsF, List.mem_append, List.append_nil] at he
    rcases he with he | he | he
    · unfold planD at he
      rw [subs, List.mem_cons] at he
      rcases he with rfl | he
      · refine .inl ?_
        cases hc : p with
        | nil => rw [hc] at hl; simp at hl
        | cons c r => exact ⟨_, _, rfl⟩
      · obtain ⟨d, hd, he⟩ := mem_subsL he
        obtain ⟨t, ht, rfl⟩ := List.mem_map.mp hd
        obtain ⟨i, hi⟩ := List.getElem?_of_mem ht
        have T := tab_at hp hi
        unfold Tab.dat at he
        rw [subs, List.mem_cons] at he
        rcases he with rfl | he
        · exact .inr (.inr rfl)
        · simp only [subsL, List.mem_append, List.append_nil] at he
          rcases he with he | he | he
          · simp only [subs, List.mem_singleton] at he; subst he; exact .inr (.inr rfl)
          · simp only [subs, List.mem_singleton] at he; subst he; exact .inr (.inr rfl)
          · exact cols_subs T.c1 e he
    · simp only [subs, List.mem_singleton] at he; subst he; exact .inr (.inr rfl)
    · rw [subs, List.mem_cons] at he
      rcases he with rfl | he
      · exact .inr (.inl rfl)
      · obtain ⟨kv, hk, he⟩ := mem_subsK he
        obtain ⟨i, hi⟩ := places_ints p 0 kv hk
        rw [hi] at he
        simp only [subs, List.mem_singleton] at he; subst he; exact .inr (.inr rfl)
theorem world_new {d : Dat} (hp : planWf p = true) (h1 : ∀ x xs, clash d (.lst (.tup x :: xs)) = false) (h2 : clash d (.dct (placesL 0 p)) = false) (h3 : ∀ e, plainE e = true → clash d e = false) : ((subs (worldD p seed)).all fun s => !clash d s) = true := by
  rw [List.all_eq_true]
  intro e he
  rcases world_subs hp e he with ⟨x, xs, rfl⟩ | rfl | q
  · rw [h1]; rfl
  · rw [h2]; rfl
  · rw [h3 e q]; rfl
theorem plain_lst0 {d : Dat} {r : List Dat} (e : Dat) (h : plainE e = true) : clash (.lst (d :: r)) e = false := by
  cases e with
  | lst _ => cases h
  | rls _ => cases h
  | opq _ => cases h
  | _ => cases d <;> rfl
theorem plain_dct0 {ks : List (Key × Dat)} (e : Dat) (h : plainE e = true) : clash (.dct ks) e = false := by
  cases e with
  | dct _ => cases h
  | rls _ => cases h
  | opq _ => cases h
  | _ => rfl
theorem new_rows (hp : planWf p = true) {ks : List (Key × Dat)} {r : List Dat} : ((subs (worldD p seed)).all fun s => !clash (.lst (.dct ks :: r)) s) = true := world_new hp (fun _ _ => rfl) rfl plain_lst0
theorem new_strs (hp : planWf p = true) {s : Str} {r : List Dat} : ((subs (worldD p seed)).all fun z => !clash (.lst (.str s :: r)) z) = true := world_new hp (fun _ _ => rfl) rfl plain_lst0
theorem new_row (hp : planWf p = true) (h : (.inr "one" : Key) ∉ (t.cols.map fun c => (.inr c.name : Key))) (h0 : ∃ t0 r, p = t0 :: r ∧ t0.name = "one") : ((subs (worldD p seed)).all fun s => !clash (rowD p seed i t row) s) = true := by
  refine world_new hp (fun _ _ => rfl) ?_ plain_dct0
  show decide _ = false
  rw [decide_eq_false_iff_not]
  intro e
  obtain ⟨t0, r, rfl, hn⟩ := h0
  refine h ?_
  have : (.inr "one" : Key) ∈ ((t.cols.zipIdx.map fun z => ((.inr z.1.name, val (t0 :: r) seed i row z.2) : Key × Dat)).map Prod.fst) := by
    rw [e]
    unfold placesL
    rw [hn]
    exact List.mem_cons_self
  rw [List.map_map] at this
  have e2 : (t.cols.zipIdx.map (Prod.fst ∘ fun z => ((.inr z.1.name, val (t0 :: r) seed i row z.2) : Key × Dat))) = t.cols.map fun c => (.inr c.name : Key) := zip_map (fun c : Col => (.inr c.name : Key)) t.cols
  rw [e2] at this
  exact this
end
end RM

/-! SC: k32's law (printed by a program from the mirrors, proofs by hand). -/
namespace RM
open PySem PySem.Spec PyProof.Rows L2 VL
theorem viewUF_no {us : List Nat} {n : Nat} {x : Option Slot} {r : SEnv} (h : n ∉ us) : viewUF us n (x :: r) = none :: viewUF us (n + 1) r := by
  cases x with
  | none => rfl
  | some s => cases s with
    | frz d => rw [viewUF, if_neg h]
    | own d => rfl
theorem viewUF_yes {us : List Nat} {n : Nat} {d : Dat} {r : SEnv} (h : n ∈ us) : viewUF us n (some (.frz d) :: r) = some d :: viewUF us (n + 1) r := by rw [viewUF, if_pos h]
theorem viewUF_nil {us : List Nat} {n : Nat} : viewUF us n [] = [] := rfl
theorem sSpoil_step {us : List Nat} {f : VL.Env → Res Dat} {ρ : SEnv} {b : SEnv → SRes} {d : Dat} (h : f (viewUF us 0 ρ) = .ok d) (hn : newIn (viewUF us 0 ρ) d = true) : sSeq (sSpoil us f) b ρ = b ρ := by
  refine sSeq_step ?_
  unfold sSpoil
  rw [h]
  simp only [hn, if_true]
theorem sSpoilA_step {us : List Nat} {f : VL.Env → Res Dat} {ρ : SEnv} {b : SEnv → SRes} {ds : List Dat} (h : f (viewUF us 0 ρ) = .ok (.lst ds)) (hn : newIn (viewUF us 0 ρ) (.lst ds) = true) (hl : ds.length ≤ 1000) : sSeq (sSpoilA us f) b ρ = b ρ := by
  refine sSeq_step ?_
  unfold sSpoilA
  rw [h]
  simp only [hn, hl, and_self, if_true]
theorem sIf_go {c : VL.Env → Res Bool} {a b : SEnv → SRes} {ρ : SEnv} (h : c (view [] ρ) = .ok true) : sIf [] c a b ρ = a ρ := by
  rw [sIf_eq, h]; rfl
section
variable {p q : Plan} {seed : Int} {i j : Nat} {t t' : Tab} {c : Col} {row : Int} {n : Nat} {more : Int}
def A5 : SEnv → SRes := (sIf [] (eTest (eBin ltD (eCall lenD (aCons (eVar 3) aNil)) (eC (.int 4)))) (sSeq (sSet 9 [] (eBin addD (eVar 3) (eLst (aCons (eTup (aCons (eC (.str "more")) (aCons (eC (.int 3)) (aCons (eLst (aCons (eTup (aCons (eC (.str "l")) (aCons (eTup (aCons (eC (.str "link")) (aCons (eBin ixD (eBin ixD (eVar 3) (eC (.int 0))) (eC (.int 0))) aNil))) aNil))) (aCons (eTup (aCons (eC (.str "n")) (aCons (eTup (aCons (eC (.str "num")) (aCons (eC (.int 0)) (aCons (eC (.int 9)) aNil)))) aNil))) aNil))) aNil)))) aNil)))) (sIf [] (bNot (eTest (eCall m_law_shared_cells (aCons (eVar 6) (aCons (eMet "World" "tables" m_World_tables (eMake "World" m_World___init (aCons (eVar 9) (aCons (eVar 4) aNil))) aNil) aNil))))) (sRet [] (eC (.bl false))) sNext)) sNext)
theorem a5_step (hp : planWf p = true) (hs : 0 ≤ seed ∧ seed ≤ 999999) (hnm : p.map Tab.name = (List.range p.length).map tname4) (x0 x1 x7 x8 x9 x10 x11 x12 x13 x14 x15 : Option Slot) : ∃ y9,
    A5 [x0, x1, some (.frz (.int more)), some (.frz (planD p)), some (.frz (.int seed)), some (.frz (worldD p seed)), some (.frz (tablesD p seed)), x7, x8, x9, x10, x11, x12, x13, x14, x15] = .next [x0, x1, some (.frz (.int more)), some (.frz (planD p)), some (.frz (.int seed)), some (.frz (worldD p seed)), some (.frz (tablesD p seed)), x7, x8, y9, x10, x11, x12, x13, x14, x15] := by
  have hl := plan_len hp
  obtain ⟨t, ht⟩ : ∃ t, p[0]? = some t := ⟨p[0]'(by omega), by simp⟩
  have p0 : ixD (planD p) (.int 0) = .ok t.dat := plan_ix (i := 0) ht
  have i0 : ixD t.dat (.int 0) = .ok (.str t.name) := by simp [Tab.dat]
  unfold A5
  by_cases q4 : p.length < 4
  · have hmn : ("more" : Str) ∉ p.map Tab.name := by
      rw [hnm]
      intro h
      obtain ⟨k, hk, e⟩ := List.mem_map.mp h
      have := List.mem_range.mp hk
      have : k = 0 ∨ k = 1 ∨ k = 2 ∨ k = 3 := by omega
      rcases this with rfl | rfl | rfl | rfl <;> exact absurd e (by decide +kernel)
    have hq := more_wf hp ht q4 hmn
    have ini := init_eq hq hs
    have sh := shared_cells_ok (seed := seed) hp hq more_wider
    have ad : addD (planD p) (.lst [(moreT t.name).dat]) = .ok (planD (p ++ [moreT t.name])) := by
      show (if (p.map Tab.dat).length + 1 ≤ big then Res.ok (Dat.lst (p.map Tab.dat ++ [(moreT t.name).dat])) else .stuck) = _
      rw [if_pos (le_big (by simp; omega))]
      unfold planD
      rw [List.map_append]; rfl
    have ad' : addD (planD p) (.lst [.tup [.str "more", .int 3, .lst [.tup [.str "l", .tup [.str "link", .str t.name]], .tup [.str "n", .tup [.str "num", .int 0, .int 9]]]]]) = .ok (planD (p ++ [moreT t.name])) := ad
    have q4' : ((p.length : Nat) : Int) < 4 := by omega
    refine ⟨some (.frz (planD (p ++ [moreT t.name]))), ?_⟩
    rw [sIf_go (by simp [q4'])]
    rw [sSet_step (d := planD (p ++ [moreT t.name])) (by simp [p0, i0, ad'])]
    simp only [List.set_cons_succ, List.set_cons_zero]
    exact sIf_end (by simp [ini, show Dat.ins "World" [("plan", planD (p ++ [moreT t.name])), ("seed", .int seed), ("places", .dct (placesL 0 (p ++ [moreT t.name])))] = worldD (p ++ [moreT t.name]) seed from rfl, tables_eq hq, sh])
  · have q4' : ¬ ((p.length : Nat) : Int) < 4 := by omega
    exact ⟨x9, sIf_end (by simp [q4'])⟩
def A8 : SEnv → SRes := (sIf [] (eTest (eBin ltD (eCall lenD (aCons (eVar 12) aNil)) (eC (.int 5)))) (sSeq (sSet 13 [] (eBin addD (eBin addD (eSl (eVar 3) oNone (oSome (eVar 7))) (eLst (aCons (eTup (aCons (eVar 10) (aCons (eVar 11) (aCons (eBin addD (eVar 12) (eLst (aCons (eTup (aCons (eC (.str "zz")) (aCons (eTup (aCons (eC (.str "flag")) (aCons (eC (.int 50)) aNil))) aNil))) aNil))) aNil)))) aNil))) (eSl (eVar 3) (oSome (eBin addD (eVar 7) (eC (.int 1)))) oNone))) (sSeq (sSet 9 [] (eMet "World" "tables" m_World_tables (eMake "World" m_World___init (aCons (eVar 13) (aCons (eVar 4) aNil))) aNil)) (sIf [] (bOr (bNot (eTest (eCall m_law_shared_cells (aCons (eVar 6) (aCons (eVar 9) aNil))))) (eTest (eBin neE (eCall m_faults (aCons (eVar 13) (aCons (eVar 9) aNil))) (eLst aNil)))) (sRet [] (eC (.bl false))) sNext))) sNext)
theorem a8_step (hp : planWf p = true) (hs : 0 ≤ seed ∧ seed ≤ 999999) (ht : p[i]? = some t) (hcn : t.cols.map Col.name = (List.range t.cols.length).map cname) (x0 x1 x8 x9 x13 x14 x15 : Option Slot) : ∃ y9 y13,
    A8 [x0, x1, some (.frz (.int more)), some (.frz (planD p)), some (.frz (.int seed)), some (.frz (worldD p seed)), some (.frz (tablesD p seed)), some (.frz (.int (i : Int))), x8, x9, some (.frz (.str t.name)), some (.frz (.int t.many)), some (.frz (.lst (t.cols.map Col.dat))), x13, x14, x15] = .next [x0, x1, some (.frz (.int more)), some (.frz (planD p)), some (.frz (.int seed)), some (.frz (worldD p seed)), some (.frz (tablesD p seed)), some (.frz (.int (i : Int))), x8, y9, some (.frz (.str t.name)), some (.frz (.int t.many)), some (.frz (.lst (t.cols.map Col.dat))), y13, x14, x15] := by
  have T := tab_at hp ht
  have c2 := T.c2
  have hl := plan_len hp
  have hi := lt_of_get ht
  unfold A8
  by_cases q4 : t.cols.length < 5
  · have hz : ("zz" : Str) ∉ t.cols.map Col.name := by
      rw [hcn]
      intro h
      obtain ⟨k, hk, e⟩ := List.mem_map.mp h
      have := List.mem_range.mp hk
      have : k = 0 ∨ k = 1 ∨ k = 2 ∨ k = 3 ∨ k = 4 := by omega
      rcases this with rfl | rfl | rfl | rfl | rfl <;> exact absurd e (by decide +kernel)
    have hq := long_wf hp ht q4 hz
    have ini := init_eq hq hs
    have sh := shared_cells_ok (seed := seed) hp hq (long_wider ht)
    have ft := faults_eq (seed := seed) hq
    have n6 : neE (.lst []) (.lst []) = .ok (.bl false) := neE_same (by decide +kernel)
    have s1 : slD (planD p) none (some (i : Int)) = .ok (.lst ((p.take i).map Tab.dat)) := by
      show Res.ok (Dat.lst (VL.cutD (p.map Tab.dat) none (some (i : Int)))) = _
      unfold VL.cutD
      rw [HT.sIx_nat]
      show Res.ok (Dat.lst (((p.map Tab.dat).drop 0).take (min i (p.map Tab.dat).length - 0))) = _
      rw [List.drop_zero, List.length_map, Nat.sub_zero, Nat.min_eq_left (by omega), List.map_take]
    have s2 : slD (planD p) (some ((i : Int) + 1)) none = .ok (.lst ((p.drop (i + 1)).map Tab.dat)) := by
      show Res.ok (Dat.lst (VL.cutD (p.map Tab.dat) (some ((i : Int) + 1)) none)) = _
      unfold VL.cutD
      rw [show (i : Int) + 1 = ((i + 1 : Nat) : Int) by omega, HT.sIx_nat]
      show Res.ok (Dat.lst (((p.map Tab.dat).drop (min (i + 1) (p.map Tab.dat).length)).take ((p.map Tab.dat).length - min (i + 1) (p.map Tab.dat).length))) = _
      rw [List.length_map, Nat.min_eq_left (by omega), List.map_drop, List.take_of_length_le (by simp)]
    have ac : addD (.lst (t.cols.map Col.dat)) (.lst [.tup [.str "zz", .tup [.str "flag", .int 50]]]) = .ok (.lst ((longT t).cols.map Col.dat)) := by
      show (if (t.cols.map Col.dat).length + 1 ≤ big then Res.ok (Dat.lst (t.cols.map Col.dat ++ [.tup [.str "zz", .tup [.str "flag", .int 50]]])) else .stuck) = _
      rw [if_pos (le_big (by simp; omega))]
      unfold longT
      rw [List.map_append]; rfl
    have a1 : addD (.lst ((p.take i).map Tab.dat)) (.lst [.tup [.str t.name, .int t.many, .lst ((longT t).cols.map Col.dat)]]) = .ok (.lst ((p.take i ++ [longT t]).map Tab.dat)) := by
      show (if ((p.take i).map Tab.dat).length + 1 ≤ big then Res.ok (Dat.lst ((p.take i).map Tab.dat ++ [.tup [.str t.name, .int t.many, .lst ((longT t).cols.map Col.dat)]])) else .stuck) = _
      rw [if_pos (le_big (by simp; omega)), List.map_append]; rfl
    have a2 : addD (.lst ((p.take i ++ [longT t]).map Tab.dat)) (.lst ((p.drop (i + 1)).map Tab.dat)) = .ok (planD (longP p i t)) := by
      show (if ((p.take i ++ [longT t]).map Tab.dat).length + ((p.drop (i + 1)).map Tab.dat).length ≤ big then Res.ok (Dat.lst ((p.take i ++ [longT t]).map Tab.dat ++ (p.drop (i + 1)).map Tab.dat)) else .stuck) = _
      rw [if_pos (le_big (by simp; omega)), ← List.map_append]; rfl
    have q4' : ((t.cols.length : Nat) : Int) < 5 := by omega
    refine ⟨some (.frz (tablesD (longP p i t) seed)), some (.frz (planD (longP p i t))), ?_⟩
    rw [sIf_go (by simp [q4'])]
    have hw : Dat.ins "World" [("plan", planD (longP p i t)), ("seed", .int seed), ("places", .dct (placesL 0 (longP p i t)))] = worldD (longP p i t) seed := rfl
    generalize hL : (Dat.lst ((longT t).cols.map Col.dat)) = LC at ac a1
    generalize hA : (Dat.lst ((p.take i ++ [longT t]).map Tab.dat)) = LA at a1 a2
    generalize (Dat.lst ((p.take i).map Tab.dat)) = LT at s1 a1
    generalize (Dat.lst ((p.drop (i + 1)).map Tab.dat)) = LD at s2 a2
    rw [sSet_step (d := planD (longP p i t)) (by simp [s1, s2, ac, a1, a2])]
    simp only [List.set_cons_succ, List.set_cons_zero]
    rw [sSet_step (d := tablesD (longP p i t) seed) (by simp [ini, hw, tables_eq hq])]
    simp only [List.set_cons_succ, List.set_cons_zero]
    exact sIf_end (by simp [sh, ft, n6])
  · have q4' : ¬ ((t.cols.length : Nat) : Int) < 5 := by omega
    exact ⟨x9, x13, sIf_end (by simp [q4'])⟩
def R3 : SEnv → SRes := (sIf [] (bNot (eTest (eCall m_law_same (aCons (eMet "World" "cell" m_World_cell (eVar 5) (aCons (eVar 10) (aCons (eVar 8) (aCons (eVar 14) aNil)))) (aCons (eBin ixD (eBin ixD (eBin ixD (eVar 6) (eVar 10)) (eBin subD (eVar 8) (eC (.int 1)))) (eVar 14)) aNil))))) (sRet [] (eC (.bl false))) sNext)
def R2 : SEnv → SRes := (sSeq (sIf [] (bOr (eTest (eBin neE (eMet "World" "row" m_World_row (eVar 5) (aCons (eVar 10) (aCons (eVar 8) aNil))) (eBin ixD (eBin ixD (eVar 6) (eVar 10)) (eBin subD (eVar 8) (eC (.int 1)))))) (eTest (eBin neE (eBin ixD (eMet "World" "rows" m_World_rows (eVar 5) (aCons (eVar 10) aNil)) (eBin subD (eVar 8) (eC (.int 1)))) (eBin ixD (eBin ixD (eVar 6) (eVar 10)) (eBin subD (eVar 8) (eC (.int 1))))))) (sRet [] (eC (.bl false))) sNext) (sFor [] (iSeq (eMet "World" "columns" m_World_columns (eVar 5) (aCons (eVar 10) aNil))) (.nm 14) R3))
theorem r2_step (hp : planWf p = true) (ht : p[i]? = some t) (r1 : 1 ≤ row) (r2 : row ≤ t.many) (x0 x1 x7 x9 x11 x12 x13 x14 x15 : Option Slot) : ∃ y14,
    R2 [x0, x1, some (.frz (.int more)), some (.frz (planD p)), some (.frz (.int seed)), some (.frz (worldD p seed)), some (.frz (tablesD p seed)), x7, some (.frz (.int row)), x9, some (.frz (.str t.name)), x11, x12, x13, x14, x15] = .next [x0, x1, some (.frz (.int more)), some (.frz (planD p)), some (.frz (.int seed)), some (.frz (worldD p seed)), some (.frz (tablesD p seed)), x7, some (.frz (.int row)), x9, some (.frz (.str t.name)), x11, x12, x13, y14, x15] := by
  have e1 := row_eq (seed := seed) hp ht r1 r2
  have e2 := tab_ix (seed := seed) hp ht
  have e3 := rows_ix (p := p) (seed := seed) (i := i) r1 r2
  have e4 := rows_eq (seed := seed) hp ht
  have e5 := columns_eq (seed := seed) hp ht
  have n1 := neE_self (eq_row (seed := seed) hp ht r1 r2 (n := 6))
  obtain ⟨ρ', e, y14, rfl⟩ := forD_inv (p := .nm 14) (b := R3) (ds := t.cols.map fun c => .str c.name) (ρ := [x0, x1, some (.frz (.int more)), some (.frz (planD p)), some (.frz (.int seed)), some (.frz (worldD p seed)), some (.frz (tablesD p seed)), x7, some (.frz (.int row)), x9, some (.frz (.str t.name)), x11, x12, x13, x14, x15])
    (fun _ ρ => ∃ y14, ρ = [x0, x1, some (.frz (.int more)), some (.frz (planD p)), some (.frz (.int seed)), some (.frz (worldD p seed)), some (.frz (tablesD p seed)), x7, some (.frz (.int row)), x9, some (.frz (.str t.name)), x11, x12, x13, y14, x15]) ⟨x14, rfl⟩ (fun k d ρ hd hI => by
      obtain ⟨y14, rfl⟩ := hI
      rw [List.getElem?_map] at hd
      cases hc : t.cols[k]? with
      | none => rw [hc] at hd; cases hd
      | some c =>
        rw [hc] at hd
        cases hd
        refine ⟨[(14, .str c.name)], _, bindU_nm, ?_, some (.frz (.str c.name)), rfl⟩
        have f1 := cell_eq (seed := seed) hp ht hc r1 r2
        have f2 := row_ix (seed := seed) (row := row) hp ht hc
        have f3 := law_same_self (val_eq (seed := seed) hp ht hc r1 r2).2.2
        unfold R3
        simp only [setS_cons, setS_nil, List.set_cons_succ, List.set_cons_zero]
        exact sIf_end (by simp [f1, e2, e3, f2, f3]))
  refine ⟨y14, ?_⟩
  unfold R2
  rw [sIf_no (by simp [e1, e2, e3, e4, n1])]
  exact Eq.trans (by simp [e5]) e
theorem r1_loop (hp : planWf p = true) (ht : p[i]? = some t) (x0 x1 x7 x8 x9 x11 x12 x13 x14 x15 : Option Slot) : ∃ y8 y14,
    forD (.nm 8) R2 (rangeL 1 (t.many + 1)) [x0, x1, some (.frz (.int more)), some (.frz (planD p)), some (.frz (.int seed)), some (.frz (worldD p seed)), some (.frz (tablesD p seed)), x7, x8, x9, some (.frz (.str t.name)), x11, x12, x13, x14, x15] = .next [x0, x1, some (.frz (.int more)), some (.frz (planD p)), some (.frz (.int seed)), some (.frz (worldD p seed)), some (.frz (tablesD p seed)), x7, y8, x9, some (.frz (.str t.name)), x11, x12, x13, y14, x15] := by
  have m1 := (tab_at hp ht).m1
  obtain ⟨ρ', e, y8, y14, rfl⟩ := forD_inv (p := .nm 8) (b := R2) (ds := rangeL 1 (t.many + 1)) (ρ := [x0, x1, some (.frz (.int more)), some (.frz (planD p)), some (.frz (.int seed)), some (.frz (worldD p seed)), some (.frz (tablesD p seed)), x7, x8, x9, some (.frz (.str t.name)), x11, x12, x13, x14, x15])
    (fun _ ρ => ∃ y8 y14, ρ = [x0, x1, some (.frz (.int more)), some (.frz (planD p)), some (.frz (.int seed)), some (.frz (worldD p seed)), some (.frz (tablesD p seed)), x7, y8, x9, some (.frz (.str t.name)), x11, x12, x13, y14, x15]) ⟨x8, x14, rfl⟩ (fun k d ρ hd hI => by
      obtain ⟨y8, y14, rfl⟩ := hI
      rw [rangeL_get] at hd
      by_cases z : k < (t.many + 1 - 1).toNat
      · rw [if_pos z] at hd
        cases hd
        obtain ⟨z14, hz⟩ := r2_step (seed := seed) (more := more) hp ht (row := 1 + (k : Int)) (by omega) (by omega) x0 x1 x7 x9 x11 x12 x13 y14 x15
        exact ⟨[(8, .int (1 + (k : Int)))], _, bindU_nm, hz, _, _, rfl⟩
      · rw [if_neg z] at hd; cases hd)
  exact ⟨y8, y14, e⟩
end
end RM

/-! SD: k32's law. -/
namespace RM
open PySem PySem.Spec PyProof.Rows L2 VL
theorem new_two {ρ : VL.Env} {w : Dat} {s : Str} {d : Dat} (hρ : ρ = [none, none, none, none, none, some w, none, none, none, none, some (.str s), none, none, none, none, none]) (hd : isLD d = true) (hs : clash d (.str s) = false) (h : ((subs w).all fun z => !clash d z) = true) : newIn ρ d = true := by
  subst hρ
  simp [newIn, hd, subs, hs]
  simpa using h
theorem new_one {ρ : VL.Env} {w : Dat} {d : Dat} (hρ : ρ = [none, none, none, none, none, some w, none, none, none, none, none, none, none, none, none, none]) (hd : isLD d = true) (h : ((subs w).all fun z => !clash d z) = true) : newIn ρ d = true := by
  subst hρ
  simp [newIn, hd]
  simpa using h
theorem body_ok (ns : List Int) (hn : ns.length ≤ 63) (k : Nat) (x2 x3 x4 x5 x6 x7 x8 x9 x10 x11 x12 x13 x14 x15 : Option Slot) :
    ∃ y2 y3 y4 y5 y6 y7 y8 y9 y10 y11 y12 y13 y14 y15, L1_law [some (.frz (.rls (ns.map Dat.int))), some (.frz (.int (k : Int))), x2, x3, x4, x5, x6, x7, x8, x9, x10, x11, x12, x13, x14, x15] = .next [some (.frz (.rls (ns.map Dat.int))), some (.frz (.int (k : Int))), y2, y3, y4, y5, y6, y7, y8, y9, y10, y11, y12, y13, y14, y15] := by
  obtain ⟨c, hc⟩ := law_cell_ok ns hn k
  have hd := drI_bd c k
  generalize hm : drI c k = more at hd
  have hdr : m_law_drawn [.int c, .int (k : Int)] = .ok (.int more) := by rw [law_drawn_eq, hm]
  have f8 := fdivD_int (i := more) (j := 8) (by decide) (by decide)
  have f64 := fdivD_int (i := more) (j := 64) (by decide) (by decide)
  have f20 := fdivD_int (i := more) (j := 1048576) (by decide) (by decide)
  have m2 := modD_int (i := more) (j := 2) (by decide)
  have m1e6 := modD_int (i := more / 64) (j := 1000000) (by decide)
  obtain ⟨most, hmo, hmo2⟩ := pick2 4 12 (more % 2) (by omega) (by omega)
  obtain ⟨p, hpl, hp, hnm, hcn⟩ := law_plan_full (more / 8) most (by omega) (by omega)
  have hs : 0 ≤ more / 64 % 1000000 ∧ more / 64 % 1000000 ≤ 999999 := by omega
  have ini := init_eq hp hs
  generalize more / 64 % 1000000 = seed at hs ini m1e6
  have hl := plan_len hp
  have mL := modD_int (i := more / 1048576) (j := ((p.length : Nat) : Int)) (by omega)
  obtain ⟨i, t, hi, ht⟩ := mod_get hl.1 (more / 1048576)
  rw [hi] at mL
  have T := tab_at hp ht
  have tm1 := T.m1
  have tc1 := T.c1
  have tc2 := T.c2
  have hct := (hcn t (List.mem_of_getElem? ht)).2
  obtain ⟨t0, rest, hp0⟩ : ∃ t0 rest, p = t0 :: rest := by
    cases p with
    | nil => simp at hl
    | cons a b => exact ⟨a, b, rfl⟩
  have hone : t0.name = "one" := by
    have : (p.map Tab.name)[0]? = some t0.name := by rw [hp0]; rfl
    rw [hnm] at this
    rw [List.getElem?_map, List.getElem?_range (by omega)] at this
    exact (Option.some.inj this).symm
  have hkey : (.inr "one" : Key) ∉ (t.cols.map fun c => (.inr c.name : Key)) := by
    intro h
    obtain ⟨c, hc, e⟩ := List.mem_map.mp h
    have e' : c.name = "one" := Sum.inr.inj e
    have : c.name ∈ t.cols.map Col.name := List.mem_map.mpr ⟨c, hc, rfl⟩
    rw [hct, e'] at this
    obtain ⟨j, hj, e2⟩ := List.mem_map.mp this
    have hj := List.mem_range.mp hj
    have : j = 0 ∨ j = 1 ∨ j = 2 ∨ j = 3 ∨ j = 4 := by omega
    rcases this with rfl | rfl | rfl | rfl | rfl <;> exact absurd e2 (by decide +kernel)
  have nr : ∀ row, ((subs (worldD p seed)).all fun s => !clash (rowD p seed i t row) s) = true := fun row => new_row hp hkey ⟨t0, rest, hp0, hone⟩
  obtain ⟨c0, crest, hc0⟩ : ∃ c0 crest, t.cols = c0 :: crest := by
    cases h : t.cols with
    | nil => rw [h] at tc1; simp at tc1
    | cons a b => exact ⟨a, b, rfl⟩
  have rr : ∃ r, rowsD p seed i t = .lst (rowD p seed i t 1 :: r) := by
    unfold rowsD rowsL
    obtain ⟨m, hm⟩ : ∃ m, t.many.toNat = m + 1 := ⟨t.many.toNat - 1, by omega⟩
    rw [hm, List.range_succ_eq_map]
    exact ⟨_, rfl⟩
  obtain ⟨rr, hrr⟩ := rr
  have nrs : ((subs (worldD p seed)).all fun s => !clash (rowsD p seed i t) s) = true := by rw [hrr]; exact new_rows hp
  have ncs : ((subs (worldD p seed)).all fun s => !clash (.lst (t.cols.map fun c => .str c.name)) s) = true := by rw [hc0]; exact new_strs hp
  have nns : ((subs (worldD p seed)).all fun s => !clash (.lst (p.map fun t => .str t.name)) s) = true := by
    have : (p.map fun t => Dat.str t.name) = .str t0.name :: rest.map fun t => .str t.name := by rw [hp0]; rfl
    rw [this]; exact new_strs hp
  have ld1 : isLD (rowsD p seed i t) = true := rfl
  have cs1 : clash (rowsD p seed i t) (.str t.name) = false := by rw [hrr]; rfl
  have cs2 : clash (.lst (t.cols.map fun c => .str c.name)) (.str t.name) = false := by rw [hc0]; rfl
  have px : ixD (planD p) (.int (i : Int)) = .ok t.dat := plan_ix ht
  have tx := tab_ix (seed := seed) hp ht
  have rx := rows_at (p := p) (seed := seed) (i := i) (t := t) (n := 0) (by omega)
  have r1 := row_eq (seed := seed) hp ht (row := 1) (by omega) tm1
  obtain ⟨y9, h5⟩ := a5_step (more := more) hp hs hnm (some (.frz (.rls (ns.map Dat.int)))) (some (.frz (.int (k : Int)))) x7 x8 x9 x10 x11 x12 x13 x14 x15
  obtain ⟨z9, y13, h8⟩ := a8_step (more := more) hp hs ht hct (some (.frz (.rls (ns.map Dat.int)))) (some (.frz (.int (k : Int)))) x8 y9 x13 x14 x15
  obtain ⟨y8, y14, h15⟩ := r1_loop (seed := seed) (more := more) hp ht (some (.frz (.rls (ns.map Dat.int)))) (some (.frz (.int (k : Int)))) (some (.frz (.int (i : Int)))) x8 z9 (some (.frz (.int t.many))) (some (.frz (.lst (t.cols.map Col.dat)))) y13 x14 x15
  have r20 : rng2D [.int 1, .int (t.many + 1)] = .ok (rangeL 1 (t.many + 1)) := rng2_int (by omega) (by omega) (by have := T.m2; omega) (by have := T.m2; omega)
  have nt := neE_self (eq_tables (seed := seed) hp)
  have nm : neE (.int t.many) (.int t.many) = .ok (.bl false) := neE_self (by simp [eqDp])
  have nn := neE_self (eq_strs (f := Tab.name) (l := p))
  have en1 : ∀ ρ : VL.Env, ρ.length = 16 → eVar 3 ρ = .ok (planD p) → eLc (iSeq (eVar 3)) (.nm 15) bYes (eBin ixD (eVar 15) (eC (.int 0))) [15] ρ = .ok (.lst (p.map fun t => .str t.name)) := fun ρ h1 h2 => tnames_of (by omega) (by omega) h2
  have hw : Dat.ins "World" [("plan", planD p), ("seed", .int seed), ("places", .dct (placesL 0 p))] = worldD p seed := rfl
  unfold A5 at h5
  unfold A8 at h8
  unfold R2 R3 at h15
  unfold L1_law
  refine ⟨some (.frz (.int more)), some (.frz (planD p)), some (.frz (.int seed)), some (.frz (worldD p seed)), some (.frz (tablesD p seed)), some (.frz (.int (i : Int))), y8, z9, some (.frz (.str t.name)), some (.frz (.int t.many)), some (.frz (.lst (t.cols.map Col.dat))), y13, y14, x15, ?_⟩
  rw [sSet_step (d := .int more) (by simp [hc, hdr])]
  simp only [List.set_cons_succ, List.set_cons_zero]
  rw [sSet_step (d := planD p) (by simp [f8, m2, hmo, hpl])]
  simp only [List.set_cons_succ, List.set_cons_zero]
  rw [sSet_step (d := .int seed) (by simp [f64, m1e6])]
  simp only [List.set_cons_succ, List.set_cons_zero]
  rw [sSet_step (d := worldD p seed) (by simp [ini]; rfl)]
  simp only [List.set_cons_succ, List.set_cons_zero]
  rw [sSet_step (d := tablesD p seed) (by simp [tables_eq hp])]
  simp only [List.set_cons_succ, List.set_cons_zero]
  rw [sSeq_step h5]
  rw [sSet_step (d := .int (i : Int)) (by simp [pow20, f20, mL])]
  simp only [List.set_cons_succ, List.set_cons_zero]
  rw [sSeq_step (a := sBind _ _ _) (ρ' := [some (.frz (.rls (ns.map Dat.int))), some (.frz (.int (k : Int))), some (.frz (.int more)), some (.frz (planD p)), some (.frz (.int seed)), some (.frz (worldD p seed)), some (.frz (tablesD p seed)), some (.frz (.int (i : Int))), x8, y9, some (.frz (.str t.name)), some (.frz (.int t.many)), some (.frz (.lst (t.cols.map Col.dat))), x13, x14, x15]) (by simp [bindS_eq, px, Tab.dat])]
  rw [sSeq_step h8]
  have v2 : viewUF [5, 10] 0 [some (.frz (.rls (ns.map Dat.int))), some (.frz (.int (k : Int))), some (.frz (.int more)), some (.frz (planD p)), some (.frz (.int seed)), some (.frz (worldD p seed)), some (.frz (tablesD p seed)), some (.frz (.int (i : Int))), x8, z9, some (.frz (.str t.name)), some (.frz (.int t.many)), some (.frz (.lst (t.cols.map Col.dat))), y13, x14, x15] = [none, none, none, none, none, some (worldD p seed), none, none, none, none, some (.str t.name), none, none, none, none, none] := by
    simp (disch := decide) only [viewUF_no, viewUF_yes, viewUF_nil, Nat.reduceAdd]
  have v1 : viewUF [5] 0 [some (.frz (.rls (ns.map Dat.int))), some (.frz (.int (k : Int))), some (.frz (.int more)), some (.frz (planD p)), some (.frz (.int seed)), some (.frz (worldD p seed)), some (.frz (tablesD p seed)), some (.frz (.int (i : Int))), x8, z9, some (.frz (.str t.name)), some (.frz (.int t.many)), some (.frz (.lst (t.cols.map Col.dat))), y13, x14, x15] = [none, none, none, none, none, some (worldD p seed), none, none, none, none, none, none, none, none, none, none] := by
    simp (disch := decide) only [viewUF_no, viewUF_yes, viewUF_nil, Nat.reduceAdd]
  rw [sSpoil_step (d := rowsD p seed i t) (by rw [v2]; simp [tables_eq hp, tx]) (new_two v2 ld1 cs1 nrs)]
  rw [sSpoil_step (d := rowD p seed i t 1) (by rw [v2]; simp [rows_eq hp ht]; exact rx) (new_two v2 rfl rfl (nr 1))]
  rw [sSpoil_step (d := rowD p seed i t 1) (by rw [v2]; simp [r1]) (new_two v2 rfl rfl (nr 1))]
  rw [sSpoilA_step (ds := t.cols.map fun c => .str c.name) (by rw [v2]; simp [columns_eq hp ht]) (new_two v2 rfl cs2 ncs) (by simp; omega)]
  rw [sSpoilA_step (ds := p.map fun t => .str t.name) (by rw [v1]; simp [wnames_eq hp]) (new_one v1 rfl nns) (by simp; omega)]
  rw [sIf_no (by simp [tables_eq hp, nt, ini, hw])]
  rw [sSeq_step (Eq.trans (by simp [r20]) h15)]
  exact sIf_end (by simp [many_eq hp ht, nm, wnames_eq hp, en1, nn])
theorem law_true (ns : List Int) (h : ns.length ≤ 63) (hb : ∀ z ∈ ns, PySem.Builtin.Int.intBits z ≤ 1048576) : m_law [.rls (ns.map Dat.int)] = .ok (.bl true) := by
  rw [o_law]
  obtain ⟨n, hn, hn2⟩ : ∃ n : Nat, (if (if (ns.length : Int) < 3 then (ns.length : Int) else 3) > 1 then (if (ns.length : Int) < 3 then (ns.length : Int) else 3) else 1) = (n : Int) ∧ n ≤ 4 := by
    refine ⟨(if (if (ns.length : Int) < 3 then (ns.length : Int) else 3) > 1 then (if (ns.length : Int) < 3 then (ns.length : Int) else 3) else 1).toNat, ?_, ?_⟩ <;> (repeat' split) <;> omega
  have r : rng1D [.int (n : Int)] = .ok (rangeL 0 (n : Int)) := rng1_int (by omega) (by omega)
  obtain ⟨ρ', h1, _⟩ := forD_inv (p := .nm 1) (b := L1_law) (ds := rangeL 0 (n : Int)) (ρ := [some (.frz (.rls (ns.map Dat.int))), none, none, none, none, none, none, none, none, none, none, none, none, none, none, none])
    (fun _ ρ => ∃ x1 x2 x3 x4 x5 x6 x7 x8 x9 x10 x11 x12 x13 x14 x15, ρ = [some (.frz (.rls (ns.map Dat.int))), x1, x2, x3, x4, x5, x6, x7, x8, x9, x10, x11, x12, x13, x14, x15]) ⟨none, none, none, none, none, none, none, none, none, none, none, none, none, none, none, rfl⟩ (fun i d ρ hd ⟨x1, x2, x3, x4, x5, x6, x7, x8, x9, x10, x11, x12, x13, x14, x15, e⟩ => by
      obtain ⟨hi, rfl⟩ := range_get hd
      subst e
      obtain ⟨y2, y3, y4, y5, y6, y7, y8, y9, y10, y11, y12, y13, y14, y15, hy⟩ := body_ok ns h i x2 x3 x4 x5 x6 x7 x8 x9 x10 x11 x12 x13 x14 x15
      exact ⟨_, _, bindU_nm, hy, some (.frz (.int (i : Int))), y2, y3, y4, y5, y6, y7, y8, y9, y10, y11, y12, y13, y14, y15, rfl⟩)
  simp [b_law, hn, r, h1]
end RM

namespace RM
open PySem PySem.Spec PyProof.Rows L2 VL L2H HotX
def topS (i : Nat) : Stmt := PySem.Challenge.pw_rulemade_k32_whole_worlds_apart.main.body.getD i (.Pass ⟨0, 0, 0, 0⟩)

structure Tx (w : World) (K : PySem.W.Frag) (mg : Str → Option Value) (g : Glob) : Prop where
  b_all : mg "all" = none
  b_any : mg "any" = none
  b_bool : mg "bool" = none
  b_dict : mg "dict" = none
  b_enumerate : mg "enumerate" = none
  b_int : mg "int" = none
  b_isinstance : mg "isinstance" = none
  b_len : mg "len" = none
  b_list : mg "list" = none
  b_max : mg "max" = none
  b_min : mg "min" = none
  b_range : mg "range" = none
  b_set : mg "set" = none
  b_str : mg "str" = none
  b_sum : mg "sum" = none
  b_tuple : mg "tuple" = none
  b_zip : mg "zip" = none
  c_FIRST : ∃ u, mg "FIRST" = some u ∧ L2.RelV (.int 2147483647) u
  c_MOST_COLUMNS : ∃ u, mg "MOST_COLUMNS" = some u ∧ L2.RelV (.int 5) u
  c_MOST_NAME : ∃ u, mg "MOST_NAME" = some u ∧ L2.RelV (.int 4) u
  c_MOST_NUMBER : ∃ u, mg "MOST_NUMBER" = some u ∧ L2.RelV (.int 999) u
  c_MOST_OPTIONS : ∃ u, mg "MOST_OPTIONS" = some u ∧ L2.RelV (.int 4) u
  c_MOST_PLACE : ∃ u, mg "MOST_PLACE" = some u ∧ L2.RelV (.int 99) u
  c_MOST_ROWS : ∃ u, mg "MOST_ROWS" = some u ∧ L2.RelV (.int 20) u
  c_MOST_SEED : ∃ u, mg "MOST_SEED" = some u ∧ L2.RelV (.int 999999) u
  c_MOST_SHARE : ∃ u, mg "MOST_SHARE" = some u ∧ L2.RelV (.int 9) u
  c_MOST_TABLES : ∃ u, mg "MOST_TABLES" = some u ∧ L2.RelV (.int 4) u
  c_MOST_WORD : ∃ u, mg "MOST_WORD" = some u ∧ L2.RelV (.int 6) u
  c_SECOND : ∃ u, mg "SECOND" = some u ∧ L2.RelV (.int 2147483629) u
  c_SMALL : ∃ u, mg "SMALL" = some u ∧ L2.RelV (.str "abcdefghijklmnopqrstuvwxyz") u
  x_BadDraw : ExcT K mg g [.type "ValueError", .type "Exception", .type "BaseException", .type "object"] "BadDraw"
  x_BadPlan : ExcT K mg g [.type "ValueError", .type "Exception", .type "BaseException", .type "object"] "BadPlan"
  x_NoCell : ExcT K mg g [.type "ValueError", .type "Exception", .type "BaseException", .type "object"] "NoCell"
  t_NUMBERS : KTup K mg "NUMBERS" ["num", "serial", "sum", "unlike"]
  d_LENGTHS : KDic K w mg "LENGTHS" [("num", 3), ("pick", 2), ("word", 3), ("flag", 2), ("link", 2), ("serial", 3), ("sum", 3), ("copy", 3), ("unlike", 3)]
  cl_World : L2.Cls K (g.cls "World")
  na_World_plan : L2.NoAttr K (g.cls "World") "plan"
  na_World_seed : L2.NoAttr K (g.cls "World") "seed"
  na_World_places : L2.NoAttr K (g.cls "World") "places"
section
variable {P : Program} {w : World} {K : PySem.W.Frag} {mg : Str → Option Value} {base : Heap} {g : Glob}
abbrev s_is_count : Stmt := topS 10
abbrev n_is_count : List Str := ["thing", "low", "high"]
theorem sc_is_count : FnScope n_is_count ["thing", "low", "high"] (defScope s_is_count) := ⟨rfl, rfl, rfl, by decide +kernel, rfl, by decide +kernel, by decide +kernel⟩
theorem v_is_count {f : Addr} {fd : FuncData} (F : Fun K "is_count" "is_count" s_is_count f fd) (hm : mg "is_count" = some (.ref f)) (T : Tx w K mg g) : FnOk P w K mg base (L2N.CX P w) 1 f fd ["thing", "low", "high"] (spV K g m_is_count) := by
  refine fn_ok (N := n_is_count) (b := b_is_count) F sc_is_count fun cdv A outer s H E F0 hcv hr => ?_
  have tk : L2N.Takes (cxOf (L2N.CX P w) P w K mg base n_is_count "is_count" (defScope s_is_count) f cdv A outer s H E) (fun cls d _ H' => E cls d H') := L2N.takes_of rfl rfl rfl rfl
  have hp := passes_of (X := (cxOf (L2N.CX P w) P w K mg base n_is_count "is_count" (defScope s_is_count) f cdv A outer s H E)) rfl
  exact (vss_one (vs_ret [] (ve_and (ve_callB call_isi cd_isi T.b_isinstance (by decide +kernel) (va_cons (ve_var 0) (va_cons (ve_bltn T.b_int (by decide +kernel)) va_nil))) (ve_and (ve_not (ve_callB call_isi cd_isi T.b_isinstance (by decide +kernel) (va_cons (ve_var 0) (va_cons (ve_bltn T.b_bool (by decide +kernel)) va_nil)))) (ve_one (ve_lele (ve_var 1) (ve_var 0) (ve_var 2)))))))
theorem w_is_count {f : Addr} {fd : FuncData} (F : Fun K "is_count" "is_count" s_is_count f fd) (hm : mg "is_count" = some (.ref f)) (T : Tx w K mg g) : VFn P w K mg base g 1 "is_count" m_is_count :=
  ⟨f, fd, ["thing", "low", "high"], hm, F.kp, F.binds fun _ _ _ _ _ _ us hl => match us, hl with | [_, _, _], _ => rfl, v_is_count F hm T⟩
abbrev s_need_draws : Stmt := topS 11
abbrev n_need_draws : List Str := ["good"]
theorem sc_need_draws : FnScope n_need_draws ["good"] (defScope s_need_draws) := ⟨rfl, rfl, rfl, by decide +kernel, rfl, by decide +kernel, by decide +kernel⟩
theorem v_need_draws {f : Addr} {fd : FuncData} (F : Fun K "need" "need" s_need_draws f fd) (hm : mg "need_draws" = some (.ref f)) (T : Tx w K mg g) : FnOk P w K mg base (L2N.CX P w) 1 f fd ["good"] (spV K g m_need_draws) := by
  refine fn_ok (N := n_need_draws) (b := b_need_draws) F sc_need_draws fun cdv A outer s H E F0 hcv hr => ?_
  have tk : L2N.Takes (cxOf (L2N.CX P w) P w K mg base n_need_draws "need" (defScope s_need_draws) f cdv A outer s H E) (fun cls d _ H' => E cls d H') := L2N.takes_of rfl rfl rfl rfl
  have hp := passes_of (X := (cxOf (L2N.CX P w) P w K mg base n_need_draws "need" (defScope s_need_draws) f cdv A outer s H E)) rfl
  exact (vss_one (vs_if [] (vt_not (vt_of (ve_var 0))) (vss_one (vs_raise T.x_BadDraw rfl tk)) vss_nil))
theorem w_need_draws {f : Addr} {fd : FuncData} (F : Fun K "need" "need" s_need_draws f fd) (hm : mg "need_draws" = some (.ref f)) (T : Tx w K mg g) : VFn P w K mg base g 1 "need_draws" m_need_draws :=
  ⟨f, fd, ["good"], hm, F.kp, F.binds fun _ _ _ _ _ _ us hl => match us, hl with | [_], _ => rfl, v_need_draws F hm T⟩
abbrev s_draw : Stmt := topS 13
abbrev n_draw : List Str := ["seed", "table", "column", "row", "found"]
theorem sc_draw : FnScope n_draw ["seed", "table", "column", "row"] (defScope s_draw) := ⟨rfl, rfl, rfl, by decide +kernel, rfl, by decide +kernel, by decide +kernel⟩
theorem v_draw {f : Addr} {fd : FuncData} (F : Fun K "draw" "draw" s_draw f fd) (hm : mg "draw" = some (.ref f)) (T : Tx w K mg g) : FnOk P w K mg base (L2N.CX P w) 1 f fd ["seed", "table", "column", "row"] (spV K g m_draw) := by
  refine fn_ok (N := n_draw) (b := b_draw) F sc_draw fun cdv A outer s H E F0 hcv hr => ?_
  have tk : L2N.Takes (cxOf (L2N.CX P w) P w K mg base n_draw "draw" (defScope s_draw) f cdv A outer s H E) (fun cls d _ H' => E cls d H') := L2N.takes_of rfl rfl rfl rfl
  have hp := passes_of (X := (cxOf (L2N.CX P w) P w K mg base n_draw "draw" (defScope s_draw) f cdv A outer s H E)) rfl
  exact (vss_cons (vs_set 4 [] sc_draw.nd (ve_mod (ve_mul (ve_add (ve_add (ve_add (ve_add (ve_mul (ve_var 0) ve_int) (ve_mul (ve_var 1) ve_int)) (ve_mul (ve_var 2) ve_int)) (ve_mul (ve_var 3) ve_int)) ve_int) ve_int) (ve_glob T.c_FIRST (fun _ => .int _))))
    (vss_one (vs_ret [] (ve_mod (ve_add (ve_add (ve_mul (ve_var 4) (ve_var 4)) (ve_mul ve_int (ve_var 4))) (ve_var 3)) (ve_glob T.c_SECOND (fun _ => .int _))))))
theorem w_draw {f : Addr} {fd : FuncData} (F : Fun K "draw" "draw" s_draw f fd) (hm : mg "draw" = some (.ref f)) (T : Tx w K mg g) : VFn P w K mg base g 1 "draw" m_draw :=
  ⟨f, fd, ["seed", "table", "column", "row"], hm, F.kp, F.binds fun _ _ _ _ _ _ us hl => match us, hl with | [_, _, _, _], _ => rfl, v_draw F hm T⟩
abbrev s_drawn : Stmt := topS 14
abbrev n_drawn : List Str := ["seed", "table", "column", "row"]
theorem sc_drawn : FnScope n_drawn ["seed", "table", "column", "row"] (defScope s_drawn) := ⟨rfl, rfl, rfl, by decide +kernel, rfl, by decide +kernel, by decide +kernel⟩
theorem v_drawn {f : Addr} {fd : FuncData} (F : Fun K "drawn" "drawn" s_drawn f fd) (hm : mg "drawn" = some (.ref f)) (T : Tx w K mg g) (f_is_count : VFn P w K mg base g 1 "is_count" m_is_count) (f_need_draws : VFn P w K mg base g 1 "need_draws" m_need_draws) (f_draw : VFn P w K mg base g 1 "draw" m_draw) : FnOk P w K mg base (L2N.CX P w) 2 f fd ["seed", "table", "column", "row"] (spV K g m_drawn) := by
  refine fn_ok (N := n_drawn) (b := b_drawn) F sc_drawn fun cdv A outer s H E F0 hcv hr => ?_
  have tk : L2N.Takes (cxOf (L2N.CX P w) P w K mg base n_drawn "drawn" (defScope s_drawn) f cdv A outer s H E) (fun cls d _ H' => E cls d H') := L2N.takes_of rfl rfl rfl rfl
  have hp := passes_of (X := (cxOf (L2N.CX P w) P w K mg base n_drawn "drawn" (defScope s_drawn) f cdv A outer s H E)) rfl
  exact (vss_cons (vs_expr [] (ve_call f_need_draws hr (by omega) tk (va_cons (ve_call f_is_count hr (by omega) tk (va_cons (ve_var 0) (va_cons ve_int (va_cons (ve_glob T.c_MOST_SEED (fun _ => .int _)) va_nil)))) va_nil)))
    (vss_cons (vs_expr [] (ve_call f_need_draws hr (by omega) tk (va_cons (ve_and (ve_call f_is_count hr (by omega) tk (va_cons (ve_var 1) (va_cons ve_int (va_cons (ve_glob T.c_MOST_PLACE (fun _ => .int _)) va_nil)))) (ve_and (ve_call f_is_count hr (by omega) tk (va_cons (ve_var 2) (va_cons ve_int (va_cons (ve_glob T.c_MOST_PLACE (fun _ => .int _)) va_nil)))) (ve_one (ve_call f_is_count hr (by omega) tk (va_cons (ve_var 3) (va_cons ve_int (va_cons (ve_glob T.c_MOST_PLACE (fun _ => .int _)) va_nil))))))) va_nil)))
    (vss_one (vs_ret [] (ve_call f_draw hr (by omega) tk (va_cons (ve_var 0) (va_cons (ve_var 1) (va_cons (ve_var 2) (va_cons (ve_var 3) va_nil)))))))))
theorem w_drawn {f : Addr} {fd : FuncData} (F : Fun K "drawn" "drawn" s_drawn f fd) (hm : mg "drawn" = some (.ref f)) (T : Tx w K mg g) (f_is_count : VFn P w K mg base g 1 "is_count" m_is_count) (f_need_draws : VFn P w K mg base g 1 "need_draws" m_need_draws) (f_draw : VFn P w K mg base g 1 "draw" m_draw) : VFn P w K mg base g 2 "drawn" m_drawn :=
  ⟨f, fd, ["seed", "table", "column", "row"], hm, F.kp, F.binds fun _ _ _ _ _ _ us hl => match us, hl with | [_, _, _, _], _ => rfl, v_drawn F hm T f_is_count f_need_draws f_draw⟩
abbrev s_word_of : Stmt := topS 15
abbrev n_word_of : List Str := ["number", "low", "high", "many", "found", "turn"]
theorem sc_word_of : FnScope n_word_of ["number", "low", "high"] (defScope s_word_of) := ⟨rfl, rfl, rfl, by decide +kernel, rfl, by decide +kernel, by decide +kernel⟩
theorem v_word_of {f : Addr} {fd : FuncData} (F : Fun K "word_of" "word_of" s_word_of f fd) (hm : mg "word_of" = some (.ref f)) (T : Tx w K mg g) : FnOk P w K mg base (L2N.CX P w) 1 f fd ["number", "low", "high"] (spV K g m_word_of) := by
  refine fn_ok (N := n_word_of) (b := b_word_of) F sc_word_of fun cdv A outer s H E F0 hcv hr => ?_
  have tk : L2N.Takes (cxOf (L2N.CX P w) P w K mg base n_word_of "word_of" (defScope s_word_of) f cdv A outer s H E) (fun cls d _ H' => E cls d H') := L2N.takes_of rfl rfl rfl rfl
  have hp := passes_of (X := (cxOf (L2N.CX P w) P w K mg base n_word_of "word_of" (defScope s_word_of) f cdv A outer s H E)) rfl
  exact (vss_cons (vs_set 3 [] sc_word_of.nd (ve_add (ve_var 1) (ve_mod (ve_var 0) (ve_add (ve_sub (ve_var 2) (ve_var 1)) ve_int))))
    (vss_cons (vs_set 0 [] sc_word_of.nd (ve_fdiv (ve_var 0) (ve_add (ve_sub (ve_var 2) (ve_var 1)) ve_int)))
    (vss_cons (vs_set 4 [] sc_word_of.nd ve_str)
    (vss_cons (vs_for [] hp rfl (vi_range1 T.b_range (va_cons (ve_var 3) va_nil)) (vg_name 5 sc_word_of.nd) (vss_cons (vs_set 4 [] sc_word_of.nd (ve_add (ve_var 4) (ve_sub_ix hr ve_str (ve_mod (ve_var 0) ve_int))))
    (vss_one (vs_set 0 [] sc_word_of.nd (ve_fdiv (ve_var 0) ve_int)))))
    (vss_one (vs_ret [] (ve_var 4)))))))
theorem w_word_of {f : Addr} {fd : FuncData} (F : Fun K "word_of" "word_of" s_word_of f fd) (hm : mg "word_of" = some (.ref f)) (T : Tx w K mg g) : VFn P w K mg base g 1 "word_of" m_word_of :=
  ⟨f, fd, ["number", "low", "high"], hm, F.kp, F.binds fun _ _ _ _ _ _ us hl => match us, hl with | [_, _, _], _ => rfl, v_word_of F hm T⟩
abbrev s_shared_of : Stmt := topS 16
abbrev n_shared_of : List Str := ["number", "shares", "left", "at"]
theorem sc_shared_of : FnScope n_shared_of ["number", "shares"] (defScope s_shared_of) := ⟨rfl, rfl, rfl, by decide +kernel, rfl, by decide +kernel, by decide +kernel⟩
theorem v_shared_of {f : Addr} {fd : FuncData} (F : Fun K "shared_of" "shared_of" s_shared_of f fd) (hm : mg "shared_of" = some (.ref f)) (T : Tx w K mg g) : FnOk P w K mg base (L2N.CX P w) 1 f fd ["number", "shares"] (spV K g m_shared_of) := by
  refine fn_ok (N := n_shared_of) (b := b_shared_of) F sc_shared_of fun cdv A outer s H E F0 hcv hr => ?_
  have tk : L2N.Takes (cxOf (L2N.CX P w) P w K mg base n_shared_of "shared_of" (defScope s_shared_of) f cdv A outer s H E) (fun cls d _ H' => E cls d H') := L2N.takes_of rfl rfl rfl rfl
  have hp := passes_of (X := (cxOf (L2N.CX P w) P w K mg base n_shared_of "shared_of" (defScope s_shared_of) f cdv A outer s H E)) rfl
  exact (vss_cons (vs_set 2 [] sc_shared_of.nd (ve_mod (ve_var 0) (ve_callB (cr_sum rfl) cd_sum T.b_sum (by decide +kernel) (va_cons (ve_var 1) va_nil))))
    (vss_cons (vs_set 3 [] sc_shared_of.nd ve_int)
    (vss_cons (vs_while 4096 [] hp (vt_ge (ve_var 2) (ve_sub_ix hr (ve_var 1) (ve_var 3))) (vss_cons (vs_set 2 [] sc_shared_of.nd (ve_sub (ve_var 2) (ve_sub_ix hr (ve_var 1) (ve_var 3))))
    (vss_one (vs_set 3 [] sc_shared_of.nd (ve_add (ve_var 3) ve_int)))))
    (vss_one (vs_ret [] (ve_var 3))))))
theorem w_shared_of {f : Addr} {fd : FuncData} (F : Fun K "shared_of" "shared_of" s_shared_of f fd) (hm : mg "shared_of" = some (.ref f)) (T : Tx w K mg g) : VFn P w K mg base g 1 "shared_of" m_shared_of :=
  ⟨f, fd, ["number", "shares"], hm, F.kp, F.binds fun _ _ _ _ _ _ us hl => match us, hl with | [_, _], _ => rfl, v_shared_of F hm T⟩
abbrev s_divides_both : Stmt := topS 17
abbrev n_divides_both : List Str := ["one", "other"]
theorem sc_divides_both : FnScope n_divides_both ["one", "other"] (defScope s_divides_both) := ⟨rfl, rfl, rfl, by decide +kernel, rfl, by decide +kernel, by decide +kernel⟩
theorem v_divides_both {f : Addr} {fd : FuncData} (F : Fun K "divides_both" "divides_both" s_divides_both f fd) (hm : mg "divides_both" = some (.ref f)) (T : Tx w K mg g) : FnOk P w K mg base (L2N.CX P w) 1 f fd ["one", "other"] (spV K g m_divides_both) := by
  refine fn_ok (N := n_divides_both) (b := b_divides_both) F sc_divides_both fun cdv A outer s H E F0 hcv hr => ?_
  have tk : L2N.Takes (cxOf (L2N.CX P w) P w K mg base n_divides_both "divides_both" (defScope s_divides_both) f cdv A outer s H E) (fun cls d _ H' => E cls d H') := L2N.takes_of rfl rfl rfl rfl
  have hp := passes_of (X := (cxOf (L2N.CX P w) P w K mg base n_divides_both "divides_both" (defScope s_divides_both) f cdv A outer s H E)) rfl
  exact (vss_cons (vs_while 4096 [] hp (vt_ne hr (ve_var 1) ve_int) (vss_one (vs_par2 0 1 [] rfl sc_divides_both.nd (va_cons (ve_var 1) (va_cons (ve_mod (ve_var 0) (ve_var 1)) va_nil)))))
    (vss_one (vs_ret [] (ve_var 0))))
theorem w_divides_both {f : Addr} {fd : FuncData} (F : Fun K "divides_both" "divides_both" s_divides_both f fd) (hm : mg "divides_both" = some (.ref f)) (T : Tx w K mg g) : VFn P w K mg base g 1 "divides_both" m_divides_both :=
  ⟨f, fd, ["one", "other"], hm, F.kp, F.binds fun _ _ _ _ _ _ us hl => match us, hl with | [_, _], _ => rfl, v_divides_both F hm T⟩
abbrev s_spread_of : Stmt := topS 18
abbrev n_spread_of : List Str := ["number", "row", "size", "step"]
theorem sc_spread_of : FnScope n_spread_of ["number", "row", "size"] (defScope s_spread_of) := ⟨rfl, rfl, rfl, by decide +kernel, rfl, by decide +kernel, by decide +kernel⟩
theorem v_spread_of {f : Addr} {fd : FuncData} (F : Fun K "spread_of" "spread_of" s_spread_of f fd) (hm : mg "spread_of" = some (.ref f)) (T : Tx w K mg g) (f_divides_both : VFn P w K mg base g 1 "divides_both" m_divides_both) : FnOk P w K mg base (L2N.CX P w) 2 f fd ["number", "row", "size"] (spV K g m_spread_of) := by
  refine fn_ok (N := n_spread_of) (b := b_spread_of) F sc_spread_of fun cdv A outer s H E F0 hcv hr => ?_
  have tk : L2N.Takes (cxOf (L2N.CX P w) P w K mg base n_spread_of "spread_of" (defScope s_spread_of) f cdv A outer s H E) (fun cls d _ H' => E cls d H') := L2N.takes_of rfl rfl rfl rfl
  have hp := passes_of (X := (cxOf (L2N.CX P w) P w K mg base n_spread_of "spread_of" (defScope s_spread_of) f cdv A outer s H E)) rfl
  exact (vss_cons (vs_set 3 [] sc_spread_of.nd (ve_add ve_int (ve_mod (ve_fdiv (ve_var 0) (ve_var 2)) (ve_var 2))))
    (vss_cons (vs_while 4096 [] hp (vt_ne hr (ve_call f_divides_both hr (by omega) tk (va_cons (ve_var 3) (va_cons (ve_var 2) va_nil))) ve_int) (vss_one (vs_set 3 [] sc_spread_of.nd (ve_add (ve_var 3) ve_int))))
    (vss_one (vs_ret [] (ve_mod (ve_add (ve_mod (ve_var 0) (ve_var 2)) (ve_mul (ve_var 1) (ve_var 3))) (ve_var 2))))))
theorem w_spread_of {f : Addr} {fd : FuncData} (F : Fun K "spread_of" "spread_of" s_spread_of f fd) (hm : mg "spread_of" = some (.ref f)) (T : Tx w K mg g) (f_divides_both : VFn P w K mg base g 1 "divides_both" m_divides_both) : VFn P w K mg base g 2 "spread_of" m_spread_of :=
  ⟨f, fd, ["number", "row", "size"], hm, F.kp, F.binds fun _ _ _ _ _ _ us hl => match us, hl with | [_, _, _], _ => rfl, v_spread_of F hm T f_divides_both⟩
abbrev s_need_plans : Stmt := topS 31
abbrev n_need_plans : List Str := ["good"]
theorem sc_need_plans : FnScope n_need_plans ["good"] (defScope s_need_plans) := ⟨rfl, rfl, rfl, by decide +kernel, rfl, by decide +kernel, by decide +kernel⟩
theorem v_need_plans {f : Addr} {fd : FuncData} (F : Fun K "need" "need" s_need_plans f fd) (hm : mg "need_plans" = some (.ref f)) (T : Tx w K mg g) : FnOk P w K mg base (L2N.CX P w) 1 f fd ["good"] (spV K g m_need_plans) := by
  refine fn_ok (N := n_need_plans) (b := b_need_plans) F sc_need_plans fun cdv A outer s H E F0 hcv hr => ?_
  have tk : L2N.Takes (cxOf (L2N.CX P w) P w K mg base n_need_plans "need" (defScope s_need_plans) f cdv A outer s H E) (fun cls d _ H' => E cls d H') := L2N.takes_of rfl rfl rfl rfl
  have hp := passes_of (X := (cxOf (L2N.CX P w) P w K mg base n_need_plans "need" (defScope s_need_plans) f cdv A outer s H E)) rfl
  exact (vss_one (vs_if [] (vt_not (vt_of (ve_var 0))) (vss_one (vs_raise T.x_BadPlan rfl tk)) vss_nil))
theorem w_need_plans {f : Addr} {fd : FuncData} (F : Fun K "need" "need" s_need_plans f fd) (hm : mg "need_plans" = some (.ref f)) (T : Tx w K mg g) : VFn P w K mg base g 1 "need_plans" m_need_plans :=
  ⟨f, fd, ["good"], hm, F.kp, F.binds fun _ _ _ _ _ _ us hl => match us, hl with | [_], _ => rfl, v_need_plans F hm T⟩
abbrev s_is_word : Stmt := topS 33
abbrev n_is_word : List Str := ["thing", "most", "sign"]
theorem sc_is_word : FnScope n_is_word ["thing", "most"] (defScope s_is_word) := ⟨rfl, rfl, rfl, by decide +kernel, rfl, by decide +kernel, by decide +kernel⟩
theorem v_is_word {f : Addr} {fd : FuncData} (F : Fun K "is_word" "is_word" s_is_word f fd) (hm : mg "is_word" = some (.ref f)) (T : Tx w K mg g) : FnOk P w K mg base (L2N.CX P w) 1 f fd ["thing", "most"] (spV K g m_is_word) := by
  refine fn_ok (N := n_is_word) (b := b_is_word) F sc_is_word fun cdv A outer s H E F0 hcv hr => ?_
  have tk : L2N.Takes (cxOf (L2N.CX P w) P w K mg base n_is_word "is_word" (defScope s_is_word) f cdv A outer s H E) (fun cls d _ H' => E cls d H') := L2N.takes_of rfl rfl rfl rfl
  have hp := passes_of (X := (cxOf (L2N.CX P w) P w K mg base n_is_word "is_word" (defScope s_is_word) f cdv A outer s H E)) rfl
  exact (vss_one (vs_ret [] (ve_and (ve_callB call_isi cd_isi T.b_isinstance (by decide +kernel) (va_cons (ve_var 0) (va_cons (ve_bltn T.b_str (by decide +kernel)) va_nil))) (ve_and (ve_lele ve_int (ve_callB call_len cd_len T.b_len (by decide +kernel) (va_cons (ve_var 0) va_nil)) (ve_var 1)) (ve_one (ve_callB (cr_all rfl) cd_all T.b_all (by decide +kernel) (va_cons (ve_lc [("sign", 2)] rfl sc_is_word.nd (vi_seq (ve_var 0)) (blkOk_by (N := n_is_word) (sc := defScope s_is_word) (by decide +kernel)) (fun _ _ _ _ _ => (vg_name 2 sc_is_word.nd)) (fun _ _ _ _ _ => vts_nil) (fun _ _ _ _ _ => (ve_in hr (ve_var 2) (ve_glob T.c_SMALL (fun _ => .str _))))) va_nil)))))))
theorem w_is_word {f : Addr} {fd : FuncData} (F : Fun K "is_word" "is_word" s_is_word f fd) (hm : mg "is_word" = some (.ref f)) (T : Tx w K mg g) : VFn P w K mg base g 1 "is_word" m_is_word :=
  ⟨f, fd, ["thing", "most"], hm, F.kp, F.binds fun _ _ _ _ _ _ us hl => match us, hl with | [_, _], _ => rfl, v_is_word F hm T⟩
abbrev s_is_option : Stmt := topS 34
abbrev n_is_option : List Str := ["thing", "good"]
theorem sc_is_option : FnScope n_is_option ["thing"] (defScope s_is_option) := ⟨rfl, rfl, rfl, by decide +kernel, rfl, by decide +kernel, by decide +kernel⟩
theorem v_is_option {f : Addr} {fd : FuncData} (F : Fun K "is_option" "is_option" s_is_option f fd) (hm : mg "is_option" = some (.ref f)) (T : Tx w K mg g) (f_is_word : VFn P w K mg base g 1 "is_word" m_is_word) (f_is_count : VFn P w K mg base g 1 "is_count" m_is_count) : FnOk P w K mg base (L2N.CX P w) 2 f fd ["thing"] (spV K g m_is_option) := by
  refine fn_ok (N := n_is_option) (b := b_is_option) F sc_is_option fun cdv A outer s H E F0 hcv hr => ?_
  have tk : L2N.Takes (cxOf (L2N.CX P w) P w K mg base n_is_option "is_option" (defScope s_is_option) f cdv A outer s H E) (fun cls d _ H' => E cls d H') := L2N.takes_of rfl rfl rfl rfl
  have hp := passes_of (X := (cxOf (L2N.CX P w) P w K mg base n_is_option "is_option" (defScope s_is_option) f cdv A outer s H E)) rfl
  exact (vss_cons (vs_set 1 [] sc_is_option.nd (ve_and (ve_callB call_isi cd_isi T.b_isinstance (by decide +kernel) (va_cons (ve_var 0) (va_cons (ve_bltn T.b_tuple (by decide +kernel)) va_nil))) (ve_one (ve_eq hr (ve_callB call_len cd_len T.b_len (by decide +kernel) (va_cons (ve_var 0) va_nil)) ve_int))))
    (vss_one (vs_ret [] (ve_and (ve_var 1) (ve_and (ve_call f_is_word hr (by omega) tk (va_cons (ve_sub_ix hr (ve_var 0) ve_int) (va_cons (ve_glob T.c_MOST_WORD (fun _ => .int _)) va_nil))) (ve_one (ve_call f_is_count hr (by omega) tk (va_cons (ve_sub_ix hr (ve_var 0) ve_int) (va_cons ve_int (va_cons (ve_glob T.c_MOST_SHARE (fun _ => .int _)) va_nil))))))))))
theorem w_is_option {f : Addr} {fd : FuncData} (F : Fun K "is_option" "is_option" s_is_option f fd) (hm : mg "is_option" = some (.ref f)) (T : Tx w K mg g) (f_is_word : VFn P w K mg base g 1 "is_word" m_is_word) (f_is_count : VFn P w K mg base g 1 "is_count" m_is_count) : VFn P w K mg base g 2 "is_option" m_is_option :=
  ⟨f, fd, ["thing"], hm, F.kp, F.binds fun _ _ _ _ _ _ us hl => match us, hl with | [_], _ => rfl, v_is_option F hm T f_is_word f_is_count⟩
abbrev s_are_options : Stmt := topS 35
abbrev n_are_options : List Str := ["thing", "one"]
theorem sc_are_options : FnScope n_are_options ["thing"] (defScope s_are_options) := ⟨rfl, rfl, rfl, by decide +kernel, rfl, by decide +kernel, by decide +kernel⟩
theorem v_are_options {f : Addr} {fd : FuncData} (F : Fun K "are_options" "are_options" s_are_options f fd) (hm : mg "are_options" = some (.ref f)) (T : Tx w K mg g) (f_is_option : VFn P w K mg base g 2 "is_option" m_is_option) : FnOk P w K mg base (L2N.CX P w) 3 f fd ["thing"] (spV K g m_are_options) := by
  refine fn_ok (N := n_are_options) (b := b_are_options) F sc_are_options fun cdv A outer s H E F0 hcv hr => ?_
  have tk : L2N.Takes (cxOf (L2N.CX P w) P w K mg base n_are_options "are_options" (defScope s_are_options) f cdv A outer s H E) (fun cls d _ H' => E cls d H') := L2N.takes_of rfl rfl rfl rfl
  have hp := passes_of (X := (cxOf (L2N.CX P w) P w K mg base n_are_options "are_options" (defScope s_are_options) f cdv A outer s H E)) rfl
  exact (vss_cons (vs_if [] (vw_pt (vw_or (vt_not (vt_of (ve_callB call_isi cd_isi T.b_isinstance (by decide +kernel) (va_cons (ve_var 0) (va_cons (ve_bltn T.b_tuple (by decide +kernel)) va_nil))))) (vw_or1 (vt_not (vt_lele ve_int (ve_callB call_len cd_len T.b_len (by decide +kernel) (va_cons (ve_var 0) va_nil)) (ve_glob T.c_MOST_OPTIONS (fun _ => .int _))))))) (vss_one (vs_ret [] ve_bl)) vss_nil)
    (vss_cons (vs_if [] (vt_not (vt_of (ve_callB (cr_all rfl) cd_all T.b_all (by decide +kernel) (va_cons (ve_lc [("one", 1)] rfl sc_are_options.nd (vi_seq (ve_var 0)) (blkOk_by (N := n_are_options) (sc := defScope s_are_options) (by decide +kernel)) (fun _ _ _ _ _ => (vg_name 1 sc_are_options.nd)) (fun _ _ _ _ _ => vts_nil) (fun _ _ _ _ _ => (ve_call f_is_option hr (by omega) tk0 (va_cons (ve_var 1) va_nil)))) va_nil)))) (vss_one (vs_ret [] ve_bl)) vss_nil)
    (vss_one (vs_ret [] (ve_eq hr (ve_lenSetA T.b_len T.b_set (ve_lc [("one", 1)] rfl sc_are_options.nd (vi_seq (ve_var 0)) (blkOk_by (N := n_are_options) (sc := defScope s_are_options) (by decide +kernel)) (fun _ _ _ _ _ => (vg_name 1 sc_are_options.nd)) (fun _ _ _ _ _ => vts_nil) (fun _ _ _ _ _ => (ve_sub_ix hr (ve_var 1) ve_int)))) (ve_callB call_len cd_len T.b_len (by decide +kernel) (va_cons (ve_var 0) va_nil)))))))
theorem w_are_options {f : Addr} {fd : FuncData} (F : Fun K "are_options" "are_options" s_are_options f fd) (hm : mg "are_options" = some (.ref f)) (T : Tx w K mg g) (f_is_option : VFn P w K mg base g 2 "is_option" m_is_option) : VFn P w K mg base g 3 "are_options" m_are_options :=
  ⟨f, fd, ["thing"], hm, F.kp, F.binds fun _ _ _ _ _ _ us hl => match us, hl with | [_], _ => rfl, v_are_options F hm T f_is_option⟩
abbrev s_is_range : Stmt := topS 36
abbrev n_is_range : List Str := ["low", "high", "least", "most"]
theorem sc_is_range : FnScope n_is_range ["low", "high", "least", "most"] (defScope s_is_range) := ⟨rfl, rfl, rfl, by decide +kernel, rfl, by decide +kernel, by decide +kernel⟩
theorem v_is_range {f : Addr} {fd : FuncData} (F : Fun K "is_range" "is_range" s_is_range f fd) (hm : mg "is_range" = some (.ref f)) (T : Tx w K mg g) (f_is_count : VFn P w K mg base g 1 "is_count" m_is_count) : FnOk P w K mg base (L2N.CX P w) 2 f fd ["low", "high", "least", "most"] (spV K g m_is_range) := by
  refine fn_ok (N := n_is_range) (b := b_is_range) F sc_is_range fun cdv A outer s H E F0 hcv hr => ?_
  have tk : L2N.Takes (cxOf (L2N.CX P w) P w K mg base n_is_range "is_range" (defScope s_is_range) f cdv A outer s H E) (fun cls d _ H' => E cls d H') := L2N.takes_of rfl rfl rfl rfl
  have hp := passes_of (X := (cxOf (L2N.CX P w) P w K mg base n_is_range "is_range" (defScope s_is_range) f cdv A outer s H E)) rfl
  exact (vss_one (vs_ret [] (ve_and (ve_call f_is_count hr (by omega) tk (va_cons (ve_var 0) (va_cons (ve_var 2) (va_cons (ve_var 3) va_nil)))) (ve_and (ve_call f_is_count hr (by omega) tk (va_cons (ve_var 1) (va_cons (ve_var 2) (va_cons (ve_var 3) va_nil)))) (ve_one (ve_le (ve_var 0) (ve_var 1)))))))
theorem w_is_range {f : Addr} {fd : FuncData} (F : Fun K "is_range" "is_range" s_is_range f fd) (hm : mg "is_range" = some (.ref f)) (T : Tx w K mg g) (f_is_count : VFn P w K mg base g 1 "is_count" m_is_count) : VFn P w K mg base g 2 "is_range" m_is_range :=
  ⟨f, fd, ["low", "high", "least", "most"], hm, F.kp, F.binds fun _ _ _ _ _ _ us hl => match us, hl with | [_, _, _, _], _ => rfl, v_is_range F hm T f_is_count⟩
abbrev s_rule_kind : Stmt := topS 37
abbrev n_rule_kind : List Str := ["columns", "name", "found", "own", "rule"]
theorem sc_rule_kind : FnScope n_rule_kind ["columns", "name"] (defScope s_rule_kind) := ⟨rfl, rfl, rfl, by decide +kernel, rfl, by decide +kernel, by decide +kernel⟩
theorem v_rule_kind {f : Addr} {fd : FuncData} (F : Fun K "rule_kind" "rule_kind" s_rule_kind f fd) (hm : mg "rule_kind" = some (.ref f)) (T : Tx w K mg g) : FnOk P w K mg base (L2N.CX P w) 1 f fd ["columns", "name"] (spV K g m_rule_kind) := by
  refine fn_ok (N := n_rule_kind) (b := b_rule_kind) F sc_rule_kind fun cdv A outer s H E F0 hcv hr => ?_
  have tk : L2N.Takes (cxOf (L2N.CX P w) P w K mg base n_rule_kind "rule_kind" (defScope s_rule_kind) f cdv A outer s H E) (fun cls d _ H' => E cls d H') := L2N.takes_of rfl rfl rfl rfl
  have hp := passes_of (X := (cxOf (L2N.CX P w) P w K mg base n_rule_kind "rule_kind" (defScope s_rule_kind) f cdv A outer s H E)) rfl
  exact (vss_cons (vs_setLc 2 [] [("own", 3), ("rule", 4)] rfl sc_rule_kind.nd (vi_seq (ve_var 0)) (blkOk_by (N := n_rule_kind) (sc := defScope s_rule_kind) (by decide +kernel)) (fun _ _ _ _ _ => (vg_tup rfl (vgs_cons (vg_name 3 sc_rule_kind.nd) (vgs_cons (vg_name 4 sc_rule_kind.nd) vgs_nil)))) (fun _ _ _ _ _ => vts_one (vt_eq hr (ve_var 3) (ve_var 1))) (fun _ _ _ _ _ => (ve_sub_ix hr (ve_var 4) ve_int)) (sw_true rfl rfl rfl (by decide +kernel)))
    (vss_one (vs_ret [] (ve_ifExp (vt_ne hr (ve_var 2) (ve_lst va_nil)) (ve_sub_ix hr (ve_var 2) ve_int) ve_non))))
theorem w_rule_kind {f : Addr} {fd : FuncData} (F : Fun K "rule_kind" "rule_kind" s_rule_kind f fd) (hm : mg "rule_kind" = some (.ref f)) (T : Tx w K mg g) : VFn P w K mg base g 1 "rule_kind" m_rule_kind :=
  ⟨f, fd, ["columns", "name"], hm, F.kp, F.binds fun _ _ _ _ _ _ us hl => match us, hl with | [_, _], _ => rfl, v_rule_kind F hm T⟩
abbrev s_is_plain_rule : Stmt := topS 38
abbrev n_is_plain_rule : List Str := ["rule", "many", "kind"]
theorem sc_is_plain_rule : FnScope n_is_plain_rule ["rule", "many"] (defScope s_is_plain_rule) := ⟨rfl, rfl, rfl, by decide +kernel, rfl, by decide +kernel, by decide +kernel⟩
theorem v_is_plain_rule {f : Addr} {fd : FuncData} (F : Fun K "is_plain_rule" "is_plain_rule" s_is_plain_rule f fd) (hm : mg "is_plain_rule" = some (.ref f)) (T : Tx w K mg g) (f_is_range : VFn P w K mg base g 2 "is_range" m_is_range) (f_are_options : VFn P w K mg base g 3 "are_options" m_are_options) (f_is_count : VFn P w K mg base g 1 "is_count" m_is_count) : FnOk P w K mg base (L2N.CX P w) 4 f fd ["rule", "many"] (spV K g m_is_plain_rule) := by
  refine fn_ok (N := n_is_plain_rule) (b := b_is_plain_rule) F sc_is_plain_rule fun cdv A outer s H E F0 hcv hr => ?_
  have tk : L2N.Takes (cxOf (L2N.CX P w) P w K mg base n_is_plain_rule "is_plain_rule" (defScope s_is_plain_rule) f cdv A outer s H E) (fun cls d _ H' => E cls d H') := L2N.takes_of rfl rfl rfl rfl
  have hp := passes_of (X := (cxOf (L2N.CX P w) P w K mg base n_is_plain_rule "is_plain_rule" (defScope s_is_plain_rule) f cdv A outer s H E)) rfl
  exact (vss_cons (vs_set 2 [] sc_is_plain_rule.nd (ve_sub_ix hr (ve_var 0) ve_int))
    (vss_cons (vs_if [] (vt_eq hr (ve_var 2) ve_str) (vss_one (vs_ret [] (ve_call f_is_range hr (by omega) tk (va_cons (ve_sub_ix hr (ve_var 0) ve_int) (va_cons (ve_sub_ix hr (ve_var 0) ve_int) (va_cons (ve_sub ve_int (ve_glob T.c_MOST_NUMBER (fun _ => .int _))) (va_cons (ve_glob T.c_MOST_NUMBER (fun _ => .int _)) va_nil))))))) vss_nil)
    (vss_cons (vs_if [] (vt_eq hr (ve_var 2) ve_str) (vss_one (vs_ret [] (ve_call f_is_range hr (by omega) tk (va_cons (ve_sub_ix hr (ve_var 0) ve_int) (va_cons (ve_sub_ix hr (ve_var 0) ve_int) (va_cons ve_int (va_cons (ve_glob T.c_MOST_WORD (fun _ => .int _)) va_nil))))))) vss_nil)
    (vss_cons (vs_if [] (vt_eq hr (ve_var 2) ve_str) (vss_one (vs_ret [] (ve_and (ve_call f_is_range hr (by omega) tk (va_cons (ve_sub_ix hr (ve_var 0) ve_int) (va_cons (ve_sub_ix hr (ve_var 0) ve_int) (va_cons (ve_sub ve_int (ve_glob T.c_MOST_NUMBER (fun _ => .int _))) (va_cons (ve_glob T.c_MOST_NUMBER (fun _ => .int _)) va_nil))))) (ve_one (ve_ge (ve_add (ve_sub (ve_sub_ix hr (ve_var 0) ve_int) (ve_sub_ix hr (ve_var 0) ve_int)) ve_int) (ve_var 1)))))) vss_nil)
    (vss_cons (vs_if [] (vt_eq hr (ve_var 2) ve_str) (vss_one (vs_ret [] (ve_call f_are_options hr (by omega) tk (va_cons (ve_sub_ix hr (ve_var 0) ve_int) va_nil)))) vss_nil)
    (vss_cons (vs_if [] (vt_eq hr (ve_var 2) ve_str) (vss_one (vs_ret [] (ve_call f_is_count hr (by omega) tk (va_cons (ve_sub_ix hr (ve_var 0) ve_int) (va_cons ve_int (va_cons ve_int va_nil)))))) vss_nil)
    (vss_one (vs_ret [] (ve_and (ve_call f_is_count hr (by omega) tk (va_cons (ve_sub_ix hr (ve_var 0) ve_int) (va_cons (ve_sub ve_int (ve_glob T.c_MOST_NUMBER (fun _ => .int _))) (va_cons (ve_glob T.c_MOST_NUMBER (fun _ => .int _)) va_nil)))) (ve_one (ve_call f_is_count hr (by omega) tk (va_cons (ve_sub_ix hr (ve_var 0) ve_int) (va_cons (ve_sub ve_int (ve_glob T.c_MOST_NUMBER (fun _ => .int _))) (va_cons (ve_glob T.c_MOST_NUMBER (fun _ => .int _)) va_nil))))))))))))))
theorem w_is_plain_rule {f : Addr} {fd : FuncData} (F : Fun K "is_plain_rule" "is_plain_rule" s_is_plain_rule f fd) (hm : mg "is_plain_rule" = some (.ref f)) (T : Tx w K mg g) (f_is_range : VFn P w K mg base g 2 "is_range" m_is_range) (f_are_options : VFn P w K mg base g 3 "are_options" m_are_options) (f_is_count : VFn P w K mg base g 1 "is_count" m_is_count) : VFn P w K mg base g 4 "is_plain_rule" m_is_plain_rule :=
  ⟨f, fd, ["rule", "many"], hm, F.kp, F.binds fun _ _ _ _ _ _ us hl => match us, hl with | [_, _], _ => rfl, v_is_plain_rule F hm T f_is_range f_are_options f_is_count⟩
abbrev s_is_rule : Stmt := topS 39
abbrev n_is_rule : List Str := ["rule", "many", "tables", "columns", "names", "goal", "name", "rows", "own"]
theorem sc_is_rule : FnScope n_is_rule ["rule", "many", "tables", "columns"] (defScope s_is_rule) := ⟨rfl, rfl, rfl, by decide +kernel, rfl, by decide +kernel, by decide +kernel⟩
theorem v_is_rule {f : Addr} {fd : FuncData} (F : Fun K "is_rule" "is_rule" s_is_rule f fd) (hm : mg "is_rule" = some (.ref f)) (T : Tx w K mg g) (f_is_plain_rule : VFn P w K mg base g 4 "is_plain_rule" m_is_plain_rule) (f_rule_kind : VFn P w K mg base g 1 "rule_kind" m_rule_kind) : FnOk P w K mg base (L2N.CX P w) 5 f fd ["rule", "many", "tables", "columns"] (spV K g m_is_rule) := by
  refine fn_ok (N := n_is_rule) (b := b_is_rule) F sc_is_rule fun cdv A outer s H E F0 hcv hr => ?_
  have tk : L2N.Takes (cxOf (L2N.CX P w) P w K mg base n_is_rule "is_rule" (defScope s_is_rule) f cdv A outer s H E) (fun cls d _ H' => E cls d H') := L2N.takes_of rfl rfl rfl rfl
  have hp := passes_of (X := (cxOf (L2N.CX P w) P w K mg base n_is_rule "is_rule" (defScope s_is_rule) f cdv A outer s H E)) rfl
  exact (vss_cons (vs_if [] (vw_pt (vw_or (vt_not (vt_of (ve_callB call_isi cd_isi T.b_isinstance (by decide +kernel) (va_cons (ve_var 0) (va_cons (ve_bltn T.b_tuple (by decide +kernel)) va_nil))))) (vw_or (vt_eq hr (ve_var 0) (ve_tup va_nil)) (vw_or1 (vt_not (vt_of (ve_callB call_isi cd_isi T.b_isinstance (by decide +kernel) (va_cons (ve_sub_ix hr (ve_var 0) ve_int) (va_cons (ve_bltn T.b_str (by decide +kernel)) va_nil))))))))) (vss_one (vs_ret [] ve_bl)) vss_nil)
    (vss_cons (vs_if [] (vw_pt (vw_or (vt_notInK T.d_LENGTHS (ve_sub_ix hr (ve_var 0) ve_int)) (vw_or1 (vt_ne hr (ve_callB call_len cd_len T.b_len (by decide +kernel) (va_cons (ve_var 0) va_nil)) (ve_itemK T.d_LENGTHS (ve_sub_ix hr (ve_var 0) ve_int)))))) (vss_one (vs_ret [] ve_bl)) vss_nil)
    (vss_cons (vs_setLc 4 [] [("name", 6), ("rows", 7), ("own", 8)] rfl sc_is_rule.nd (vi_seq (ve_var 2)) (blkOk_by (N := n_is_rule) (sc := defScope s_is_rule) (by decide +kernel)) (fun _ _ _ _ _ => (vg_tup rfl (vgs_cons (vg_name 6 sc_is_rule.nd) (vgs_cons (vg_name 7 sc_is_rule.nd) (vgs_cons (vg_name 8 sc_is_rule.nd) vgs_nil))))) (fun _ _ _ _ _ => vts_nil) (fun _ _ _ _ _ => (ve_var 6)) (sw_true rfl rfl rfl (by decide +kernel)))
    (vss_cons (vs_if [] (vt_eq hr (ve_sub_ix hr (ve_var 0) ve_int) ve_str) (vss_one (vs_ret [] (ve_and (ve_callB call_isi cd_isi T.b_isinstance (by decide +kernel) (va_cons (ve_sub_ix hr (ve_var 0) ve_int) (va_cons (ve_bltn T.b_str (by decide +kernel)) va_nil))) (ve_one (ve_in hr (ve_sub_ix hr (ve_var 0) ve_int) (ve_var 4)))))) vss_nil)
    (vss_cons (vs_if [] (vt_notIn hr (ve_sub_ix hr (ve_var 0) ve_int) (ve_tup (va_cons ve_str (va_cons ve_str va_nil)))) (vss_one (vs_ret [] (ve_call f_is_plain_rule hr (by omega) tk (va_cons (ve_var 0) (va_cons (ve_var 1) va_nil))))) vss_nil)
    (vss_cons (vs_if [] (vw_pt (vw_or (vt_not (vt_of (ve_callB call_isi cd_isi T.b_isinstance (by decide +kernel) (va_cons (ve_sub_ix hr (ve_var 0) ve_int) (va_cons (ve_bltn T.b_str (by decide +kernel)) va_nil))))) (vw_or1 (vt_not (vt_of (ve_callB call_isi cd_isi T.b_isinstance (by decide +kernel) (va_cons (ve_sub_ix hr (ve_var 0) ve_int) (va_cons (ve_bltn T.b_str (by decide +kernel)) va_nil)))))))) (vss_one (vs_ret [] ve_bl)) vss_nil)
    (vss_cons (vs_if [] (vt_eq hr (ve_sub_ix hr (ve_var 0) ve_int) ve_str) (vss_one (vs_ret [] (ve_and (ve_in hr (ve_call f_rule_kind hr (by omega) tk (va_cons (ve_var 3) (va_cons (ve_sub_ix hr (ve_var 0) ve_int) va_nil))) (ve_globT T.t_NUMBERS)) (ve_one (ve_in hr (ve_call f_rule_kind hr (by omega) tk (va_cons (ve_var 3) (va_cons (ve_sub_ix hr (ve_var 0) ve_int) va_nil))) (ve_globT T.t_NUMBERS)))))) vss_nil)
    (vss_cons (vs_if [] (vt_ne hr (ve_call f_rule_kind hr (by omega) tk (va_cons (ve_var 3) (va_cons (ve_sub_ix hr (ve_var 0) ve_int) va_nil))) ve_str) (vss_one (vs_ret [] ve_bl)) vss_nil)
    (vss_cons (vs_set 5 [] sc_is_rule.nd (ve_sub_ix hr (ve_sub_ix hr (ve_lc [("name", 6), ("own", 8)] rfl sc_is_rule.nd (vi_seq (ve_var 3)) (blkOk_by (N := n_is_rule) (sc := defScope s_is_rule) (by decide +kernel)) (fun _ _ _ _ _ => (vg_tup rfl (vgs_cons (vg_name 6 sc_is_rule.nd) (vgs_cons (vg_name 8 sc_is_rule.nd) vgs_nil)))) (fun _ _ _ _ _ => vts_one (vt_eq hr (ve_var 6) (ve_sub_ix hr (ve_var 0) ve_int))) (fun _ _ _ _ _ => (ve_var 8))) ve_int) ve_int))
    (vss_one (vs_ret [] (ve_notN (ve_call f_rule_kind hr (by omega) tk (va_cons (ve_sub_ix hr (ve_sub_ix hr (ve_var 2) (ve_index (ve_var 4) (ve_var 5))) ve_int) (va_cons (ve_sub_ix hr (ve_var 0) ve_int) va_nil)))))))))))))))
theorem w_is_rule {f : Addr} {fd : FuncData} (F : Fun K "is_rule" "is_rule" s_is_rule f fd) (hm : mg "is_rule" = some (.ref f)) (T : Tx w K mg g) (f_is_plain_rule : VFn P w K mg base g 4 "is_plain_rule" m_is_plain_rule) (f_rule_kind : VFn P w K mg base g 1 "rule_kind" m_rule_kind) : VFn P w K mg base g 5 "is_rule" m_is_rule :=
  ⟨f, fd, ["rule", "many", "tables", "columns"], hm, F.kp, F.binds fun _ _ _ _ _ _ us hl => match us, hl with | [_, _, _, _], _ => rfl, v_is_rule F hm T f_is_plain_rule f_rule_kind⟩
abbrev s_look_columns : Stmt := topS 40
abbrev n_look_columns : List Str := ["thing", "many", "tables", "columns", "one"]
theorem sc_look_columns : FnScope n_look_columns ["thing", "many", "tables"] (defScope s_look_columns) := ⟨rfl, rfl, rfl, by decide +kernel, rfl, by decide +kernel, by decide +kernel⟩
theorem v_look_columns {f : Addr} {fd : FuncData} (F : Fun K "look_columns" "look_columns" s_look_columns f fd) (hm : mg "look_columns" = some (.ref f)) (T : Tx w K mg g) (f_need_plans : VFn P w K mg base g 1 "need_plans" m_need_plans) (f_is_word : VFn P w K mg base g 1 "is_word" m_is_word) (f_rule_kind : VFn P w K mg base g 1 "rule_kind" m_rule_kind) (f_is_rule : VFn P w K mg base g 5 "is_rule" m_is_rule) : FnOk P w K mg base (L2N.CX P w) 6 f fd ["thing", "many", "tables"] (spV K g m_look_columns) := by
  refine fn_ok (N := n_look_columns) (b := b_look_columns) F sc_look_columns fun cdv A outer s H E F0 hcv hr => ?_
  have tk : L2N.Takes (cxOf (L2N.CX P w) P w K mg base n_look_columns "look_columns" (defScope s_look_columns) f cdv A outer s H E) (fun cls d _ H' => E cls d H') := L2N.takes_of rfl rfl rfl rfl
  have hp := passes_of (X := (cxOf (L2N.CX P w) P w K mg base n_look_columns "look_columns" (defScope s_look_columns) f cdv A outer s H E)) rfl
  exact (vss_cons (vs_expr [] (ve_call f_need_plans hr (by omega) tk (va_cons (ve_and (ve_callB call_isi cd_isi T.b_isinstance (by decide +kernel) (va_cons (ve_var 0) (va_cons (ve_bltn T.b_list (by decide +kernel)) va_nil))) (ve_one (ve_lele ve_int (ve_callB call_len cd_len T.b_len (by decide +kernel) (va_cons (ve_var 0) va_nil)) (ve_glob T.c_MOST_COLUMNS (fun _ => .int _))))) va_nil)))
    (vss_cons (vs_own 3 [] sc_look_columns.nd va_nil)
    (vss_one (vs_for [] hp rfl (vi_seq (ve_var 0)) (vg_name 4 sc_look_columns.nd) (vss_cons (vs_expr [] (ve_call f_need_plans hr (by omega) tk (va_cons (ve_and (ve_callB call_isi cd_isi T.b_isinstance (by decide +kernel) (va_cons (ve_var 4) (va_cons (ve_bltn T.b_tuple (by decide +kernel)) va_nil))) (ve_and (ve_eq hr (ve_callB call_len cd_len T.b_len (by decide +kernel) (va_cons (ve_var 4) va_nil)) ve_int) (ve_one (ve_call f_is_word hr (by omega) tk (va_cons (ve_sub_ix hr (ve_var 4) ve_int) (va_cons (ve_glob T.c_MOST_NAME (fun _ => .int _)) va_nil)))))) va_nil)))
    (vss_cons (vs_expr [3] (ve_call f_need_plans hr (by omega) tk (va_cons (ve_and (ve_isN (ve_call f_rule_kind hr (by omega) tk (va_cons (ve_var 3) (va_cons (ve_sub_ix hr (ve_var 4) ve_int) va_nil)))) (ve_one (ve_call f_is_rule hr (by omega) tk (va_cons (ve_sub_ix hr (ve_var 4) ve_int) (va_cons (ve_var 1) (va_cons (ve_var 2) (va_cons (ve_var 3) va_nil))))))) va_nil)))
    (vss_one (vs_app2 3 [] (ve_var 4)))))))))
theorem w_look_columns {f : Addr} {fd : FuncData} (F : Fun K "look_columns" "look_columns" s_look_columns f fd) (hm : mg "look_columns" = some (.ref f)) (T : Tx w K mg g) (f_need_plans : VFn P w K mg base g 1 "need_plans" m_need_plans) (f_is_word : VFn P w K mg base g 1 "is_word" m_is_word) (f_rule_kind : VFn P w K mg base g 1 "rule_kind" m_rule_kind) (f_is_rule : VFn P w K mg base g 5 "is_rule" m_is_rule) : VFn P w K mg base g 6 "look_columns" m_look_columns :=
  ⟨f, fd, ["thing", "many", "tables"], hm, F.kp, F.binds fun _ _ _ _ _ _ us hl => match us, hl with | [_, _, _], _ => rfl, v_look_columns F hm T f_need_plans f_is_word f_rule_kind f_is_rule⟩
abbrev s_need_plan : Stmt := topS 41
abbrev n_need_plan : List Str := ["plan", "tables", "one", "name", "many", "columns"]
theorem sc_need_plan : FnScope n_need_plan ["plan"] (defScope s_need_plan) := ⟨rfl, rfl, rfl, by decide +kernel, rfl, by decide +kernel, by decide +kernel⟩
theorem v_need_plan {f : Addr} {fd : FuncData} (F : Fun K "need_plan" "need_plan" s_need_plan f fd) (hm : mg "need_plan" = some (.ref f)) (T : Tx w K mg g) (f_need_plans : VFn P w K mg base g 1 "need_plans" m_need_plans) (f_is_word : VFn P w K mg base g 1 "is_word" m_is_word) (f_is_count : VFn P w K mg base g 1 "is_count" m_is_count) (f_look_columns : VFn P w K mg base g 6 "look_columns" m_look_columns) : FnOk P w K mg base (L2N.CX P w) 7 f fd ["plan"] (spV K g m_need_plan) := by
  refine fn_ok (N := n_need_plan) (b := b_need_plan) F sc_need_plan fun cdv A outer s H E F0 hcv hr => ?_
  have tk : L2N.Takes (cxOf (L2N.CX P w) P w K mg base n_need_plan "need_plan" (defScope s_need_plan) f cdv A outer s H E) (fun cls d _ H' => E cls d H') := L2N.takes_of rfl rfl rfl rfl
  have hp := passes_of (X := (cxOf (L2N.CX P w) P w K mg base n_need_plan "need_plan" (defScope s_need_plan) f cdv A outer s H E)) rfl
  exact (vss_cons (vs_expr [] (ve_call f_need_plans hr (by omega) tk (va_cons (ve_and (ve_callB call_isi cd_isi T.b_isinstance (by decide +kernel) (va_cons (ve_var 0) (va_cons (ve_bltn T.b_list (by decide +kernel)) va_nil))) (ve_one (ve_lele ve_int (ve_callB call_len cd_len T.b_len (by decide +kernel) (va_cons (ve_var 0) va_nil)) (ve_glob T.c_MOST_TABLES (fun _ => .int _))))) va_nil)))
    (vss_cons (vs_own 1 [] sc_need_plan.nd va_nil)
    (vss_one (vs_for [] hp rfl (vi_seq (ve_var 0)) (vg_name 2 sc_need_plan.nd) (vss_cons (vs_expr [] (ve_call f_need_plans hr (by omega) tk (va_cons (ve_and (ve_callB call_isi cd_isi T.b_isinstance (by decide +kernel) (va_cons (ve_var 2) (va_cons (ve_bltn T.b_tuple (by decide +kernel)) va_nil))) (ve_and (ve_eq hr (ve_callB call_len cd_len T.b_len (by decide +kernel) (va_cons (ve_var 2) va_nil)) ve_int) (ve_one (ve_call f_is_word hr (by omega) tk (va_cons (ve_sub_ix hr (ve_var 2) ve_int) (va_cons (ve_glob T.c_MOST_NAME (fun _ => .int _)) va_nil)))))) va_nil)))
    (vss_cons (vs_expr [1] (ve_call f_need_plans hr (by omega) tk (va_cons (ve_and (ve_notIn hr (ve_sub_ix hr (ve_var 2) ve_int) (ve_lc [("name", 3), ("many", 4), ("columns", 5)] rfl sc_need_plan.nd (vi_seq (ve_var 1)) (blkOk_by (N := n_need_plan) (sc := defScope s_need_plan) (by decide +kernel)) (fun _ _ _ _ _ => (vg_tup rfl (vgs_cons (vg_name 3 sc_need_plan.nd) (vgs_cons (vg_name 4 sc_need_plan.nd) (vgs_cons (vg_name 5 sc_need_plan.nd) vgs_nil))))) (fun _ _ _ _ _ => vts_nil) (fun _ _ _ _ _ => (ve_var 3)))) (ve_one (ve_call f_is_count hr (by omega) tk (va_cons (ve_sub_ix hr (ve_var 2) ve_int) (va_cons ve_int (va_cons (ve_glob T.c_MOST_ROWS (fun _ => .int _)) va_nil)))))) va_nil)))
    (vss_cons (vs_expr [1] (ve_call f_look_columns hr (by omega) tk (va_cons (ve_sub_ix hr (ve_var 2) ve_int) (va_cons (ve_sub_ix hr (ve_var 2) ve_int) (va_cons (ve_var 1) va_nil)))))
    (vss_one (vs_app2 1 [] (ve_var 2))))))))))
theorem w_need_plan {f : Addr} {fd : FuncData} (F : Fun K "need_plan" "need_plan" s_need_plan f fd) (hm : mg "need_plan" = some (.ref f)) (T : Tx w K mg g) (f_need_plans : VFn P w K mg base g 1 "need_plans" m_need_plans) (f_is_word : VFn P w K mg base g 1 "is_word" m_is_word) (f_is_count : VFn P w K mg base g 1 "is_count" m_is_count) (f_look_columns : VFn P w K mg base g 6 "look_columns" m_look_columns) : VFn P w K mg base g 7 "need_plan" m_need_plan :=
  ⟨f, fd, ["plan"], hm, F.kp, F.binds fun _ _ _ _ _ _ us hl => match us, hl with | [_], _ => rfl, v_need_plan F hm T f_need_plans f_is_word f_is_count f_look_columns⟩
abbrev s_World___init : Stmt := inClass (topS 43) 0
abbrev n_World___init : List Str := ["self", "plan", "seed", "at", "name", "many", "columns"]
theorem sc_World___init : FnScope n_World___init ["self", "plan", "seed"] (defScope s_World___init) := ⟨rfl, rfl, rfl, by decide +kernel, rfl, by decide +kernel, by decide +kernel⟩
theorem w_World___init {f : Addr} {fd : FuncData} (F : Fun K "__init__" "World.__init__" s_World___init f fd) (hm : L2.Mk K (g.cls "World") f) (hg : mg "World" = some (.ref (g.cls "World"))) (T : Tx w K mg g) (f_need_plan : VFn P w K mg base g 7 "need_plan" m_need_plan) (f_drawn : VFn P w K mg base g 2 "drawn" m_drawn) : VMk P w K mg base g 8 "World" m_World___init := by
  refine ⟨f, fd, ["self", "plan", "seed"], hm, hg, F.binds fun _ _ _ _ _ _ us hl => match us, hl with | [_, _, _], _ => rfl, ?_⟩
  refine init_ok (n := 2) (N := n_World___init) F sc_World___init (by decide) rfl (by decide) T.cl_World T.na_World_plan T.na_World_seed T.na_World_places fun cdv A outer s H E hcv hr => ?_
  have tk : L2N.Takes (cxOf (L2N.CX P w) P w K mg base n_World___init "World.__init__" (defScope s_World___init) f cdv A outer s H E) (fun cls d _ H' => E cls d H') := L2N.takes_of rfl rfl rfl rfl
  have hp := passes_of (X := (cxOf (L2N.CX P w) P w K mg base n_World___init "World.__init__" (defScope s_World___init) f cdv A outer s H E)) rfl
  have pv0 : ∀ {pos : Pos}, L2.PE (cxOf (L2N.CX P w) P w K mg base n_World___init "World.__init__" (defScope s_World___init) f cdv A outer s H E) (.Name "self" pos) (L2.tVar 0) := pe_var (i := 0) rfl (by first | exact Or.inl rfl | exact Or.inr (Or.inl rfl) | exact Or.inr (Or.inr rfl))
  exact pss_cons (ps_expr (ve_call f_need_plan hr (by omega) tk (va_cons (ve_var 1) va_nil))) (pss_cons (ps_expr (ve_call f_drawn hr (by omega) tk (va_cons (ve_var 2) (va_cons ve_int (va_cons ve_int (va_cons ve_int va_nil)))))) (pss_cons (ps_fld pv0 (ve_lc [("name", 4), ("many", 5), ("columns", 6)] rfl sc_World___init.nd (vi_seq (ve_var 1)) (blkOk_by (N := n_World___init) (sc := defScope s_World___init) (by decide +kernel)) (fun _ _ _ _ _ => (vg_tup rfl (vgs_cons (vg_name 4 sc_World___init.nd) (vgs_cons (vg_name 5 sc_World___init.nd) (vgs_cons (vg_name 6 sc_World___init.nd) vgs_nil))))) (fun _ _ _ _ _ => vts_nil) (fun _ _ _ _ _ => (ve_tup (va_cons (ve_var 4) (va_cons (ve_var 5) (va_cons (ve_callTy call_list_of cd_list T.b_list (by decide +kernel) (va_cons (ve_var 6) va_nil)) va_nil)))))) rfl) (pss_cons (ps_fld pv0 (ve_var 2) rfl) (pss_cons (ps_fld pv0 pe_dnewK rfl)
      (pss_one (ps_for hp rfl (vi_enum T.b_enumerate (va_cons (ve_fld T.cl_World T.na_World_plan (ve_var 0)) va_nil)) (vg_tup rfl (vgs_cons (vg_name 3 sc_World___init.nd) (vgs_cons (vg_tup rfl (vgs_cons (vg_name 4 sc_World___init.nd) (vgs_cons (vg_name 5 sc_World___init.nd) (vgs_cons (vg_name 6 sc_World___init.nd) vgs_nil)))) vgs_nil))) (pss_one (ps_dput (hu_of hr) (pe_fld pv0 rfl) (ve_var 4) (ve_var 3) rfl))))))))
abbrev s_World_need_cell : Stmt := inClass (topS 43) 1
abbrev n_World_need_cell : List Str := ["self", "good"]
theorem sc_World_need_cell : FnScope n_World_need_cell ["self", "good"] (defScope s_World_need_cell) := ⟨rfl, rfl, rfl, by decide +kernel, rfl, by decide +kernel, by decide +kernel⟩
theorem v_World_need_cell {f : Addr} {fd : FuncData} (F : Fun K "need_cell" "World.need_cell" s_World_need_cell f fd) (hm : L2.Meth K (g.cls "World") "need_cell" f) (T : Tx w K mg g) : FnOk P w K mg base (L2N.CX P w) 1 f fd ["self", "good"] (spV K g m_World_need_cell) := by
  refine fn_ok (N := n_World_need_cell) (b := b_World_need_cell) F sc_World_need_cell fun cdv A outer s H E F0 hcv hr => ?_
  have tk : L2N.Takes (cxOf (L2N.CX P w) P w K mg base n_World_need_cell "World.need_cell" (defScope s_World_need_cell) f cdv A outer s H E) (fun cls d _ H' => E cls d H') := L2N.takes_of rfl rfl rfl rfl
  have hp := passes_of (X := (cxOf (L2N.CX P w) P w K mg base n_World_need_cell "World.need_cell" (defScope s_World_need_cell) f cdv A outer s H E)) rfl
  exact (vss_one (vs_if [] (vt_not (vt_of (ve_var 1))) (vss_one (vs_raise T.x_NoCell rfl tk)) vss_nil))
theorem w_World_need_cell {f : Addr} {fd : FuncData} (F : Fun K "need_cell" "World.need_cell" s_World_need_cell f fd) (hm : L2.Meth K (g.cls "World") "need_cell" f) (T : Tx w K mg g) : VMth P w K mg base g 1 "World" "need_cell" m_World_need_cell :=
  ⟨f, fd, ["self", "good"], T.cl_World, hm, F.binds fun _ _ _ _ _ _ us hl => match us, hl with | [_, _], _ => rfl, v_World_need_cell F hm T⟩
abbrev s_World_names : Stmt := inClass (topS 43) 2
abbrev n_World_names : List Str := ["self", "name", "many", "columns"]
theorem sc_World_names : FnScope n_World_names ["self"] (defScope s_World_names) := ⟨rfl, rfl, rfl, by decide +kernel, rfl, by decide +kernel, by decide +kernel⟩
theorem v_World_names {f : Addr} {fd : FuncData} (F : Fun K "names" "World.names" s_World_names f fd) (hm : L2.Meth K (g.cls "World") "names" f) (T : Tx w K mg g) : FnOk P w K mg base (L2N.CX P w) 1 f fd ["self"] (spV K g m_World_names) := by
  refine fn_ok (N := n_World_names) (b := b_World_names) F sc_World_names fun cdv A outer s H E F0 hcv hr => ?_
  have tk : L2N.Takes (cxOf (L2N.CX P w) P w K mg base n_World_names "World.names" (defScope s_World_names) f cdv A outer s H E) (fun cls d _ H' => E cls d H') := L2N.takes_of rfl rfl rfl rfl
  have hp := passes_of (X := (cxOf (L2N.CX P w) P w K mg base n_World_names "World.names" (defScope s_World_names) f cdv A outer s H E)) rfl
  exact (vss_one (vs_ret [] (ve_lc [("name", 1), ("many", 2), ("columns", 3)] rfl sc_World_names.nd (vi_seq (ve_fld T.cl_World T.na_World_plan (ve_var 0))) (blkOk_by (N := n_World_names) (sc := defScope s_World_names) (by decide +kernel)) (fun _ _ _ _ _ => (vg_tup rfl (vgs_cons (vg_name 1 sc_World_names.nd) (vgs_cons (vg_name 2 sc_World_names.nd) (vgs_cons (vg_name 3 sc_World_names.nd) vgs_nil))))) (fun _ _ _ _ _ => vts_nil) (fun _ _ _ _ _ => (ve_var 1)))))
theorem w_World_names {f : Addr} {fd : FuncData} (F : Fun K "names" "World.names" s_World_names f fd) (hm : L2.Meth K (g.cls "World") "names" f) (T : Tx w K mg g) : VMth P w K mg base g 1 "World" "names" m_World_names :=
  ⟨f, fd, ["self"], T.cl_World, hm, F.binds fun _ _ _ _ _ _ us hl => match us, hl with | [_], _ => rfl, v_World_names F hm T⟩
abbrev s_World_at : Stmt := inClass (topS 43) 3
abbrev n_World_at : List Str := ["self", "table"]
theorem sc_World_at : FnScope n_World_at ["self", "table"] (defScope s_World_at) := ⟨rfl, rfl, rfl, by decide +kernel, rfl, by decide +kernel, by decide +kernel⟩
theorem v_World_at {f : Addr} {fd : FuncData} (F : Fun K "at" "World.at" s_World_at f fd) (hm : L2.Meth K (g.cls "World") "at" f) (T : Tx w K mg g) (f_World_need_cell : VMth P w K mg base g 1 "World" "need_cell" m_World_need_cell) : FnOk P w K mg base (L2N.CX P w) 2 f fd ["self", "table"] (spV K g m_World_at) := by
  refine fn_ok (N := n_World_at) (b := b_World_at) F sc_World_at fun cdv A outer s H E F0 hcv hr => ?_
  have tk : L2N.Takes (cxOf (L2N.CX P w) P w K mg base n_World_at "World.at" (defScope s_World_at) f cdv A outer s H E) (fun cls d _ H' => E cls d H') := L2N.takes_of rfl rfl rfl rfl
  have hp := passes_of (X := (cxOf (L2N.CX P w) P w K mg base n_World_at "World.at" (defScope s_World_at) f cdv A outer s H E)) rfl
  exact (vss_cons (vs_expr [] (ve_meth f_World_need_cell hr (by omega) tk (ve_var 0) (va_cons (ve_and (ve_callB call_isi cd_isi T.b_isinstance (by decide +kernel) (va_cons (ve_var 1) (va_cons (ve_bltn T.b_str (by decide +kernel)) va_nil))) (ve_one (ve_in hr (ve_var 1) (ve_fld T.cl_World T.na_World_places (ve_var 0))))) va_nil)))
    (vss_one (vs_ret [] (ve_sub_ix hr (ve_fld T.cl_World T.na_World_places (ve_var 0)) (ve_var 1)))))
theorem w_World_at {f : Addr} {fd : FuncData} (F : Fun K "at" "World.at" s_World_at f fd) (hm : L2.Meth K (g.cls "World") "at" f) (T : Tx w K mg g) (f_World_need_cell : VMth P w K mg base g 1 "World" "need_cell" m_World_need_cell) : VMth P w K mg base g 2 "World" "at" m_World_at :=
  ⟨f, fd, ["self", "table"], T.cl_World, hm, F.binds fun _ _ _ _ _ _ us hl => match us, hl with | [_, _], _ => rfl, v_World_at F hm T f_World_need_cell⟩
abbrev s_World_columns : Stmt := inClass (topS 43) 4
abbrev n_World_columns : List Str := ["self", "table", "name", "rule"]
theorem sc_World_columns : FnScope n_World_columns ["self", "table"] (defScope s_World_columns) := ⟨rfl, rfl, rfl, by decide +kernel, rfl, by decide +kernel, by decide +kernel⟩
theorem v_World_columns {f : Addr} {fd : FuncData} (F : Fun K "columns" "World.columns" s_World_columns f fd) (hm : L2.Meth K (g.cls "World") "columns" f) (T : Tx w K mg g) (f_World_at : VMth P w K mg base g 2 "World" "at" m_World_at) : FnOk P w K mg base (L2N.CX P w) 3 f fd ["self", "table"] (spV K g m_World_columns) := by
  refine fn_ok (N := n_World_columns) (b := b_World_columns) F sc_World_columns fun cdv A outer s H E F0 hcv hr => ?_
  have tk : L2N.Takes (cxOf (L2N.CX P w) P w K mg base n_World_columns "World.columns" (defScope s_World_columns) f cdv A outer s H E) (fun cls d _ H' => E cls d H') := L2N.takes_of rfl rfl rfl rfl
  have hp := passes_of (X := (cxOf (L2N.CX P w) P w K mg base n_World_columns "World.columns" (defScope s_World_columns) f cdv A outer s H E)) rfl
  exact (vss_one (vs_ret [] (ve_lc [("name", 2), ("rule", 3)] rfl sc_World_columns.nd (vi_seq (ve_sub_ix hr (ve_sub_ix hr (ve_fld T.cl_World T.na_World_plan (ve_var 0)) (ve_meth f_World_at hr (by omega) tk (ve_var 0) (va_cons (ve_var 1) va_nil))) ve_int)) (blkOk_by (N := n_World_columns) (sc := defScope s_World_columns) (by decide +kernel)) (fun _ _ _ _ _ => (vg_tup rfl (vgs_cons (vg_name 2 sc_World_columns.nd) (vgs_cons (vg_name 3 sc_World_columns.nd) vgs_nil)))) (fun _ _ _ _ _ => vts_nil) (fun _ _ _ _ _ => (ve_var 2)))))
theorem w_World_columns {f : Addr} {fd : FuncData} (F : Fun K "columns" "World.columns" s_World_columns f fd) (hm : L2.Meth K (g.cls "World") "columns" f) (T : Tx w K mg g) (f_World_at : VMth P w K mg base g 2 "World" "at" m_World_at) : VMth P w K mg base g 3 "World" "columns" m_World_columns :=
  ⟨f, fd, ["self", "table"], T.cl_World, hm, F.binds fun _ _ _ _ _ _ us hl => match us, hl with | [_, _], _ => rfl, v_World_columns F hm T f_World_at⟩
abbrev s_World_many : Stmt := inClass (topS 43) 5
abbrev n_World_many : List Str := ["self", "table"]
theorem sc_World_many : FnScope n_World_many ["self", "table"] (defScope s_World_many) := ⟨rfl, rfl, rfl, by decide +kernel, rfl, by decide +kernel, by decide +kernel⟩
theorem v_World_many {f : Addr} {fd : FuncData} (F : Fun K "many" "World.many" s_World_many f fd) (hm : L2.Meth K (g.cls "World") "many" f) (T : Tx w K mg g) (f_World_at : VMth P w K mg base g 2 "World" "at" m_World_at) : FnOk P w K mg base (L2N.CX P w) 3 f fd ["self", "table"] (spV K g m_World_many) := by
  refine fn_ok (N := n_World_many) (b := b_World_many) F sc_World_many fun cdv A outer s H E F0 hcv hr => ?_
  have tk : L2N.Takes (cxOf (L2N.CX P w) P w K mg base n_World_many "World.many" (defScope s_World_many) f cdv A outer s H E) (fun cls d _ H' => E cls d H') := L2N.takes_of rfl rfl rfl rfl
  have hp := passes_of (X := (cxOf (L2N.CX P w) P w K mg base n_World_many "World.many" (defScope s_World_many) f cdv A outer s H E)) rfl
  exact (vss_one (vs_ret [] (ve_sub_ix hr (ve_sub_ix hr (ve_fld T.cl_World T.na_World_plan (ve_var 0)) (ve_meth f_World_at hr (by omega) tk (ve_var 0) (va_cons (ve_var 1) va_nil))) ve_int)))
theorem w_World_many {f : Addr} {fd : FuncData} (F : Fun K "many" "World.many" s_World_many f fd) (hm : L2.Meth K (g.cls "World") "many" f) (T : Tx w K mg g) (f_World_at : VMth P w K mg base g 2 "World" "at" m_World_at) : VMth P w K mg base g 3 "World" "many" m_World_many :=
  ⟨f, fd, ["self", "table"], T.cl_World, hm, F.binds fun _ _ _ _ _ _ us hl => match us, hl with | [_, _], _ => rfl, v_World_many F hm T f_World_at⟩
abbrev s_World_looked : Stmt := inClass (topS 43) 8
abbrev n_World_looked : List Str := ["self", "at", "row", "rule", "columns", "first", "goal", "name", "own"]
theorem sc_World_looked : FnScope n_World_looked ["self", "at", "row", "rule"] (defScope s_World_looked) := ⟨rfl, rfl, rfl, by decide +kernel, rfl, by decide +kernel, by decide +kernel⟩
theorem v_World_looked {f : Addr} {fd : FuncData} {k : Nat} {rec : List Dat → Res Dat} (F : Fun K "looked" "World.looked" s_World_looked f fd) (hm : L2.Meth K (g.cls "World") "looked" f) (T : Tx w K mg g) (f_rec : VMth P w K mg base g (3 + k) "World" "worth" rec) : VMth P w K mg base g (3 + k + 1) "World" "looked" (m_World_looked rec) := by
  refine ⟨f, fd, ["self", "at", "row", "rule"], T.cl_World, hm, F.binds fun _ _ _ _ _ _ us hl => match us, hl with | [_, _, _, _], _ => rfl, ?_⟩
  refine fn_ok (k := 3 + k) (N := n_World_looked) (b := b_World_looked rec) F sc_World_looked fun cdv A outer s H E F0 hcv hr => ?_
  have tk : L2N.Takes (cxOf (L2N.CX P w) P w K mg base n_World_looked "World.looked" (defScope s_World_looked) f cdv A outer s H E) (fun cls d _ H' => E cls d H') := L2N.takes_of rfl rfl rfl rfl
  have hp := passes_of (X := (cxOf (L2N.CX P w) P w K mg base n_World_looked "World.looked" (defScope s_World_looked) f cdv A outer s H E)) rfl
  exact (vss_cons (vs_setLc 4 [] [("name", 7), ("own", 8)] rfl sc_World_looked.nd (vi_seq (ve_sub_ix hr (ve_sub_ix hr (ve_fld T.cl_World T.na_World_plan (ve_var 0)) (ve_var 1)) ve_int)) (blkOk_by (N := n_World_looked) (sc := defScope s_World_looked) (by decide +kernel)) (fun _ _ _ _ _ => (vg_tup rfl (vgs_cons (vg_name 7 sc_World_looked.nd) (vgs_cons (vg_name 8 sc_World_looked.nd) vgs_nil)))) (fun _ _ _ _ _ => vts_nil) (fun _ _ _ _ _ => (ve_var 7)) (sw_true rfl rfl rfl (by decide +kernel)))
    (vss_cons (vs_set 5 [] sc_World_looked.nd (ve_meth f_rec hr (by omega) tk (ve_var 0) (va_cons (ve_var 1) (va_cons (ve_var 2) (va_cons (ve_index (ve_var 4) (ve_sub_ix hr (ve_var 3) ve_int)) va_nil)))))
    (vss_cons (vs_if [] (vt_eq hr (ve_sub_ix hr (ve_var 3) ve_int) ve_str) (vss_one (vs_ret [] (ve_add (ve_var 5) (ve_meth f_rec hr (by omega) tk (ve_var 0) (va_cons (ve_var 1) (va_cons (ve_var 2) (va_cons (ve_index (ve_var 4) (ve_sub_ix hr (ve_var 3) ve_int)) va_nil))))))) vss_nil)
    (vss_cons (vs_set 6 [] sc_World_looked.nd (ve_sub_ix hr (ve_fld T.cl_World T.na_World_places (ve_var 0)) (ve_sub_ix hr (ve_sub_ix hr (ve_callTy (call_lk ((call_dictP rfl).or call_dictD)) cd_dict T.b_dict (by decide +kernel) (va_cons (ve_sub_ix hr (ve_sub_ix hr (ve_fld T.cl_World T.na_World_plan (ve_var 0)) (ve_var 1)) ve_int) va_nil)) (ve_sub_ix hr (ve_var 3) ve_int)) ve_int)))
    (vss_one (vs_ret [] (ve_meth f_rec hr (by omega) tk (ve_var 0) (va_cons (ve_var 6) (va_cons (ve_var 5) (va_cons (ve_index (ve_lc [("name", 7), ("own", 8)] rfl sc_World_looked.nd (vi_seq (ve_sub_ix hr (ve_sub_ix hr (ve_fld T.cl_World T.na_World_plan (ve_var 0)) (ve_var 6)) ve_int)) (blkOk_by (N := n_World_looked) (sc := defScope s_World_looked) (by decide +kernel)) (fun _ _ _ _ _ => (vg_tup rfl (vgs_cons (vg_name 7 sc_World_looked.nd) (vgs_cons (vg_name 8 sc_World_looked.nd) vgs_nil)))) (fun _ _ _ _ _ => vts_nil) (fun _ _ _ _ _ => (ve_var 7))) (ve_sub_ix hr (ve_var 3) ve_int)) va_nil))))))))))
abbrev s_World_worth : Stmt := inClass (topS 43) 7
abbrev n_World_worth : List Str := ["self", "at", "row", "place", "rule", "number", "name", "many", "columns", "text", "share"]
theorem sc_World_worth : FnScope n_World_worth ["self", "at", "row", "place"] (defScope s_World_worth) := ⟨rfl, rfl, rfl, by decide +kernel, rfl, by decide +kernel, by decide +kernel⟩
theorem v_World_worth {f : Addr} {fd : FuncData} (F : Fun K "worth" "World.worth" s_World_worth f fd) (hm : L2.Meth K (g.cls "World") "worth" f) (T : Tx w K mg g) {a_World_looked : Addr} {d_World_looked : FuncData} (F_World_looked : Fun K "looked" "World.looked" s_World_looked a_World_looked d_World_looked) (m_World_looked : L2.Meth K (g.cls "World") "looked" a_World_looked) (f_draw : VFn P w K mg base g 1 "draw" m_draw) (f_shared_of : VFn P w K mg base g 1 "shared_of" m_shared_of) (f_word_of : VFn P w K mg base g 1 "word_of" m_word_of) (f_spread_of : VFn P w K mg base g 2 "spread_of" m_spread_of) : ∀ k : Nat, FnOk P w K mg base (L2N.CX P w) (3 + 2 * k) f fd ["self", "at", "row", "place"] (spV K g (m_World_worth k))
  | 0 => fn_stuck
  | k + 1 => by
    have f_rec : VMth P w K mg base g (3 + 2 * k) "World" "worth" (m_World_worth k) := ⟨f, fd, ["self", "at", "row", "place"], T.cl_World, hm, F.binds fun _ _ _ _ _ _ us hl => match us, hl with | [_, _, _, _], _ => rfl, v_World_worth F hm T F_World_looked m_World_looked f_draw f_shared_of f_word_of f_spread_of k⟩
    have f_World_looked := v_World_looked (k := 2 * k) F_World_looked m_World_looked T f_rec
    refine fn_ok (k := 3 + 2 * k + 1) (N := n_World_worth) (b := b_World_worth (m_World_worth k)) F sc_World_worth fun cdv A outer s H E F0 hcv hr => ?_
    have tk : L2N.Takes (cxOf (L2N.CX P w) P w K mg base n_World_worth "World.worth" (defScope s_World_worth) f cdv A outer s H E) (fun cls d _ H' => E cls d H') := L2N.takes_of rfl rfl rfl rfl
    have hp := passes_of (X := (cxOf (L2N.CX P w) P w K mg base n_World_worth "World.worth" (defScope s_World_worth) f cdv A outer s H E)) rfl
    exact (vss_cons (vs_bind2 [] (ve_sub_ix hr (ve_fld T.cl_World T.na_World_plan (ve_var 0)) (ve_var 1)) (vg_tup rfl (vgs_cons (vg_name 6 sc_World_worth.nd) (vgs_cons (vg_name 7 sc_World_worth.nd) (vgs_cons (vg_name 8 sc_World_worth.nd) vgs_nil)))))
    (vss_cons (vs_set 4 [] sc_World_worth.nd (ve_sub_ix hr (ve_sub_ix hr (ve_var 8) (ve_var 3)) ve_int))
    (vss_cons (vs_set 5 [] sc_World_worth.nd (ve_call f_draw hr (by omega) tk (va_cons (ve_fld T.cl_World T.na_World_seed (ve_var 0)) (va_cons (ve_var 1) (va_cons (ve_var 3) (va_cons (ve_var 2) va_nil))))))
    (vss_cons (vs_if [] (vt_eq hr (ve_sub_ix hr (ve_var 4) ve_int) ve_str) (vss_one (vs_ret [] (ve_add (ve_sub_ix hr (ve_var 4) ve_int) (ve_mod (ve_var 5) (ve_add (ve_sub (ve_sub_ix hr (ve_var 4) ve_int) (ve_sub_ix hr (ve_var 4) ve_int)) ve_int))))) vss_nil)
    (vss_cons (vs_if [] (vt_eq hr (ve_sub_ix hr (ve_var 4) ve_int) ve_str) (vss_one (vs_ret [] (ve_sub_ix hr (ve_sub_ix hr (ve_sub_ix hr (ve_var 4) ve_int) (ve_call f_shared_of hr (by omega) tk (va_cons (ve_var 5) (va_cons (ve_lc [("text", 9), ("share", 10)] rfl sc_World_worth.nd (vi_seq (ve_sub_ix hr (ve_var 4) ve_int)) (blkOk_by (N := n_World_worth) (sc := defScope s_World_worth) (by decide +kernel)) (fun _ _ _ _ _ => (vg_tup rfl (vgs_cons (vg_name 9 sc_World_worth.nd) (vgs_cons (vg_name 10 sc_World_worth.nd) vgs_nil)))) (fun _ _ _ _ _ => vts_nil) (fun _ _ _ _ _ => (ve_var 10))) va_nil)))) ve_int))) vss_nil)
    (vss_cons (vs_if [] (vt_eq hr (ve_sub_ix hr (ve_var 4) ve_int) ve_str) (vss_one (vs_ret [] (ve_call f_word_of hr (by omega) tk (va_cons (ve_var 5) (va_cons (ve_sub_ix hr (ve_var 4) ve_int) (va_cons (ve_sub_ix hr (ve_var 4) ve_int) va_nil)))))) vss_nil)
    (vss_cons (vs_if [] (vt_eq hr (ve_sub_ix hr (ve_var 4) ve_int) ve_str) (vss_one (vs_ret [] (ve_lt (ve_mod (ve_var 5) ve_int) (ve_sub_ix hr (ve_var 4) ve_int)))) vss_nil)
    (vss_cons (vs_if [] (vt_eq hr (ve_sub_ix hr (ve_var 4) ve_int) ve_str) (vss_one (vs_ret [] (ve_add ve_int (ve_mod (ve_var 5) (ve_sub_ix hr (ve_sub_ix hr (ve_fld T.cl_World T.na_World_plan (ve_var 0)) (ve_sub_ix hr (ve_fld T.cl_World T.na_World_places (ve_var 0)) (ve_sub_ix hr (ve_var 4) ve_int))) ve_int))))) vss_nil)
    (vss_cons (vs_if [] (vt_eq hr (ve_sub_ix hr (ve_var 4) ve_int) ve_str) (vss_one (vs_ret [] (ve_add (ve_sub_ix hr (ve_var 4) ve_int) (ve_mul (ve_sub_ix hr (ve_var 4) ve_int) (ve_sub (ve_var 2) ve_int))))) vss_nil)
    (vss_cons (vs_if [] (vt_eq hr (ve_sub_ix hr (ve_var 4) ve_int) ve_str) (vss_one (vs_ret [] (ve_add (ve_sub_ix hr (ve_var 4) ve_int) (ve_call f_spread_of hr (by omega) tk (va_cons (ve_call f_draw hr (by omega) tk (va_cons (ve_fld T.cl_World T.na_World_seed (ve_var 0)) (va_cons (ve_var 1) (va_cons (ve_var 3) (va_cons ve_int va_nil))))) (va_cons (ve_var 2) (va_cons (ve_add (ve_sub (ve_sub_ix hr (ve_var 4) ve_int) (ve_sub_ix hr (ve_var 4) ve_int)) ve_int) va_nil))))))) vss_nil)
    (vss_one (vs_ret [] (ve_meth f_World_looked hr (by omega) tk (ve_var 0) (va_cons (ve_var 1) (va_cons (ve_var 2) (va_cons (ve_var 4) va_nil))))))))))))))))
theorem w_World_worth {f : Addr} {fd : FuncData} (F : Fun K "worth" "World.worth" s_World_worth f fd) (hm : L2.Meth K (g.cls "World") "worth" f) (T : Tx w K mg g) {a_World_looked : Addr} {d_World_looked : FuncData} (F_World_looked : Fun K "looked" "World.looked" s_World_looked a_World_looked d_World_looked) (m_World_looked : L2.Meth K (g.cls "World") "looked" a_World_looked) (f_draw : VFn P w K mg base g 1 "draw" m_draw) (f_shared_of : VFn P w K mg base g 1 "shared_of" m_shared_of) (f_word_of : VFn P w K mg base g 1 "word_of" m_word_of) (f_spread_of : VFn P w K mg base g 2 "spread_of" m_spread_of) : VMth P w K mg base g 45 "World" "worth" (m_World_worth 21) :=
  ⟨f, fd, ["self", "at", "row", "place"], T.cl_World, hm, F.binds fun _ _ _ _ _ _ us hl => match us, hl with | [_, _, _, _], _ => rfl, v_World_worth F hm T F_World_looked m_World_looked f_draw f_shared_of f_word_of f_spread_of 21⟩
abbrev s_World_cell : Stmt := inClass (topS 43) 6
abbrev n_World_cell : List Str := ["self", "table", "row", "column", "at"]
theorem sc_World_cell : FnScope n_World_cell ["self", "table", "row", "column"] (defScope s_World_cell) := ⟨rfl, rfl, rfl, by decide +kernel, rfl, by decide +kernel, by decide +kernel⟩
theorem v_World_cell {f : Addr} {fd : FuncData} (F : Fun K "cell" "World.cell" s_World_cell f fd) (hm : L2.Meth K (g.cls "World") "cell" f) (T : Tx w K mg g) (f_World_at : VMth P w K mg base g 2 "World" "at" m_World_at) (f_World_many : VMth P w K mg base g 3 "World" "many" m_World_many) (f_is_count : VFn P w K mg base g 1 "is_count" m_is_count) (f_World_need_cell : VMth P w K mg base g 1 "World" "need_cell" m_World_need_cell) (f_World_columns : VMth P w K mg base g 3 "World" "columns" m_World_columns) (f_World_worth : VMth P w K mg base g 45 "World" "worth" (m_World_worth 21)) : FnOk P w K mg base (L2N.CX P w) 46 f fd ["self", "table", "row", "column"] (spV K g m_World_cell) := by
  refine fn_ok (N := n_World_cell) (b := b_World_cell) F sc_World_cell fun cdv A outer s H E F0 hcv hr => ?_
  have tk : L2N.Takes (cxOf (L2N.CX P w) P w K mg base n_World_cell "World.cell" (defScope s_World_cell) f cdv A outer s H E) (fun cls d _ H' => E cls d H') := L2N.takes_of rfl rfl rfl rfl
  have hp := passes_of (X := (cxOf (L2N.CX P w) P w K mg base n_World_cell "World.cell" (defScope s_World_cell) f cdv A outer s H E)) rfl
  exact (vss_cons (vs_set 4 [] sc_World_cell.nd (ve_meth f_World_at hr (by omega) tk (ve_var 0) (va_cons (ve_var 1) va_nil)))
    (vss_cons (vs_expr [] (ve_meth f_World_need_cell hr (by omega) tk (ve_var 0) (va_cons (ve_call f_is_count hr (by omega) tk (va_cons (ve_var 2) (va_cons ve_int (va_cons (ve_meth f_World_many hr (by omega) tk (ve_var 0) (va_cons (ve_var 1) va_nil)) va_nil)))) va_nil)))
    (vss_cons (vs_expr [] (ve_meth f_World_need_cell hr (by omega) tk (ve_var 0) (va_cons (ve_and (ve_callB call_isi cd_isi T.b_isinstance (by decide +kernel) (va_cons (ve_var 3) (va_cons (ve_bltn T.b_str (by decide +kernel)) va_nil))) (ve_one (ve_in hr (ve_var 3) (ve_meth f_World_columns hr (by omega) tk (ve_var 0) (va_cons (ve_var 1) va_nil))))) va_nil)))
    (vss_one (vs_ret [] (ve_meth f_World_worth hr (by omega) tk (ve_var 0) (va_cons (ve_var 4) (va_cons (ve_var 2) (va_cons (ve_index (ve_meth f_World_columns hr (by omega) tk (ve_var 0) (va_cons (ve_var 1) va_nil)) (ve_var 3)) va_nil)))))))))
theorem w_World_cell {f : Addr} {fd : FuncData} (F : Fun K "cell" "World.cell" s_World_cell f fd) (hm : L2.Meth K (g.cls "World") "cell" f) (T : Tx w K mg g) (f_World_at : VMth P w K mg base g 2 "World" "at" m_World_at) (f_World_many : VMth P w K mg base g 3 "World" "many" m_World_many) (f_is_count : VFn P w K mg base g 1 "is_count" m_is_count) (f_World_need_cell : VMth P w K mg base g 1 "World" "need_cell" m_World_need_cell) (f_World_columns : VMth P w K mg base g 3 "World" "columns" m_World_columns) (f_World_worth : VMth P w K mg base g 45 "World" "worth" (m_World_worth 21)) : VMth P w K mg base g 46 "World" "cell" m_World_cell :=
  ⟨f, fd, ["self", "table", "row", "column"], T.cl_World, hm, F.binds fun _ _ _ _ _ _ us hl => match us, hl with | [_, _, _, _], _ => rfl, v_World_cell F hm T f_World_at f_World_many f_is_count f_World_need_cell f_World_columns f_World_worth⟩
abbrev s_World_row : Stmt := inClass (topS 43) 9
abbrev n_World_row : List Str := ["self", "table", "row", "column"]
theorem sc_World_row : FnScope n_World_row ["self", "table", "row"] (defScope s_World_row) := ⟨rfl, rfl, rfl, by decide +kernel, rfl, by decide +kernel, by decide +kernel⟩
theorem v_World_row {f : Addr} {fd : FuncData} (F : Fun K "row" "World.row" s_World_row f fd) (hm : L2.Meth K (g.cls "World") "row" f) (T : Tx w K mg g) (f_World_many : VMth P w K mg base g 3 "World" "many" m_World_many) (f_is_count : VFn P w K mg base g 1 "is_count" m_is_count) (f_World_need_cell : VMth P w K mg base g 1 "World" "need_cell" m_World_need_cell) (f_World_columns : VMth P w K mg base g 3 "World" "columns" m_World_columns) (f_World_cell : VMth P w K mg base g 46 "World" "cell" m_World_cell) : FnOk P w K mg base (L2N.CX P w) 47 f fd ["self", "table", "row"] (spV K g m_World_row) := by
  refine fn_ok (N := n_World_row) (b := b_World_row) F sc_World_row fun cdv A outer s H E F0 hcv hr => ?_
  have tk : L2N.Takes (cxOf (L2N.CX P w) P w K mg base n_World_row "World.row" (defScope s_World_row) f cdv A outer s H E) (fun cls d _ H' => E cls d H') := L2N.takes_of rfl rfl rfl rfl
  have hp := passes_of (X := (cxOf (L2N.CX P w) P w K mg base n_World_row "World.row" (defScope s_World_row) f cdv A outer s H E)) rfl
  exact (vss_cons (vs_expr [] (ve_meth f_World_need_cell hr (by omega) tk (ve_var 0) (va_cons (ve_call f_is_count hr (by omega) tk (va_cons (ve_var 2) (va_cons ve_int (va_cons (ve_meth f_World_many hr (by omega) tk (ve_var 0) (va_cons (ve_var 1) va_nil)) va_nil)))) va_nil)))
    (vss_one (vs_ret [] (ve_callTy (call_lk ((call_dictP rfl).or call_dictD)) cd_dict T.b_dict (by decide +kernel) (va_cons (ve_lc [("column", 3)] rfl sc_World_row.nd (vi_seq (ve_meth f_World_columns hr (by omega) tk (ve_var 0) (va_cons (ve_var 1) va_nil))) (blkOk_by (N := n_World_row) (sc := defScope s_World_row) (by decide +kernel)) (fun _ _ _ _ _ => (vg_name 3 sc_World_row.nd)) (fun _ _ _ _ _ => vts_nil) (fun _ _ _ _ _ => (ve_tup (va_cons (ve_var 3) (va_cons (ve_meth f_World_cell hr (by omega) tk0 (ve_var 0) (va_cons (ve_var 1) (va_cons (ve_var 2) (va_cons (ve_var 3) va_nil)))) va_nil))))) va_nil)))))
theorem w_World_row {f : Addr} {fd : FuncData} (F : Fun K "row" "World.row" s_World_row f fd) (hm : L2.Meth K (g.cls "World") "row" f) (T : Tx w K mg g) (f_World_many : VMth P w K mg base g 3 "World" "many" m_World_many) (f_is_count : VFn P w K mg base g 1 "is_count" m_is_count) (f_World_need_cell : VMth P w K mg base g 1 "World" "need_cell" m_World_need_cell) (f_World_columns : VMth P w K mg base g 3 "World" "columns" m_World_columns) (f_World_cell : VMth P w K mg base g 46 "World" "cell" m_World_cell) : VMth P w K mg base g 47 "World" "row" m_World_row :=
  ⟨f, fd, ["self", "table", "row"], T.cl_World, hm, F.binds fun _ _ _ _ _ _ us hl => match us, hl with | [_, _, _], _ => rfl, v_World_row F hm T f_World_many f_is_count f_World_need_cell f_World_columns f_World_cell⟩
abbrev s_World_rows : Stmt := inClass (topS 43) 10
abbrev n_World_rows : List Str := ["self", "table", "row"]
theorem sc_World_rows : FnScope n_World_rows ["self", "table"] (defScope s_World_rows) := ⟨rfl, rfl, rfl, by decide +kernel, rfl, by decide +kernel, by decide +kernel⟩
theorem v_World_rows {f : Addr} {fd : FuncData} (F : Fun K "rows" "World.rows" s_World_rows f fd) (hm : L2.Meth K (g.cls "World") "rows" f) (T : Tx w K mg g) (f_World_many : VMth P w K mg base g 3 "World" "many" m_World_many) (f_World_row : VMth P w K mg base g 47 "World" "row" m_World_row) : FnOk P w K mg base (L2N.CX P w) 48 f fd ["self", "table"] (spV K g m_World_rows) := by
  refine fn_ok (N := n_World_rows) (b := b_World_rows) F sc_World_rows fun cdv A outer s H E F0 hcv hr => ?_
  have tk : L2N.Takes (cxOf (L2N.CX P w) P w K mg base n_World_rows "World.rows" (defScope s_World_rows) f cdv A outer s H E) (fun cls d _ H' => E cls d H') := L2N.takes_of rfl rfl rfl rfl
  have hp := passes_of (X := (cxOf (L2N.CX P w) P w K mg base n_World_rows "World.rows" (defScope s_World_rows) f cdv A outer s H E)) rfl
  exact (vss_one (vs_ret [] (ve_lc [("row", 2)] rfl sc_World_rows.nd (vi_range2 T.b_range (va_cons ve_int (va_cons (ve_add (ve_meth f_World_many hr (by omega) tk (ve_var 0) (va_cons (ve_var 1) va_nil)) ve_int) va_nil))) (blkOk_by (N := n_World_rows) (sc := defScope s_World_rows) (by decide +kernel)) (fun _ _ _ _ _ => (vg_name 2 sc_World_rows.nd)) (fun _ _ _ _ _ => vts_nil) (fun _ _ _ _ _ => (ve_meth f_World_row hr (by omega) tk0 (ve_var 0) (va_cons (ve_var 1) (va_cons (ve_var 2) va_nil)))))))
theorem w_World_rows {f : Addr} {fd : FuncData} (F : Fun K "rows" "World.rows" s_World_rows f fd) (hm : L2.Meth K (g.cls "World") "rows" f) (T : Tx w K mg g) (f_World_many : VMth P w K mg base g 3 "World" "many" m_World_many) (f_World_row : VMth P w K mg base g 47 "World" "row" m_World_row) : VMth P w K mg base g 48 "World" "rows" m_World_rows :=
  ⟨f, fd, ["self", "table"], T.cl_World, hm, F.binds fun _ _ _ _ _ _ us hl => match us, hl with | [_, _], _ => rfl, v_World_rows F hm T f_World_many f_World_row⟩
abbrev s_World_tables : Stmt := inClass (topS 43) 11
abbrev n_World_tables : List Str := ["self", "name"]
theorem sc_World_tables : FnScope n_World_tables ["self"] (defScope s_World_tables) := ⟨rfl, rfl, rfl, by decide +kernel, rfl, by decide +kernel, by decide +kernel⟩
theorem v_World_tables {f : Addr} {fd : FuncData} (F : Fun K "tables" "World.tables" s_World_tables f fd) (hm : L2.Meth K (g.cls "World") "tables" f) (T : Tx w K mg g) (f_World_names : VMth P w K mg base g 1 "World" "names" m_World_names) (f_World_rows : VMth P w K mg base g 48 "World" "rows" m_World_rows) : FnOk P w K mg base (L2N.CX P w) 49 f fd ["self"] (spV K g m_World_tables) := by
  refine fn_ok (N := n_World_tables) (b := b_World_tables) F sc_World_tables fun cdv A outer s H E F0 hcv hr => ?_
  have tk : L2N.Takes (cxOf (L2N.CX P w) P w K mg base n_World_tables "World.tables" (defScope s_World_tables) f cdv A outer s H E) (fun cls d _ H' => E cls d H') := L2N.takes_of rfl rfl rfl rfl
  have hp := passes_of (X := (cxOf (L2N.CX P w) P w K mg base n_World_tables "World.tables" (defScope s_World_tables) f cdv A outer s H E)) rfl
  exact (vss_one (vs_ret [] (ve_callTy (call_lk ((call_dictP rfl).or call_dictD)) cd_dict T.b_dict (by decide +kernel) (va_cons (ve_lc [("name", 1)] rfl sc_World_tables.nd (vi_seq (ve_meth0 f_World_names hr (by omega) tk (ve_var 0))) (blkOk_by (N := n_World_tables) (sc := defScope s_World_tables) (by decide +kernel)) (fun _ _ _ _ _ => (vg_name 1 sc_World_tables.nd)) (fun _ _ _ _ _ => vts_nil) (fun _ _ _ _ _ => (ve_tup (va_cons (ve_var 1) (va_cons (ve_meth f_World_rows hr (by omega) tk0 (ve_var 0) (va_cons (ve_var 1) va_nil)) va_nil))))) va_nil))))
theorem w_World_tables {f : Addr} {fd : FuncData} (F : Fun K "tables" "World.tables" s_World_tables f fd) (hm : L2.Meth K (g.cls "World") "tables" f) (T : Tx w K mg g) (f_World_names : VMth P w K mg base g 1 "World" "names" m_World_names) (f_World_rows : VMth P w K mg base g 48 "World" "rows" m_World_rows) : VMth P w K mg base g 49 "World" "tables" m_World_tables :=
  ⟨f, fd, ["self"], T.cl_World, hm, F.binds fun _ _ _ _ _ _ us hl => match us, hl with | [_], _ => rfl, v_World_tables F hm T f_World_names f_World_rows⟩
abbrev s_is_number : Stmt := topS 45
abbrev n_is_number : List Str := ["thing"]
theorem sc_is_number : FnScope n_is_number ["thing"] (defScope s_is_number) := ⟨rfl, rfl, rfl, by decide +kernel, rfl, by decide +kernel, by decide +kernel⟩
theorem v_is_number {f : Addr} {fd : FuncData} (F : Fun K "is_number" "is_number" s_is_number f fd) (hm : mg "is_number" = some (.ref f)) (T : Tx w K mg g) : FnOk P w K mg base (L2N.CX P w) 1 f fd ["thing"] (spV K g m_is_number) := by
  refine fn_ok (N := n_is_number) (b := b_is_number) F sc_is_number fun cdv A outer s H E F0 hcv hr => ?_
  have tk : L2N.Takes (cxOf (L2N.CX P w) P w K mg base n_is_number "is_number" (defScope s_is_number) f cdv A outer s H E) (fun cls d _ H' => E cls d H') := L2N.takes_of rfl rfl rfl rfl
  have hp := passes_of (X := (cxOf (L2N.CX P w) P w K mg base n_is_number "is_number" (defScope s_is_number) f cdv A outer s H E)) rfl
  exact (vss_one (vs_ret [] (ve_and (ve_callB call_isi cd_isi T.b_isinstance (by decide +kernel) (va_cons (ve_var 0) (va_cons (ve_bltn T.b_int (by decide +kernel)) va_nil))) (ve_one (ve_not (ve_callB call_isi cd_isi T.b_isinstance (by decide +kernel) (va_cons (ve_var 0) (va_cons (ve_bltn T.b_bool (by decide +kernel)) va_nil))))))))
theorem w_is_number {f : Addr} {fd : FuncData} (F : Fun K "is_number" "is_number" s_is_number f fd) (hm : mg "is_number" = some (.ref f)) (T : Tx w K mg g) : VFn P w K mg base g 1 "is_number" m_is_number :=
  ⟨f, fd, ["thing"], hm, F.kp, F.binds fun _ _ _ _ _ _ us hl => match us, hl with | [_], _ => rfl, v_is_number F hm T⟩
abbrev s_is_good_word : Stmt := topS 46
abbrev n_is_good_word : List Str := ["thing", "low", "high", "sign"]
theorem sc_is_good_word : FnScope n_is_good_word ["thing", "low", "high"] (defScope s_is_good_word) := ⟨rfl, rfl, rfl, by decide +kernel, rfl, by decide +kernel, by decide +kernel⟩
theorem v_is_good_word {f : Addr} {fd : FuncData} (F : Fun K "is_good_word" "is_good_word" s_is_good_word f fd) (hm : mg "is_good_word" = some (.ref f)) (T : Tx w K mg g) : FnOk P w K mg base (L2N.CX P w) 1 f fd ["thing", "low", "high"] (spV K g m_is_good_word) := by
  refine fn_ok (N := n_is_good_word) (b := b_is_good_word) F sc_is_good_word fun cdv A outer s H E F0 hcv hr => ?_
  have tk : L2N.Takes (cxOf (L2N.CX P w) P w K mg base n_is_good_word "is_good_word" (defScope s_is_good_word) f cdv A outer s H E) (fun cls d _ H' => E cls d H') := L2N.takes_of rfl rfl rfl rfl
  have hp := passes_of (X := (cxOf (L2N.CX P w) P w K mg base n_is_good_word "is_good_word" (defScope s_is_good_word) f cdv A outer s H E)) rfl
  exact (vss_one (vs_ret [] (ve_and (ve_callB call_isi cd_isi T.b_isinstance (by decide +kernel) (va_cons (ve_var 0) (va_cons (ve_bltn T.b_str (by decide +kernel)) va_nil))) (ve_and (ve_lele (ve_var 1) (ve_callB call_len cd_len T.b_len (by decide +kernel) (va_cons (ve_var 0) va_nil)) (ve_var 2)) (ve_one (ve_callB (cr_all rfl) cd_all T.b_all (by decide +kernel) (va_cons (ve_lc [("sign", 3)] rfl sc_is_good_word.nd (vi_seq (ve_var 0)) (blkOk_by (N := n_is_good_word) (sc := defScope s_is_good_word) (by decide +kernel)) (fun _ _ _ _ _ => (vg_name 3 sc_is_good_word.nd)) (fun _ _ _ _ _ => vts_nil) (fun _ _ _ _ _ => (ve_in hr (ve_var 3) (ve_glob T.c_SMALL (fun _ => .str _))))) va_nil)))))))
theorem w_is_good_word {f : Addr} {fd : FuncData} (F : Fun K "is_good_word" "is_good_word" s_is_good_word f fd) (hm : mg "is_good_word" = some (.ref f)) (T : Tx w K mg g) : VFn P w K mg base g 1 "is_good_word" m_is_good_word :=
  ⟨f, fd, ["thing", "low", "high"], hm, F.kp, F.binds fun _ _ _ _ _ _ us hl => match us, hl with | [_, _, _], _ => rfl, v_is_good_word F hm T⟩
abbrev s_linked : Stmt := topS 47
abbrev n_linked : List Str := ["plan", "tables", "table", "row", "column", "goal", "number"]
theorem sc_linked : FnScope n_linked ["plan", "tables", "table", "row", "column"] (defScope s_linked) := ⟨rfl, rfl, rfl, by decide +kernel, rfl, by decide +kernel, by decide +kernel⟩
theorem v_linked {f : Addr} {fd : FuncData} (F : Fun K "linked" "linked" s_linked f fd) (hm : mg "linked" = some (.ref f)) (T : Tx w K mg g) (f_is_count : VFn P w K mg base g 1 "is_count" m_is_count) : FnOk P w K mg base (L2N.CX P w) 2 f fd ["plan", "tables", "table", "row", "column"] (spV K g m_linked) := by
  refine fn_ok (N := n_linked) (b := b_linked) F sc_linked fun cdv A outer s H E F0 hcv hr => ?_
  have tk : L2N.Takes (cxOf (L2N.CX P w) P w K mg base n_linked "linked" (defScope s_linked) f cdv A outer s H E) (fun cls d _ H' => E cls d H') := L2N.takes_of rfl rfl rfl rfl
  have hp := passes_of (X := (cxOf (L2N.CX P w) P w K mg base n_linked "linked" (defScope s_linked) f cdv A outer s H E)) rfl
  exact (vss_cons (vs_set 5 [] sc_linked.nd (ve_sub_ix hr (ve_sub_ix hr (ve_callTy (call_lk ((call_dictP rfl).or call_dictD)) cd_dict T.b_dict (by decide +kernel) (va_cons (ve_sub_ix hr (ve_var 2) ve_int) va_nil)) (ve_var 4)) ve_int))
    (vss_cons (vs_set 6 [] sc_linked.nd (ve_get hr (ve_var 3) (ve_var 4) ve_non))
    (vss_one (vs_ret [] (ve_ifExp (vt_of (ve_call f_is_count hr (by omega) tk (va_cons (ve_var 6) (va_cons ve_int (va_cons (ve_callB call_len cd_len T.b_len (by decide +kernel) (va_cons (ve_sub_ix hr (ve_var 1) (ve_var 5)) va_nil)) va_nil))))) (ve_sub_ix hr (ve_sub_ix hr (ve_var 1) (ve_var 5)) (ve_sub (ve_var 6) ve_int)) ve_non)))))
theorem w_linked {f : Addr} {fd : FuncData} (F : Fun K "linked" "linked" s_linked f fd) (hm : mg "linked" = some (.ref f)) (T : Tx w K mg g) (f_is_count : VFn P w K mg base g 1 "is_count" m_is_count) : VFn P w K mg base g 2 "linked" m_linked :=
  ⟨f, fd, ["plan", "tables", "table", "row", "column"], hm, F.kp, F.binds fun _ _ _ _ _ _ us hl => match us, hl with | [_, _, _, _, _], _ => rfl, v_linked F hm T f_is_count⟩
abbrev s_same : Stmt := topS 49
abbrev n_same : List Str := ["one", "other"]
theorem sc_same : FnScope n_same ["one", "other"] (defScope s_same) := ⟨rfl, rfl, rfl, by decide +kernel, rfl, by decide +kernel, by decide +kernel⟩
theorem v_same {f : Addr} {fd : FuncData} (F : Fun K "same" "same" s_same f fd) (hm : mg "same" = some (.ref f)) (T : Tx w K mg g) : FnOk P w K mg base (L2N.CX P w) 1 f fd ["one", "other"] (spV K g m_same) := by
  refine fn_ok (N := n_same) (b := b_same) F sc_same fun cdv A outer s H E F0 hcv hr => ?_
  have tk : L2N.Takes (cxOf (L2N.CX P w) P w K mg base n_same "same" (defScope s_same) f cdv A outer s H E) (fun cls d _ H' => E cls d H') := L2N.takes_of rfl rfl rfl rfl
  have hp := passes_of (X := (cxOf (L2N.CX P w) P w K mg base n_same "same" (defScope s_same) f cdv A outer s H E)) rfl
  exact (vss_one (vs_ret [] (ve_and (ve_eq hr (ve_callB call_isi cd_isi T.b_isinstance (by decide +kernel) (va_cons (ve_var 0) (va_cons (ve_bltn T.b_bool (by decide +kernel)) va_nil))) (ve_callB call_isi cd_isi T.b_isinstance (by decide +kernel) (va_cons (ve_var 1) (va_cons (ve_bltn T.b_bool (by decide +kernel)) va_nil)))) (ve_one (ve_eq hr (ve_var 0) (ve_var 1))))))
theorem w_same {f : Addr} {fd : FuncData} (F : Fun K "same" "same" s_same f fd) (hm : mg "same" = some (.ref f)) (T : Tx w K mg g) : VFn P w K mg base g 1 "same" m_same :=
  ⟨f, fd, ["one", "other"], hm, F.kp, F.binds fun _ _ _ _ _ _ us hl => match us, hl with | [_, _], _ => rfl, v_same F hm T⟩
abbrev s_is_so : Stmt := topS 48
abbrev n_is_so : List Str := ["plan", "tables", "table", "at", "column", "rule", "row", "worth", "kind", "other", "some", "one", "text", "share"]
theorem sc_is_so : FnScope n_is_so ["plan", "tables", "table", "at", "column", "rule"] (defScope s_is_so) := ⟨rfl, rfl, rfl, by decide +kernel, rfl, by decide +kernel, by decide +kernel⟩
theorem v_is_so {f : Addr} {fd : FuncData} (F : Fun K "is_so" "is_so" s_is_so f fd) (hm : mg "is_so" = some (.ref f)) (T : Tx w K mg g) (f_is_number : VFn P w K mg base g 1 "is_number" m_is_number) (f_is_good_word : VFn P w K mg base g 1 "is_good_word" m_is_good_word) (f_is_count : VFn P w K mg base g 1 "is_count" m_is_count) (f_linked : VFn P w K mg base g 2 "linked" m_linked) (f_same : VFn P w K mg base g 1 "same" m_same) : FnOk P w K mg base (L2N.CX P w) 3 f fd ["plan", "tables", "table", "at", "column", "rule"] (spV K g m_is_so) := by
  refine fn_ok (N := n_is_so) (b := b_is_so) F sc_is_so fun cdv A outer s H E F0 hcv hr => ?_
  have tk : L2N.Takes (cxOf (L2N.CX P w) P w K mg base n_is_so "is_so" (defScope s_is_so) f cdv A outer s H E) (fun cls d _ H' => E cls d H') := L2N.takes_of rfl rfl rfl rfl
  have hp := passes_of (X := (cxOf (L2N.CX P w) P w K mg base n_is_so "is_so" (defScope s_is_so) f cdv A outer s H E)) rfl
  exact (vss_cons (vs_set 6 [] sc_is_so.nd (ve_sub_ix hr (ve_sub_ix hr (ve_var 1) (ve_sub_ix hr (ve_var 2) ve_int)) (ve_var 3)))
    (vss_cons (vs_set 7 [] sc_is_so.nd (ve_sub_ix hr (ve_var 6) (ve_var 4)))
    (vss_cons (vs_set 8 [] sc_is_so.nd (ve_sub_ix hr (ve_var 5) ve_int))
    (vss_cons (vs_if [] (vt_in hr (ve_var 8) (ve_tup (va_cons ve_str (va_cons ve_str va_nil)))) (vss_one (vs_ret [] (ve_and (ve_call f_is_number hr (by omega) tk (va_cons (ve_var 7) va_nil)) (ve_one (ve_lele (ve_sub_ix hr (ve_var 5) ve_int) (ve_var 7) (ve_sub_ix hr (ve_var 5) ve_int)))))) vss_nil)
    (vss_cons (vs_if [] (vt_eq hr (ve_var 8) ve_str) (vss_one (vs_ret [] (ve_and (ve_callB call_isi cd_isi T.b_isinstance (by decide +kernel) (va_cons (ve_var 7) (va_cons (ve_bltn T.b_str (by decide +kernel)) va_nil))) (ve_one (ve_in hr (ve_var 7) (ve_lc [("text", 12), ("share", 13)] rfl sc_is_so.nd (vi_seq (ve_sub_ix hr (ve_var 5) ve_int)) (blkOk_by (N := n_is_so) (sc := defScope s_is_so) (by decide +kernel)) (fun _ _ _ _ _ => (vg_tup rfl (vgs_cons (vg_name 12 sc_is_so.nd) (vgs_cons (vg_name 13 sc_is_so.nd) vgs_nil)))) (fun _ _ _ _ _ => vts_nil) (fun _ _ _ _ _ => (ve_var 12)))))))) vss_nil)
    (vss_cons (vs_if [] (vt_eq hr (ve_var 8) ve_str) (vss_one (vs_ret [] (ve_call f_is_good_word hr (by omega) tk (va_cons (ve_var 7) (va_cons (ve_sub_ix hr (ve_var 5) ve_int) (va_cons (ve_sub_ix hr (ve_var 5) ve_int) va_nil)))))) vss_nil)
    (vss_cons (vs_if [] (vt_eq hr (ve_var 8) ve_str) (vss_one (vs_ret [] (ve_and (ve_callB call_isi cd_isi T.b_isinstance (by decide +kernel) (va_cons (ve_var 7) (va_cons (ve_bltn T.b_bool (by decide +kernel)) va_nil))) (ve_and (ve_or (ve_gt (ve_sub_ix hr (ve_var 5) ve_int) ve_int) (ve_one (ve_not (ve_var 7)))) (ve_one (ve_or (ve_lt (ve_sub_ix hr (ve_var 5) ve_int) ve_int) (ve_one (ve_var 7)))))))) vss_nil)
    (vss_cons (vs_if [] (vt_eq hr (ve_var 8) ve_str) (vss_one (vs_ret [] (ve_call f_is_count hr (by omega) tk (va_cons (ve_var 7) (va_cons ve_int (va_cons (ve_callB call_len cd_len T.b_len (by decide +kernel) (va_cons (ve_sub_ix hr (ve_var 1) (ve_sub_ix hr (ve_var 5) ve_int)) va_nil)) va_nil)))))) vss_nil)
    (vss_cons (vs_if [] (vt_eq hr (ve_var 8) ve_str) (vss_one (vs_ret [] (ve_and (ve_call f_is_number hr (by omega) tk (va_cons (ve_var 7) va_nil)) (ve_one (ve_eq hr (ve_var 7) (ve_add (ve_sub_ix hr (ve_var 5) ve_int) (ve_mul (ve_sub_ix hr (ve_var 5) ve_int) (ve_var 3)))))))) vss_nil)
    (vss_cons (vs_if [] (vt_eq hr (ve_var 8) ve_str) (vss_cons (vs_setLc 10 [] [("one", 11)] rfl sc_is_so.nd (vi_seq (ve_slice (ve_var 5) (vo_some ve_int) vo_none)) (blkOk_by (N := n_is_so) (sc := defScope s_is_so) (by decide +kernel)) (fun _ _ _ _ _ => (vg_name 11 sc_is_so.nd)) (fun _ _ _ _ _ => vts_nil) (fun _ _ _ _ _ => (ve_get hr (ve_var 6) (ve_var 11) ve_non)) (sw_true rfl rfl rfl (by decide +kernel)))
    (vss_one (vs_ret [] (ve_and (ve_call f_is_number hr (by omega) tk (va_cons (ve_var 7) va_nil)) (ve_and (ve_callB (cr_all rfl) cd_all T.b_all (by decide +kernel) (va_cons (ve_lc [("one", 11)] rfl sc_is_so.nd (vi_seq (ve_var 10)) (blkOk_by (N := n_is_so) (sc := defScope s_is_so) (by decide +kernel)) (fun _ _ _ _ _ => (vg_name 11 sc_is_so.nd)) (fun _ _ _ _ _ => vts_nil) (fun _ _ _ _ _ => (ve_call f_is_number hr (by omega) tk0 (va_cons (ve_var 11) va_nil)))) va_nil)) (ve_one (ve_eq hr (ve_var 7) (ve_callB (cr_sum rfl) cd_sum T.b_sum (by decide +kernel) (va_cons (ve_var 10) va_nil))))))))) vss_nil)
    (vss_cons (vs_set 9 [] sc_is_so.nd (ve_call f_linked hr (by omega) tk (va_cons (ve_var 0) (va_cons (ve_var 1) (va_cons (ve_var 2) (va_cons (ve_var 6) (va_cons (ve_sub_ix hr (ve_var 5) ve_int) va_nil)))))))
    (vss_one (vs_ret [] (ve_and (ve_notN (ve_var 9)) (ve_and (ve_in hr (ve_sub_ix hr (ve_var 5) ve_int) (ve_var 9)) (ve_one (ve_call f_same hr (by omega) tk (va_cons (ve_sub_ix hr (ve_var 9) (ve_sub_ix hr (ve_var 5) ve_int)) (va_cons (ve_var 7) va_nil)))))))))))))))))))
theorem w_is_so {f : Addr} {fd : FuncData} (F : Fun K "is_so" "is_so" s_is_so f fd) (hm : mg "is_so" = some (.ref f)) (T : Tx w K mg g) (f_is_number : VFn P w K mg base g 1 "is_number" m_is_number) (f_is_good_word : VFn P w K mg base g 1 "is_good_word" m_is_good_word) (f_is_count : VFn P w K mg base g 1 "is_count" m_is_count) (f_linked : VFn P w K mg base g 2 "linked" m_linked) (f_same : VFn P w K mg base g 1 "same" m_same) : VFn P w K mg base g 3 "is_so" m_is_so :=
  ⟨f, fd, ["plan", "tables", "table", "at", "column", "rule"], hm, F.kp, F.binds fun _ _ _ _ _ _ us hl => match us, hl with | [_, _, _, _, _, _], _ => rfl, v_is_so F hm T f_is_number f_is_good_word f_is_count f_linked f_same⟩
abbrev s_is_met : Stmt := topS 50
abbrev n_is_met : List Str := ["rows", "at", "column", "row"]
theorem sc_is_met : FnScope n_is_met ["rows", "at", "column"] (defScope s_is_met) := ⟨rfl, rfl, rfl, by decide +kernel, rfl, by decide +kernel, by decide +kernel⟩
theorem v_is_met {f : Addr} {fd : FuncData} (F : Fun K "is_met" "is_met" s_is_met f fd) (hm : mg "is_met" = some (.ref f)) (T : Tx w K mg g) (f_same : VFn P w K mg base g 1 "same" m_same) : FnOk P w K mg base (L2N.CX P w) 2 f fd ["rows", "at", "column"] (spV K g m_is_met) := by
  refine fn_ok (N := n_is_met) (b := b_is_met) F sc_is_met fun cdv A outer s H E F0 hcv hr => ?_
  have tk : L2N.Takes (cxOf (L2N.CX P w) P w K mg base n_is_met "is_met" (defScope s_is_met) f cdv A outer s H E) (fun cls d _ H' => E cls d H') := L2N.takes_of rfl rfl rfl rfl
  have hp := passes_of (X := (cxOf (L2N.CX P w) P w K mg base n_is_met "is_met" (defScope s_is_met) f cdv A outer s H E)) rfl
  exact (vss_one (vs_ret [] (ve_callB (cr_any rfl) cd_any T.b_any (by decide +kernel) (va_cons (ve_lc [("row", 3)] rfl sc_is_met.nd (vi_seq (ve_slice (ve_var 0) vo_none (vo_some (ve_var 1)))) (blkOk_by (N := n_is_met) (sc := defScope s_is_met) (by decide +kernel)) (fun _ _ _ _ _ => (vg_name 3 sc_is_met.nd)) (fun _ _ _ _ _ => vts_nil) (fun _ _ _ _ _ => (ve_and (ve_in hr (ve_var 2) (ve_var 3)) (ve_one (ve_call f_same hr (by omega) tk0 (va_cons (ve_sub_ix hr (ve_var 3) (ve_var 2)) (va_cons (ve_sub_ix hr (ve_sub_ix hr (ve_var 0) (ve_var 1)) (ve_var 2)) va_nil))))))) va_nil))))
theorem w_is_met {f : Addr} {fd : FuncData} (F : Fun K "is_met" "is_met" s_is_met f fd) (hm : mg "is_met" = some (.ref f)) (T : Tx w K mg g) (f_same : VFn P w K mg base g 1 "same" m_same) : VFn P w K mg base g 2 "is_met" m_is_met :=
  ⟨f, fd, ["rows", "at", "column"], hm, F.kp, F.binds fun _ _ _ _ _ _ us hl => match us, hl with | [_, _, _], _ => rfl, v_is_met F hm T f_same⟩
abbrev s_faults : Stmt := topS 51
abbrev n_faults : List Str := ["plan", "tables", "found", "table", "rows", "at", "row", "column", "rule", "good"]
theorem sc_faults : FnScope n_faults ["plan", "tables"] (defScope s_faults) := ⟨rfl, rfl, rfl, by decide +kernel, rfl, by decide +kernel, by decide +kernel⟩
theorem v_faults {f : Addr} {fd : FuncData} (F : Fun K "faults" "faults" s_faults f fd) (hm : mg "faults" = some (.ref f)) (T : Tx w K mg g) (f_need_plan : VFn P w K mg base g 7 "need_plan" m_need_plan) (f_is_so : VFn P w K mg base g 3 "is_so" m_is_so) (f_is_met : VFn P w K mg base g 2 "is_met" m_is_met) : FnOk P w K mg base (L2N.CX P w) 8 f fd ["plan", "tables"] (spV K g m_faults) := by
  refine fn_ok (N := n_faults) (b := b_faults) F sc_faults fun cdv A outer s H E F0 hcv hr => ?_
  have tk : L2N.Takes (cxOf (L2N.CX P w) P w K mg base n_faults "faults" (defScope s_faults) f cdv A outer s H E) (fun cls d _ H' => E cls d H') := L2N.takes_of rfl rfl rfl rfl
  have hp := passes_of (X := (cxOf (L2N.CX P w) P w K mg base n_faults "faults" (defScope s_faults) f cdv A outer s H E)) rfl
  exact (vss_cons (vs_expr [] (ve_call f_need_plan hr (by omega) tk (va_cons (ve_var 0) va_nil)))
    (vss_cons (vs_own 2 [] sc_faults.nd va_nil)
    (vss_cons (vs_for [] hp rfl (vi_seq (ve_var 0)) (vg_name 3 sc_faults.nd) (vss_cons (vs_set 4 [] sc_faults.nd (ve_sub_ix hr (ve_var 1) (ve_sub_ix hr (ve_var 3) ve_int)))
    (vss_one (vs_for [] hp rfl (vi_enum T.b_enumerate (va_cons (ve_var 4) va_nil)) (vg_tup rfl (vgs_cons (vg_name 5 sc_faults.nd) (vgs_cons (vg_name 6 sc_faults.nd) vgs_nil))) (vss_one (vs_for [] hp rfl (vi_seq (ve_sub_ix hr (ve_var 3) ve_int)) (vg_tup rfl (vgs_cons (vg_name 7 sc_faults.nd) (vgs_cons (vg_name 8 sc_faults.nd) vgs_nil))) (vss_cons (vs_set 9 [] sc_faults.nd (ve_and (ve_in hr (ve_var 7) (ve_var 6)) (ve_one (ve_call f_is_so hr (by omega) tk (va_cons (ve_var 0) (va_cons (ve_var 1) (va_cons (ve_var 3) (va_cons (ve_var 5) (va_cons (ve_var 7) (va_cons (ve_var 8) va_nil))))))))))
    (vss_one (vs_if [] (vw_pt (vw_or (vt_not (vt_of (ve_var 9))) (vw_or1 (vw_pt (vw_and (vt_eq hr (ve_sub_ix hr (ve_var 8) ve_int) ve_str) (vw_and1 (vt_of (ve_call f_is_met hr (by omega) tk (va_cons (ve_var 4) (va_cons (ve_var 5) (va_cons (ve_var 7) va_nil))))))))))) (vss_one (vs_app2 2 [] (ve_tup (va_cons (ve_sub_ix hr (ve_var 3) ve_int) (va_cons (ve_add (ve_var 5) ve_int) (va_cons (ve_var 7) va_nil)))))) vss_nil)))))))))
    (vss_one (vs_ret [2] (ve_var 2))))))
theorem w_faults {f : Addr} {fd : FuncData} (F : Fun K "faults" "faults" s_faults f fd) (hm : mg "faults" = some (.ref f)) (T : Tx w K mg g) (f_need_plan : VFn P w K mg base g 7 "need_plan" m_need_plan) (f_is_so : VFn P w K mg base g 3 "is_so" m_is_so) (f_is_met : VFn P w K mg base g 2 "is_met" m_is_met) : VFn P w K mg base g 8 "faults" m_faults :=
  ⟨f, fd, ["plan", "tables"], hm, F.kp, F.binds fun _ _ _ _ _ _ us hl => match us, hl with | [_, _], _ => rfl, v_faults F hm T f_need_plan f_is_so f_is_met⟩
abbrev s_law_cell : Stmt := topS 53
abbrev n_law_cell : List Str := ["script", "k"]
theorem sc_law_cell : FnScope n_law_cell ["script", "k"] (defScope s_law_cell) := ⟨rfl, rfl, rfl, by decide +kernel, rfl, by decide +kernel, by decide +kernel⟩
theorem v_law_cell {f : Addr} {fd : FuncData} (F : Fun K "_law_cell" "_law_cell" s_law_cell f fd) (hm : mg "_law_cell" = some (.ref f)) (T : Tx w K mg g) : FnOk P w K mg base (L2N.CX P w) 1 f fd ["script", "k"] (spV K g m_law_cell) := by
  refine fn_ok (N := n_law_cell) (b := b_law_cell) F sc_law_cell fun cdv A outer s H E F0 hcv hr => ?_
  have tk : L2N.Takes (cxOf (L2N.CX P w) P w K mg base n_law_cell "_law_cell" (defScope s_law_cell) f cdv A outer s H E) (fun cls d _ H' => E cls d H') := L2N.takes_of rfl rfl rfl rfl
  have hp := passes_of (X := (cxOf (L2N.CX P w) P w K mg base n_law_cell "_law_cell" (defScope s_law_cell) f cdv A outer s H E)) rfl
  exact (vss_cons (vs_if [] (vt_eq hr (ve_var 0) (ve_lst va_nil)) (vss_one (vs_ret [] (ve_mul (ve_var 1) ve_int))) vss_nil)
    (vss_one (vs_ret [] (ve_add (ve_sub_ix hr (ve_var 0) (ve_mod (ve_var 1) (ve_callB call_len cd_len T.b_len (by decide +kernel) (va_cons (ve_var 0) va_nil)))) (ve_mul (ve_fdiv (ve_var 1) (ve_callB call_len cd_len T.b_len (by decide +kernel) (va_cons (ve_var 0) va_nil))) ve_int)))))
theorem w_law_cell {f : Addr} {fd : FuncData} (F : Fun K "_law_cell" "_law_cell" s_law_cell f fd) (hm : mg "_law_cell" = some (.ref f)) (T : Tx w K mg g) : VFn P w K mg base g 1 "_law_cell" m_law_cell :=
  ⟨f, fd, ["script", "k"], hm, F.kp, F.binds fun _ _ _ _ _ _ us hl => match us, hl with | [_, _], _ => rfl, v_law_cell F hm T⟩
abbrev s_law_drawn : Stmt := topS 54
abbrev n_law_drawn : List Str := ["cell", "k", "more"]
theorem sc_law_drawn : FnScope n_law_drawn ["cell", "k"] (defScope s_law_drawn) := ⟨rfl, rfl, rfl, by decide +kernel, rfl, by decide +kernel, by decide +kernel⟩
theorem v_law_drawn {f : Addr} {fd : FuncData} (F : Fun K "_law_drawn" "_law_drawn" s_law_drawn f fd) (hm : mg "_law_drawn" = some (.ref f)) (T : Tx w K mg g) : FnOk P w K mg base (L2N.CX P w) 1 f fd ["cell", "k"] (spV K g m_law_drawn) := by
  refine fn_ok (N := n_law_drawn) (b := b_law_drawn) F sc_law_drawn fun cdv A outer s H E F0 hcv hr => ?_
  have tk : L2N.Takes (cxOf (L2N.CX P w) P w K mg base n_law_drawn "_law_drawn" (defScope s_law_drawn) f cdv A outer s H E) (fun cls d _ H' => E cls d H') := L2N.takes_of rfl rfl rfl rfl
  have hp := passes_of (X := (cxOf (L2N.CX P w) P w K mg base n_law_drawn "_law_drawn" (defScope s_law_drawn) f cdv A outer s H E)) rfl
  exact (vss_cons (vs_set 2 [] sc_law_drawn.nd (ve_mod (ve_add (ve_mul (ve_var 0) ve_int) (ve_mul (ve_add (ve_var 1) ve_int) ve_int)) ve_int))
    (vss_cons (vs_set 2 [] sc_law_drawn.nd (ve_mod (ve_mul (ve_var 2) (ve_var 2)) ve_int))
    (vss_cons (vs_set 2 [] sc_law_drawn.nd (ve_mul (ve_mul (ve_add (ve_mod (ve_var 2) ve_int) ve_int) (ve_add (ve_fdiv (ve_var 2) ve_int) ve_int)) (ve_var 2)))
    (vss_one (vs_ret [] (ve_mod (ve_var 2) ve_int))))))
theorem w_law_drawn {f : Addr} {fd : FuncData} (F : Fun K "_law_drawn" "_law_drawn" s_law_drawn f fd) (hm : mg "_law_drawn" = some (.ref f)) (T : Tx w K mg g) : VFn P w K mg base g 1 "_law_drawn" m_law_drawn :=
  ⟨f, fd, ["cell", "k"], hm, F.kp, F.binds fun _ _ _ _ _ _ us hl => match us, hl with | [_, _], _ => rfl, v_law_drawn F hm T⟩
abbrev s_law_rule : Stmt := topS 55
abbrev n_law_rule : List Str := ["more", "many", "tables", "columns", "here", "low", "high", "numbers", "links", "way", "far", "first", "words", "name", "goal", "rule", "table", "rows", "own", "j", "word"]
theorem sc_law_rule : FnScope n_law_rule ["more", "many", "tables", "columns"] (defScope s_law_rule) := ⟨rfl, rfl, rfl, by decide +kernel, rfl, by decide +kernel, by decide +kernel⟩
theorem v_law_rule {f : Addr} {fd : FuncData} (F : Fun K "_law_rule" "_law_rule" s_law_rule f fd) (hm : mg "_law_rule" = some (.ref f)) (T : Tx w K mg g) (f_law_drawn : VFn P w K mg base g 1 "_law_drawn" m_law_drawn) : FnOk P w K mg base (L2N.CX P w) 2 f fd ["more", "many", "tables", "columns"] (spV K g m_law_rule) := by
  refine fn_ok (N := n_law_rule) (b := b_law_rule) F sc_law_rule fun cdv A outer s H E F0 hcv hr => ?_
  have tk : L2N.Takes (cxOf (L2N.CX P w) P w K mg base n_law_rule "_law_rule" (defScope s_law_rule) f cdv A outer s H E) (fun cls d _ H' => E cls d H') := L2N.takes_of rfl rfl rfl rfl
  have hp := passes_of (X := (cxOf (L2N.CX P w) P w K mg base n_law_rule "_law_rule" (defScope s_law_rule) f cdv A outer s H E)) rfl
  exact (vss_cons (vs_set 4 [] sc_law_rule.nd (ve_fdiv (ve_var 0) ve_int))
    (vss_cons (vs_set 5 [] sc_law_rule.nd (ve_sub_ix hr (ve_lst (va_cons (ve_sub (ve_mod (ve_var 4) ve_int) ve_int) (va_cons (ve_neg ve_int) (va_cons (ve_sub (ve_mod (ve_var 4) ve_int) ve_int) va_nil)))) (ve_mod (ve_fdiv (ve_var 0) ve_int) ve_int)))
    (vss_cons (vs_set 6 [] sc_law_rule.nd (ve_sub_ix hr (ve_lst (va_cons (ve_callB (call_min2 rfl) cd_min T.b_min (by decide +kernel) (va_cons ve_int (va_cons (ve_add (ve_var 5) (ve_mod (ve_fdiv (ve_var 4) ve_int) ve_int)) va_nil))) (va_cons ve_int va_nil))) (ve_mod (ve_fdiv (ve_var 0) ve_int) ve_int)))
    (vss_cons (vs_setLc 7 [] [("name", 13), ("rule", 15)] rfl sc_law_rule.nd (vi_seq (ve_var 3)) (blkOk_by (N := n_law_rule) (sc := defScope s_law_rule) (by decide +kernel)) (fun _ _ _ _ _ => (vg_tup rfl (vgs_cons (vg_name 13 sc_law_rule.nd) (vgs_cons (vg_name 15 sc_law_rule.nd) vgs_nil)))) (fun _ _ _ _ _ => vts_one (vt_in hr (ve_sub_ix hr (ve_var 15) ve_int) (ve_tup (va_cons ve_str (va_cons ve_str (va_cons ve_str (va_cons ve_str va_nil))))))) (fun _ _ _ _ _ => (ve_var 13)) (sw_true rfl rfl rfl (by decide +kernel)))
    (vss_cons (vs_setLc 8 [] [("name", 13), ("rule", 15)] rfl sc_law_rule.nd (vi_seq (ve_var 3)) (blkOk_by (N := n_law_rule) (sc := defScope s_law_rule) (by decide +kernel)) (fun _ _ _ _ _ => (vg_tup rfl (vgs_cons (vg_name 13 sc_law_rule.nd) (vgs_cons (vg_name 15 sc_law_rule.nd) vgs_nil)))) (fun _ _ _ _ _ => vts_one (vt_eq hr (ve_sub_ix hr (ve_var 15) ve_int) ve_str)) (fun _ _ _ _ _ => (ve_tup (va_cons (ve_var 13) (va_cons (ve_sub_ix hr (ve_var 15) ve_int) va_nil)))) (sw_true rfl rfl rfl (by decide +kernel)))
    (vss_cons (vs_set 9 [] sc_law_rule.nd (ve_mod (ve_var 0) ve_int))
    (vss_cons (vs_if [] (vw_pt (vw_and (vt_eq hr (ve_var 9) ve_int) (vw_and1 (vt_ne hr (ve_var 2) (ve_lst va_nil))))) (vss_one (vs_ret [] (ve_tup (va_cons ve_str (va_cons (ve_sub_ix hr (ve_sub_ix hr (ve_var 2) (ve_mod (ve_var 4) (ve_callB call_len cd_len T.b_len (by decide +kernel) (va_cons (ve_var 2) va_nil)))) ve_int) va_nil))))) vss_nil)
    (vss_cons (vs_if [] (vw_pt (vw_and (vt_eq hr (ve_var 9) ve_int) (vw_and1 (vt_ne hr (ve_var 7) (ve_lst va_nil))))) (vss_one (vs_ret [] (ve_tup (va_cons ve_str (va_cons (ve_sub_ix hr (ve_var 7) (ve_mod (ve_var 4) (ve_callB call_len cd_len T.b_len (by decide +kernel) (va_cons (ve_var 7) va_nil)))) (va_cons (ve_sub_ix hr (ve_var 7) (ve_mod (ve_fdiv (ve_var 4) ve_int) (ve_callB call_len cd_len T.b_len (by decide +kernel) (va_cons (ve_var 7) va_nil)))) va_nil)))))) vss_nil)
    (vss_cons (vs_if [] (vw_pt (vw_and (vt_lt (ve_var 9) ve_int) (vw_and1 (vt_ne hr (ve_var 8) (ve_lst va_nil))))) (vss_cons (vs_bind2 [] (ve_sub_ix hr (ve_var 8) (ve_mod (ve_var 4) (ve_callB call_len cd_len T.b_len (by decide +kernel) (va_cons (ve_var 8) va_nil)))) (vg_tup rfl (vgs_cons (vg_name 13 sc_law_rule.nd) (vgs_cons (vg_name 14 sc_law_rule.nd) vgs_nil))))
    (vss_cons (vs_set 10 [] sc_law_rule.nd (ve_sub_ix hr (ve_lc [("table", 16), ("rows", 17), ("own", 18)] rfl sc_law_rule.nd (vi_seq (ve_var 2)) (blkOk_by (N := n_law_rule) (sc := defScope s_law_rule) (by decide +kernel)) (fun _ _ _ _ _ => (vg_tup rfl (vgs_cons (vg_name 16 sc_law_rule.nd) (vgs_cons (vg_name 17 sc_law_rule.nd) (vgs_cons (vg_name 18 sc_law_rule.nd) vgs_nil))))) (fun _ _ _ _ _ => vts_one (vt_eq hr (ve_var 16) (ve_var 14))) (fun _ _ _ _ _ => (ve_var 18))) ve_int))
    (vss_one (vs_ret [] (ve_tup (va_cons ve_str (va_cons (ve_var 13) (va_cons (ve_sub_ix hr (ve_sub_ix hr (ve_var 10) (ve_mod (ve_fdiv (ve_var 4) ve_int) (ve_callB call_len cd_len T.b_len (by decide +kernel) (va_cons (ve_var 10) va_nil)))) ve_int) va_nil)))))))) vss_nil)
    (vss_cons (vs_if [] (vt_eq hr (ve_var 9) ve_int) (vss_cons (vs_set 11 [] sc_law_rule.nd (ve_callB (call_min2 rfl) cd_min T.b_min (by decide +kernel) (va_cons (ve_var 5) (va_cons ve_int va_nil))))
    (vss_one (vs_ret [] (ve_tup (va_cons ve_str (va_cons (ve_var 11) (va_cons (ve_callB (call_min2 rfl) cd_min T.b_min (by decide +kernel) (va_cons ve_int (va_cons (ve_add (ve_sub (ve_add (ve_var 11) (ve_var 1)) ve_int) (ve_mod (ve_fdiv (ve_var 4) (ve_pow ve_int ve_int)) (ve_sub_ix hr (ve_lst (va_cons ve_int (va_cons ve_int (va_cons ve_int va_nil)))) (ve_mod (ve_fdiv (ve_var 4) (ve_pow ve_int ve_int)) ve_int)))) va_nil))) va_nil))))))) vss_nil)
    (vss_cons (vs_if [] (vt_eq hr (ve_var 9) ve_int) (vss_cons (vs_set 12 [] sc_law_rule.nd (ve_slice (ve_lst (va_cons ve_str (va_cons ve_str (va_cons ve_str (va_cons ve_str va_nil))))) vo_none (vo_some (ve_add ve_int (ve_mod (ve_var 4) ve_int)))))
    (vss_one (vs_ret [] (ve_tup (va_cons ve_str (va_cons (ve_callTy call_tuple_of cd_tuple T.b_tuple (by decide +kernel) (va_cons (ve_lc [("j", 19), ("word", 20)] rfl sc_law_rule.nd (vi_enum T.b_enumerate (va_cons (ve_var 12) va_nil)) (blkOk_by (N := n_law_rule) (sc := defScope s_law_rule) (by decide +kernel)) (fun _ _ _ _ _ => (vg_tup rfl (vgs_cons (vg_name 19 sc_law_rule.nd) (vgs_cons (vg_name 20 sc_law_rule.nd) vgs_nil)))) (fun _ _ _ _ _ => vts_nil) (fun _ _ _ _ _ => (ve_tup (va_cons (ve_var 20) (va_cons (ve_add ve_int (ve_mod (ve_call f_law_drawn hr (by omega) tk0 (va_cons (ve_var 4) (va_cons (ve_var 19) va_nil))) ve_int)) va_nil))))) va_nil)) va_nil)))))) vss_nil)
    (vss_cons (vs_if [] (vt_eq hr (ve_var 9) ve_int) (vss_one (vs_ret [] (ve_tup (va_cons ve_str (va_cons (ve_add ve_int (ve_mod (ve_var 4) ve_int)) (va_cons (ve_add ve_int (ve_mod (ve_fdiv (ve_var 4) ve_int) ve_int)) va_nil)))))) vss_nil)
    (vss_cons (vs_if [] (vt_eq hr (ve_var 9) ve_int) (vss_one (vs_ret [] (ve_tup (va_cons ve_str (va_cons (ve_sub_ix hr (ve_lst (va_cons ve_int (va_cons ve_int (va_cons ve_int (va_cons (ve_mod (ve_var 4) ve_int) va_nil))))) (ve_mod (ve_fdiv (ve_var 4) ve_int) ve_int)) va_nil))))) vss_nil)
    (vss_cons (vs_if [] (vt_eq hr (ve_var 9) ve_int) (vss_one (vs_ret [] (ve_tup (va_cons ve_str (va_cons (ve_var 5) (va_cons (ve_sub (ve_mod (ve_fdiv (ve_var 4) (ve_pow ve_int ve_int)) ve_int) ve_int) va_nil)))))) vss_nil)
    (vss_one (vs_ret [] (ve_tup (va_cons ve_str (va_cons (ve_var 5) (va_cons (ve_var 6) va_nil))))))))))))))))))))
theorem w_law_rule {f : Addr} {fd : FuncData} (F : Fun K "_law_rule" "_law_rule" s_law_rule f fd) (hm : mg "_law_rule" = some (.ref f)) (T : Tx w K mg g) (f_law_drawn : VFn P w K mg base g 1 "_law_drawn" m_law_drawn) : VFn P w K mg base g 2 "_law_rule" m_law_rule :=
  ⟨f, fd, ["more", "many", "tables", "columns"], hm, F.kp, F.binds fun _ _ _ _ _ _ us hl => match us, hl with | [_, _, _, _], _ => rfl, v_law_rule F hm T f_law_drawn⟩
abbrev s_law_plan : Stmt := topS 56
abbrev n_law_plan : List Str := ["more", "most", "tables", "j", "here", "many", "columns", "n"]
theorem sc_law_plan : FnScope n_law_plan ["more", "most"] (defScope s_law_plan) := ⟨rfl, rfl, rfl, by decide +kernel, rfl, by decide +kernel, by decide +kernel⟩
theorem v_law_plan {f : Addr} {fd : FuncData} (F : Fun K "_law_plan" "_law_plan" s_law_plan f fd) (hm : mg "_law_plan" = some (.ref f)) (T : Tx w K mg g) (f_law_drawn : VFn P w K mg base g 1 "_law_drawn" m_law_drawn) (f_law_rule : VFn P w K mg base g 2 "_law_rule" m_law_rule) : FnOk P w K mg base (L2N.CX P w) 3 f fd ["more", "most"] (spV K g m_law_plan) := by
  refine fn_ok (N := n_law_plan) (b := b_law_plan) F sc_law_plan fun cdv A outer s H E F0 hcv hr => ?_
  have tk : L2N.Takes (cxOf (L2N.CX P w) P w K mg base n_law_plan "_law_plan" (defScope s_law_plan) f cdv A outer s H E) (fun cls d _ H' => E cls d H') := L2N.takes_of rfl rfl rfl rfl
  have hp := passes_of (X := (cxOf (L2N.CX P w) P w K mg base n_law_plan "_law_plan" (defScope s_law_plan) f cdv A outer s H E)) rfl
  exact (vss_cons (vs_own 2 [] sc_law_plan.nd va_nil)
    (vss_cons (vs_for [] hp rfl (vi_range1 T.b_range (va_cons (ve_add ve_int (ve_mod (ve_var 0) ve_int)) va_nil)) (vg_name 3 sc_law_plan.nd) (vss_cons (vs_set 4 [] sc_law_plan.nd (ve_call f_law_drawn hr (by omega) tk (va_cons (ve_var 0) (va_cons (ve_var 3) va_nil))))
    (vss_cons (vs_set 5 [] sc_law_plan.nd (ve_add ve_int (ve_mod (ve_var 4) (ve_var 1))))
    (vss_cons (vs_own 6 [] sc_law_plan.nd va_nil)
    (vss_cons (vs_for [] hp rfl (vi_range1 T.b_range (va_cons (ve_add ve_int (ve_mod (ve_fdiv (ve_var 4) ve_int) ve_int)) va_nil)) (vg_name 7 sc_law_plan.nd) (vss_one (vs_app2 6 [2, 6] (ve_tup (va_cons (ve_mul (ve_sub_ix hr ve_str (ve_var 7)) (ve_add ve_int (ve_mod (ve_var 7) ve_int))) (va_cons (ve_call f_law_rule hr (by omega) tk (va_cons (ve_call f_law_drawn hr (by omega) tk (va_cons (ve_var 4) (va_cons (ve_var 7) va_nil))) (va_cons (ve_var 5) (va_cons (ve_var 2) (va_cons (ve_var 6) va_nil))))) va_nil))))))
    (vss_one (vs_app2 2 [6] (ve_tup (va_cons (ve_sub_ix hr (ve_lst (va_cons ve_str (va_cons ve_str (va_cons ve_str (va_cons ve_str va_nil))))) (ve_var 3)) (va_cons (ve_var 5) (va_cons (ve_var 6) va_nil)))))))))))
    (vss_one (vs_ret [2] (ve_var 2)))))
theorem w_law_plan {f : Addr} {fd : FuncData} (F : Fun K "_law_plan" "_law_plan" s_law_plan f fd) (hm : mg "_law_plan" = some (.ref f)) (T : Tx w K mg g) (f_law_drawn : VFn P w K mg base g 1 "_law_drawn" m_law_drawn) (f_law_rule : VFn P w K mg base g 2 "_law_rule" m_law_rule) : VFn P w K mg base g 3 "_law_plan" m_law_plan :=
  ⟨f, fd, ["more", "most"], hm, F.kp, F.binds fun _ _ _ _ _ _ us hl => match us, hl with | [_, _], _ => rfl, v_law_plan F hm T f_law_drawn f_law_rule⟩
abbrev s_law_same : Stmt := topS 57
abbrev n_law_same : List Str := ["one", "other"]
theorem sc_law_same : FnScope n_law_same ["one", "other"] (defScope s_law_same) := ⟨rfl, rfl, rfl, by decide +kernel, rfl, by decide +kernel, by decide +kernel⟩
theorem v_law_same {f : Addr} {fd : FuncData} (F : Fun K "_law_same" "_law_same" s_law_same f fd) (hm : mg "_law_same" = some (.ref f)) (T : Tx w K mg g) : FnOk P w K mg base (L2N.CX P w) 1 f fd ["one", "other"] (spV K g m_law_same) := by
  refine fn_ok (N := n_law_same) (b := b_law_same) F sc_law_same fun cdv A outer s H E F0 hcv hr => ?_
  have tk : L2N.Takes (cxOf (L2N.CX P w) P w K mg base n_law_same "_law_same" (defScope s_law_same) f cdv A outer s H E) (fun cls d _ H' => E cls d H') := L2N.takes_of rfl rfl rfl rfl
  have hp := passes_of (X := (cxOf (L2N.CX P w) P w K mg base n_law_same "_law_same" (defScope s_law_same) f cdv A outer s H E)) rfl
  exact (vss_one (vs_ret [] (ve_and (ve_eq hr (ve_callB call_isi cd_isi T.b_isinstance (by decide +kernel) (va_cons (ve_var 0) (va_cons (ve_bltn T.b_bool (by decide +kernel)) va_nil))) (ve_callB call_isi cd_isi T.b_isinstance (by decide +kernel) (va_cons (ve_var 1) (va_cons (ve_bltn T.b_bool (by decide +kernel)) va_nil)))) (ve_one (ve_eq hr (ve_var 0) (ve_var 1))))))
theorem w_law_same {f : Addr} {fd : FuncData} (F : Fun K "_law_same" "_law_same" s_law_same f fd) (hm : mg "_law_same" = some (.ref f)) (T : Tx w K mg g) : VFn P w K mg base g 1 "_law_same" m_law_same :=
  ⟨f, fd, ["one", "other"], hm, F.kp, F.binds fun _ _ _ _ _ _ us hl => match us, hl with | [_, _], _ => rfl, v_law_same F hm T⟩
abbrev s_law_shared_cells : Stmt := topS 58
abbrev n_law_shared_cells : List Str := ["one", "other", "name", "row", "far", "column"]
theorem sc_law_shared_cells : FnScope n_law_shared_cells ["one", "other"] (defScope s_law_shared_cells) := ⟨rfl, rfl, rfl, by decide +kernel, rfl, by decide +kernel, by decide +kernel⟩
theorem v_law_shared_cells {f : Addr} {fd : FuncData} (F : Fun K "_law_shared_cells" "_law_shared_cells" s_law_shared_cells f fd) (hm : mg "_law_shared_cells" = some (.ref f)) (T : Tx w K mg g) (f_law_same : VFn P w K mg base g 1 "_law_same" m_law_same) : FnOk P w K mg base (L2N.CX P w) 2 f fd ["one", "other"] (spV K g m_law_shared_cells) := by
  refine fn_ok (N := n_law_shared_cells) (b := b_law_shared_cells) F sc_law_shared_cells fun cdv A outer s H E F0 hcv hr => ?_
  have tk : L2N.Takes (cxOf (L2N.CX P w) P w K mg base n_law_shared_cells "_law_shared_cells" (defScope s_law_shared_cells) f cdv A outer s H E) (fun cls d _ H' => E cls d H') := L2N.takes_of rfl rfl rfl rfl
  have hp := passes_of (X := (cxOf (L2N.CX P w) P w K mg base n_law_shared_cells "_law_shared_cells" (defScope s_law_shared_cells) f cdv A outer s H E)) rfl
  exact (vss_cons (vs_for [] hp rfl (vi_seq (ve_var 0)) (vg_name 2 sc_law_shared_cells.nd) (vss_one (vs_for [] hp rfl (vi_zip T.b_zip (va_cons (ve_sub_ix hr (ve_var 0) (ve_var 2)) (va_cons (ve_sub_ix hr (ve_var 1) (ve_var 2)) va_nil))) (vg_tup rfl (vgs_cons (vg_name 3 sc_law_shared_cells.nd) (vgs_cons (vg_name 4 sc_law_shared_cells.nd) vgs_nil))) (vss_one (vs_if [] (vt_not (vt_of (ve_callB (cr_all rfl) cd_all T.b_all (by decide +kernel) (va_cons (ve_lc [("column", 5)] rfl sc_law_shared_cells.nd (vi_seq (ve_var 3)) (blkOk_by (N := n_law_shared_cells) (sc := defScope s_law_shared_cells) (by decide +kernel)) (fun _ _ _ _ _ => (vg_name 5 sc_law_shared_cells.nd)) (fun _ _ _ _ _ => vts_nil) (fun _ _ _ _ _ => (ve_and (ve_in hr (ve_var 5) (ve_var 4)) (ve_one (ve_call f_law_same hr (by omega) tk0 (va_cons (ve_sub_ix hr (ve_var 3) (ve_var 5)) (va_cons (ve_sub_ix hr (ve_var 4) (ve_var 5)) va_nil))))))) va_nil)))) (vss_one (vs_ret [] ve_bl)) vss_nil)))))
    (vss_one (vs_ret [] ve_bl)))
theorem w_law_shared_cells {f : Addr} {fd : FuncData} (F : Fun K "_law_shared_cells" "_law_shared_cells" s_law_shared_cells f fd) (hm : mg "_law_shared_cells" = some (.ref f)) (T : Tx w K mg g) (f_law_same : VFn P w K mg base g 1 "_law_same" m_law_same) : VFn P w K mg base g 2 "_law_shared_cells" m_law_shared_cells :=
  ⟨f, fd, ["one", "other"], hm, F.kp, F.binds fun _ _ _ _ _ _ us hl => match us, hl with | [_, _], _ => rfl, v_law_shared_cells F hm T f_law_same⟩
abbrev s_law : Stmt := topS 59
abbrev n_law : List Str := ["script", "k", "more", "plan", "seed", "world", "tables", "at", "row", "wide", "name", "many", "columns", "long", "column", "one"]
theorem sc_law : FnScope n_law ["script"] (defScope s_law) := ⟨rfl, rfl, rfl, by decide +kernel, rfl, by decide +kernel, by decide +kernel⟩
theorem v_law {f : Addr} {fd : FuncData} (F : Fun K "law" "law" s_law f fd) (hm : mg "law" = some (.ref f)) (T : Tx w K mg g) (f_law_cell : VFn P w K mg base g 1 "_law_cell" m_law_cell) (f_law_drawn : VFn P w K mg base g 1 "_law_drawn" m_law_drawn) (f_law_plan : VFn P w K mg base g 3 "_law_plan" m_law_plan) (f_World___init : VMk P w K mg base g 8 "World" m_World___init) (f_World_tables : VMth P w K mg base g 49 "World" "tables" m_World_tables) (f_law_shared_cells : VFn P w K mg base g 2 "_law_shared_cells" m_law_shared_cells) (f_faults : VFn P w K mg base g 8 "faults" m_faults) (f_World_rows : VMth P w K mg base g 48 "World" "rows" m_World_rows) (f_World_row : VMth P w K mg base g 47 "World" "row" m_World_row) (f_World_columns : VMth P w K mg base g 3 "World" "columns" m_World_columns) (f_World_names : VMth P w K mg base g 1 "World" "names" m_World_names) (f_World_cell : VMth P w K mg base g 46 "World" "cell" m_World_cell) (f_law_same : VFn P w K mg base g 1 "_law_same" m_law_same) (f_World_many : VMth P w K mg base g 3 "World" "many" m_World_many) : FnOk P w K mg base (L2N.CX P w) 50 f fd ["script"] (spV K g m_law) := by
  refine fn_ok (N := n_law) (b := b_law) F sc_law fun cdv A outer s H E F0 hcv hr => ?_
  have tk : L2N.Takes (cxOf (L2N.CX P w) P w K mg base n_law "law" (defScope s_law) f cdv A outer s H E) (fun cls d _ H' => E cls d H') := L2N.takes_of rfl rfl rfl rfl
  have hp := passes_of (X := (cxOf (L2N.CX P w) P w K mg base n_law "law" (defScope s_law) f cdv A outer s H E)) rfl
  exact (vss_cons (vs_for [] hp rfl (vi_range1 T.b_range (va_cons (ve_callB (call_max2 rfl) cd_max T.b_max (by decide +kernel) (va_cons ve_int (va_cons (ve_callB (call_min2 rfl) cd_min T.b_min (by decide +kernel) (va_cons ve_int (va_cons (ve_callB call_len cd_len T.b_len (by decide +kernel) (va_cons (ve_var 0) va_nil)) va_nil))) va_nil))) va_nil)) (vg_name 1 sc_law.nd) (vss_cons (vs_set 2 [] sc_law.nd (ve_call f_law_drawn hr (by omega) tk (va_cons (ve_call f_law_cell hr (by omega) tk (va_cons (ve_var 0) (va_cons (ve_var 1) va_nil))) (va_cons (ve_var 1) va_nil))))
    (vss_cons (vs_set 3 [] sc_law.nd (ve_call f_law_plan hr (by omega) tk (va_cons (ve_fdiv (ve_var 2) ve_int) (va_cons (ve_sub_ix hr (ve_lst (va_cons ve_int (va_cons ve_int va_nil))) (ve_mod (ve_var 2) ve_int)) va_nil))))
    (vss_cons (vs_set 4 [] sc_law.nd (ve_mod (ve_fdiv (ve_var 2) ve_int) ve_int))
    (vss_cons (vs_set 5 [] sc_law.nd (ve_make f_World___init hr (by omega) tk (va_cons (ve_var 3) (va_cons (ve_var 4) va_nil))))
    (vss_cons (vs_set 6 [] sc_law.nd (ve_meth0 f_World_tables hr (by omega) tk (ve_var 5)))
    (vss_cons (vs_if [] (vt_lt (ve_callB call_len cd_len T.b_len (by decide +kernel) (va_cons (ve_var 3) va_nil)) ve_int) (vss_cons (vs_set 9 [] sc_law.nd (ve_add (ve_var 3) (ve_lst (va_cons (ve_tup (va_cons ve_str (va_cons ve_int (va_cons (ve_lst (va_cons (ve_tup (va_cons ve_str (va_cons (ve_tup (va_cons ve_str (va_cons (ve_sub_ix hr (ve_sub_ix hr (ve_var 3) ve_int) ve_int) va_nil))) va_nil))) (va_cons (ve_tup (va_cons ve_str (va_cons (ve_tup (va_cons ve_str (va_cons ve_int (va_cons ve_int va_nil)))) va_nil))) va_nil))) va_nil)))) va_nil))))
    (vss_one (vs_if [] (vt_not (vt_of (ve_call f_law_shared_cells hr (by omega) tk (va_cons (ve_var 6) (va_cons (ve_meth0 f_World_tables hr (by omega) tk (ve_make f_World___init hr (by omega) tk (va_cons (ve_var 9) (va_cons (ve_var 4) va_nil)))) va_nil))))) (vss_one (vs_ret [] ve_bl)) vss_nil))) vss_nil)
    (vss_cons (vs_set 7 [] sc_law.nd (ve_mod (ve_fdiv (ve_var 2) (ve_pow ve_int ve_int)) (ve_callB call_len cd_len T.b_len (by decide +kernel) (va_cons (ve_var 3) va_nil))))
    (vss_cons (vs_bind2 [] (ve_sub_ix hr (ve_var 3) (ve_var 7)) (vg_tup rfl (vgs_cons (vg_name 10 sc_law.nd) (vgs_cons (vg_name 11 sc_law.nd) (vgs_cons (vg_name 12 sc_law.nd) vgs_nil)))))
    (vss_cons (vs_if [] (vt_lt (ve_callB call_len cd_len T.b_len (by decide +kernel) (va_cons (ve_var 12) va_nil)) ve_int) (vss_cons (vs_set 13 [] sc_law.nd (ve_add (ve_add (ve_slice (ve_var 3) vo_none (vo_some (ve_var 7))) (ve_lst (va_cons (ve_tup (va_cons (ve_var 10) (va_cons (ve_var 11) (va_cons (ve_add (ve_var 12) (ve_lst (va_cons (ve_tup (va_cons ve_str (va_cons (ve_tup (va_cons ve_str (va_cons ve_int va_nil))) va_nil))) va_nil))) va_nil)))) va_nil))) (ve_slice (ve_var 3) (vo_some (ve_add (ve_var 7) ve_int)) vo_none)))
    (vss_cons (vs_set 9 [] sc_law.nd (ve_meth0 f_World_tables hr (by omega) tk (ve_make f_World___init hr (by omega) tk (va_cons (ve_var 13) (va_cons (ve_var 4) va_nil)))))
    (vss_one (vs_if [] (vw_pt (vw_or (vt_not (vt_of (ve_call f_law_shared_cells hr (by omega) tk (va_cons (ve_var 6) (va_cons (ve_var 9) va_nil))))) (vw_or1 (vt_neE hr (ve_call f_faults hr (by omega) tk (va_cons (ve_var 13) (va_cons (ve_var 9) va_nil))) (ve_lst va_nil))))) (vss_one (vs_ret [] ve_bl)) vss_nil)))) vss_nil)
    (vss_cons (vs_spoil [5, 10] (ve_sub_ix hr (ve_meth0 f_World_tables hr (by omega) tk (ve_var 5)) (ve_var 10)))
    (vss_cons (vs_spoil [5, 10] (ve_sub_ix hr (ve_meth f_World_rows hr (by omega) tk (ve_var 5) (va_cons (ve_var 10) va_nil)) ve_int))
    (vss_cons (vs_spoil [5, 10] (ve_meth f_World_row hr (by omega) tk (ve_var 5) (va_cons (ve_var 10) (va_cons ve_int va_nil))))
    (vss_cons (vs_spoilA [5, 10] (ve_meth f_World_columns hr (by omega) tk (ve_var 5) (va_cons (ve_var 10) va_nil)))
    (vss_cons (vs_spoilA [5] (ve_meth0 f_World_names hr (by omega) tk (ve_var 5)))
    (vss_cons (vs_if [] (vw_pt (vw_or (vt_neE hr (ve_meth0 f_World_tables hr (by omega) tk (ve_var 5)) (ve_var 6)) (vw_or1 (vt_neE hr (ve_meth0 f_World_tables hr (by omega) tk (ve_make f_World___init hr (by omega) tk (va_cons (ve_var 3) (va_cons (ve_var 4) va_nil)))) (ve_var 6))))) (vss_one (vs_ret [] ve_bl)) vss_nil)
    (vss_cons (vs_for [] hp rfl (vi_range2 T.b_range (va_cons ve_int (va_cons (ve_add (ve_var 11) ve_int) va_nil))) (vg_name 8 sc_law.nd) (vss_cons (vs_if [] (vw_pt (vw_or (vt_neE hr (ve_meth f_World_row hr (by omega) tk (ve_var 5) (va_cons (ve_var 10) (va_cons (ve_var 8) va_nil))) (ve_sub_ix hr (ve_sub_ix hr (ve_var 6) (ve_var 10)) (ve_sub (ve_var 8) ve_int))) (vw_or1 (vt_neE hr (ve_sub_ix hr (ve_meth f_World_rows hr (by omega) tk (ve_var 5) (va_cons (ve_var 10) va_nil)) (ve_sub (ve_var 8) ve_int)) (ve_sub_ix hr (ve_sub_ix hr (ve_var 6) (ve_var 10)) (ve_sub (ve_var 8) ve_int)))))) (vss_one (vs_ret [] ve_bl)) vss_nil)
    (vss_one (vs_for [] hp rfl (vi_seq (ve_meth f_World_columns hr (by omega) tk (ve_var 5) (va_cons (ve_var 10) va_nil))) (vg_name 14 sc_law.nd) (vss_one (vs_if [] (vt_not (vt_of (ve_call f_law_same hr (by omega) tk (va_cons (ve_meth f_World_cell hr (by omega) tk (ve_var 5) (va_cons (ve_var 10) (va_cons (ve_var 8) (va_cons (ve_var 14) va_nil)))) (va_cons (ve_sub_ix hr (ve_sub_ix hr (ve_sub_ix hr (ve_var 6) (ve_var 10)) (ve_sub (ve_var 8) ve_int)) (ve_var 14)) va_nil))))) (vss_one (vs_ret [] ve_bl)) vss_nil))))))
    (vss_one (vs_if [] (vw_pt (vw_or (vt_neE hr (ve_meth f_World_many hr (by omega) tk (ve_var 5) (va_cons (ve_var 10) va_nil)) (ve_var 11)) (vw_or1 (vt_neE hr (ve_meth0 f_World_names hr (by omega) tk (ve_var 5)) (ve_lc [("one", 15)] rfl sc_law.nd (vi_seq (ve_var 3)) (blkOk_by (N := n_law) (sc := defScope s_law) (by decide +kernel)) (fun _ _ _ _ _ => (vg_name 15 sc_law.nd)) (fun _ _ _ _ _ => vts_nil) (fun _ _ _ _ _ => (ve_sub_ix hr (ve_var 15) ve_int))))))) (vss_one (vs_ret [] ve_bl)) vss_nil)))))))))))))))))))
    (vss_one (vs_ret [] ve_bl)))
end
def lamNames : List Str := []
theorem all_mk {l : PySem.W.OpenLaw} {w : World} {K : PySem.W.Frag} {h : Heap} {mg : Str → Option Value} {fa : Addr}
    {C_BadDraw : Addr}
    {C_BadPlan : Addr}
    {C_NoCell : Addr}
    {C_World : Addr}
    {a_is_count : Addr} {od_is_count an_is_count : Option Addr} {sl_is_count : Array (Option Value)} {oc_is_count kV_is_count dc_is_count pm_is_count cd_is_count ct_is_count : Value}
    {a_need_draws : Addr} {od_need_draws an_need_draws : Option Addr} {sl_need_draws : Array (Option Value)} {oc_need_draws kV_need_draws dc_need_draws pm_need_draws cd_need_draws ct_need_draws : Value}
    {a_draw : Addr} {od_draw an_draw : Option Addr} {sl_draw : Array (Option Value)} {oc_draw kV_draw dc_draw pm_draw cd_draw ct_draw : Value}
    {a_drawn : Addr} {od_drawn an_drawn : Option Addr} {sl_drawn : Array (Option Value)} {oc_drawn kV_drawn dc_drawn pm_drawn cd_drawn ct_drawn : Value}
    {a_word_of : Addr} {od_word_of an_word_of : Option Addr} {sl_word_of : Array (Option Value)} {oc_word_of kV_word_of dc_word_of pm_word_of cd_word_of ct_word_of : Value}
    {a_shared_of : Addr} {od_shared_of an_shared_of : Option Addr} {sl_shared_of : Array (Option Value)} {oc_shared_of kV_shared_of dc_shared_of pm_shared_of cd_shared_of ct_shared_of : Value}
    {a_divides_both : Addr} {od_divides_both an_divides_both : Option Addr} {sl_divides_both : Array (Option Value)} {oc_divides_both kV_divides_both dc_divides_both pm_divides_both cd_divides_both ct_divides_both : Value}
    {a_spread_of : Addr} {od_spread_of an_spread_of : Option Addr} {sl_spread_of : Array (Option Value)} {oc_spread_of kV_spread_of dc_spread_of pm_spread_of cd_spread_of ct_spread_of : Value}
    {a_need_plans : Addr} {od_need_plans an_need_plans : Option Addr} {sl_need_plans : Array (Option Value)} {oc_need_plans kV_need_plans dc_need_plans pm_need_plans cd_need_plans ct_need_plans : Value}
    {a_is_word : Addr} {od_is_word an_is_word : Option Addr} {sl_is_word : Array (Option Value)} {oc_is_word kV_is_word dc_is_word pm_is_word cd_is_word ct_is_word : Value}
    {a_is_option : Addr} {od_is_option an_is_option : Option Addr} {sl_is_option : Array (Option Value)} {oc_is_option kV_is_option dc_is_option pm_is_option cd_is_option ct_is_option : Value}
    {a_are_options : Addr} {od_are_options an_are_options : Option Addr} {sl_are_options : Array (Option Value)} {oc_are_options kV_are_options dc_are_options pm_are_options cd_are_options ct_are_options : Value}
    {a_is_range : Addr} {od_is_range an_is_range : Option Addr} {sl_is_range : Array (Option Value)} {oc_is_range kV_is_range dc_is_range pm_is_range cd_is_range ct_is_range : Value}
    {a_rule_kind : Addr} {od_rule_kind an_rule_kind : Option Addr} {sl_rule_kind : Array (Option Value)} {oc_rule_kind kV_rule_kind dc_rule_kind pm_rule_kind cd_rule_kind ct_rule_kind : Value}
    {a_is_plain_rule : Addr} {od_is_plain_rule an_is_plain_rule : Option Addr} {sl_is_plain_rule : Array (Option Value)} {oc_is_plain_rule kV_is_plain_rule dc_is_plain_rule pm_is_plain_rule cd_is_plain_rule ct_is_plain_rule : Value}
    {a_is_rule : Addr} {od_is_rule an_is_rule : Option Addr} {sl_is_rule : Array (Option Value)} {oc_is_rule kV_is_rule dc_is_rule pm_is_rule cd_is_rule ct_is_rule : Value}
    {a_look_columns : Addr} {od_look_columns an_look_columns : Option Addr} {sl_look_columns : Array (Option Value)} {oc_look_columns kV_look_columns dc_look_columns pm_look_columns cd_look_columns ct_look_columns : Value}
    {a_need_plan : Addr} {od_need_plan an_need_plan : Option Addr} {sl_need_plan : Array (Option Value)} {oc_need_plan kV_need_plan dc_need_plan pm_need_plan cd_need_plan ct_need_plan : Value}
    {a_World___init : Addr} {od_World___init an_World___init : Option Addr} {sl_World___init : Array (Option Value)} {oc_World___init kV_World___init dc_World___init pm_World___init cd_World___init ct_World___init : Value}
    {a_World_need_cell : Addr} {od_World_need_cell an_World_need_cell : Option Addr} {sl_World_need_cell : Array (Option Value)} {oc_World_need_cell kV_World_need_cell dc_World_need_cell pm_World_need_cell cd_World_need_cell ct_World_need_cell : Value}
    {a_World_names : Addr} {od_World_names an_World_names : Option Addr} {sl_World_names : Array (Option Value)} {oc_World_names kV_World_names dc_World_names pm_World_names cd_World_names ct_World_names : Value}
    {a_World_at : Addr} {od_World_at an_World_at : Option Addr} {sl_World_at : Array (Option Value)} {oc_World_at kV_World_at dc_World_at pm_World_at cd_World_at ct_World_at : Value}
    {a_World_columns : Addr} {od_World_columns an_World_columns : Option Addr} {sl_World_columns : Array (Option Value)} {oc_World_columns kV_World_columns dc_World_columns pm_World_columns cd_World_columns ct_World_columns : Value}
    {a_World_many : Addr} {od_World_many an_World_many : Option Addr} {sl_World_many : Array (Option Value)} {oc_World_many kV_World_many dc_World_many pm_World_many cd_World_many ct_World_many : Value}
    {a_World_looked : Addr} {od_World_looked an_World_looked : Option Addr} {sl_World_looked : Array (Option Value)} {oc_World_looked kV_World_looked dc_World_looked pm_World_looked cd_World_looked ct_World_looked : Value}
    {a_World_worth : Addr} {od_World_worth an_World_worth : Option Addr} {sl_World_worth : Array (Option Value)} {oc_World_worth kV_World_worth dc_World_worth pm_World_worth cd_World_worth ct_World_worth : Value}
    {a_World_cell : Addr} {od_World_cell an_World_cell : Option Addr} {sl_World_cell : Array (Option Value)} {oc_World_cell kV_World_cell dc_World_cell pm_World_cell cd_World_cell ct_World_cell : Value}
    {a_World_row : Addr} {od_World_row an_World_row : Option Addr} {sl_World_row : Array (Option Value)} {oc_World_row kV_World_row dc_World_row pm_World_row cd_World_row ct_World_row : Value}
    {a_World_rows : Addr} {od_World_rows an_World_rows : Option Addr} {sl_World_rows : Array (Option Value)} {oc_World_rows kV_World_rows dc_World_rows pm_World_rows cd_World_rows ct_World_rows : Value}
    {a_World_tables : Addr} {od_World_tables an_World_tables : Option Addr} {sl_World_tables : Array (Option Value)} {oc_World_tables kV_World_tables dc_World_tables pm_World_tables cd_World_tables ct_World_tables : Value}
    {a_is_number : Addr} {od_is_number an_is_number : Option Addr} {sl_is_number : Array (Option Value)} {oc_is_number kV_is_number dc_is_number pm_is_number cd_is_number ct_is_number : Value}
    {a_is_good_word : Addr} {od_is_good_word an_is_good_word : Option Addr} {sl_is_good_word : Array (Option Value)} {oc_is_good_word kV_is_good_word dc_is_good_word pm_is_good_word cd_is_good_word ct_is_good_word : Value}
    {a_linked : Addr} {od_linked an_linked : Option Addr} {sl_linked : Array (Option Value)} {oc_linked kV_linked dc_linked pm_linked cd_linked ct_linked : Value}
    {a_same : Addr} {od_same an_same : Option Addr} {sl_same : Array (Option Value)} {oc_same kV_same dc_same pm_same cd_same ct_same : Value}
    {a_is_so : Addr} {od_is_so an_is_so : Option Addr} {sl_is_so : Array (Option Value)} {oc_is_so kV_is_so dc_is_so pm_is_so cd_is_so ct_is_so : Value}
    {a_is_met : Addr} {od_is_met an_is_met : Option Addr} {sl_is_met : Array (Option Value)} {oc_is_met kV_is_met dc_is_met pm_is_met cd_is_met ct_is_met : Value}
    {a_faults : Addr} {od_faults an_faults : Option Addr} {sl_faults : Array (Option Value)} {oc_faults kV_faults dc_faults pm_faults cd_faults ct_faults : Value}
    {a_law_cell : Addr} {od_law_cell an_law_cell : Option Addr} {sl_law_cell : Array (Option Value)} {oc_law_cell kV_law_cell dc_law_cell pm_law_cell cd_law_cell ct_law_cell : Value}
    {a_law_drawn : Addr} {od_law_drawn an_law_drawn : Option Addr} {sl_law_drawn : Array (Option Value)} {oc_law_drawn kV_law_drawn dc_law_drawn pm_law_drawn cd_law_drawn ct_law_drawn : Value}
    {a_law_rule : Addr} {od_law_rule an_law_rule : Option Addr} {sl_law_rule : Array (Option Value)} {oc_law_rule kV_law_rule dc_law_rule pm_law_rule cd_law_rule ct_law_rule : Value}
    {a_law_plan : Addr} {od_law_plan an_law_plan : Option Addr} {sl_law_plan : Array (Option Value)} {oc_law_plan kV_law_plan dc_law_plan pm_law_plan cd_law_plan ct_law_plan : Value}
    {a_law_same : Addr} {od_law_same an_law_same : Option Addr} {sl_law_same : Array (Option Value)} {oc_law_same kV_law_same dc_law_same pm_law_same cd_law_same ct_law_same : Value}
    {a_law_shared_cells : Addr} {od_law_shared_cells an_law_shared_cells : Option Addr} {sl_law_shared_cells : Array (Option Value)} {oc_law_shared_cells kV_law_shared_cells dc_law_shared_cells pm_law_shared_cells cd_law_shared_cells ct_law_shared_cells : Value}
    {a_law : Addr} {od_law an_law : Option Addr} {sl_law : Array (Option Value)} {oc_law kV_law dc_law pm_law cd_law ct_law : Value}
    {t_FIRST : Tok}
    {t_MOST_COLUMNS : Tok}
    {t_MOST_NAME : Tok}
    {t_MOST_NUMBER : Tok}
    {t_MOST_OPTIONS : Tok}
    {t_MOST_PLACE : Tok}
    {t_MOST_ROWS : Tok}
    {t_MOST_SEED : Tok}
    {t_MOST_SHARE : Tok}
    {t_MOST_TABLES : Tok}
    {t_MOST_WORD : Tok}
    {t_SECOND : Tok}
    {t_SMALL : Tok}
    {A_NUMBERS : Addr} {O_NUMBERS : Option Addr} {I_NUMBERS : Array Value} {N_NUMBERS : Nat} {S_NUMBERS : Array (Option Value)}
    {A_LENGTHS : Addr} {E_LENGTHS : Array DictEntry} {N_LENGTHS : Nat}
    (X : K.In h) (G : h.Ns mainGlobals mg) (hfa : mg "law" = some (.ref fa))
    (g_BadDraw : PySem.W.nsIn K mainGlobals "BadDraw" = some (some (.ref C_BadDraw)))
    (g_BadPlan : PySem.W.nsIn K mainGlobals "BadPlan" = some (some (.ref C_BadPlan)))
    (g_NoCell : PySem.W.nsIn K mainGlobals "NoCell" = some (some (.ref C_NoCell)))
    (g_World : PySem.W.nsIn K mainGlobals "World" = some (some (.ref C_World)))
    (g_is_count : PySem.W.nsIn K mainGlobals "is_count" = some (some (.ref a_is_count)))
    (l_is_count : K.lookup a_is_count = some ⟨oc_is_count, od_is_count, .func (PySem.W.fnOf "is_count" "is_count" (defArgs s_is_count) (defBody s_is_count) (defScope s_is_count) .none kV_is_count dc_is_count pm_is_count an_is_count cd_is_count ct_is_count), sl_is_count⟩)
    (c_is_count : PySem.W.codeIn K cd_is_count "is_count" = true)
    (k_is_count : PySem.W.keepIn K (.ref a_is_count) = true)
    (g_need_draws : PySem.W.nsIn K mainGlobals "need_draws" = some (some (.ref a_need_draws)))
    (l_need_draws : K.lookup a_need_draws = some ⟨oc_need_draws, od_need_draws, .func (PySem.W.fnOf "need" "need" (defArgs s_need_draws) (defBody s_need_draws) (defScope s_need_draws) .none kV_need_draws dc_need_draws pm_need_draws an_need_draws cd_need_draws ct_need_draws), sl_need_draws⟩)
    (c_need_draws : PySem.W.codeIn K cd_need_draws "need" = true)
    (k_need_draws : PySem.W.keepIn K (.ref a_need_draws) = true)
    (g_draw : PySem.W.nsIn K mainGlobals "draw" = some (some (.ref a_draw)))
    (l_draw : K.lookup a_draw = some ⟨oc_draw, od_draw, .func (PySem.W.fnOf "draw" "draw" (defArgs s_draw) (defBody s_draw) (defScope s_draw) .none kV_draw dc_draw pm_draw an_draw cd_draw ct_draw), sl_draw⟩)
    (c_draw : PySem.W.codeIn K cd_draw "draw" = true)
    (k_draw : PySem.W.keepIn K (.ref a_draw) = true)
    (g_drawn : PySem.W.nsIn K mainGlobals "drawn" = some (some (.ref a_drawn)))
    (l_drawn : K.lookup a_drawn = some ⟨oc_drawn, od_drawn, .func (PySem.W.fnOf "drawn" "drawn" (defArgs s_drawn) (defBody s_drawn) (defScope s_drawn) .none kV_drawn dc_drawn pm_drawn an_drawn cd_drawn ct_drawn), sl_drawn⟩)
    (c_drawn : PySem.W.codeIn K cd_drawn "drawn" = true)
    (k_drawn : PySem.W.keepIn K (.ref a_drawn) = true)
    (g_word_of : PySem.W.nsIn K mainGlobals "word_of" = some (some (.ref a_word_of)))
    (l_word_of : K.lookup a_word_of = some ⟨oc_word_of, od_word_of, .func (PySem.W.fnOf "word_of" "word_of" (defArgs s_word_of) (defBody s_word_of) (defScope s_word_of) .none kV_word_of dc_word_of pm_word_of an_word_of cd_word_of ct_word_of), sl_word_of⟩)
    (c_word_of : PySem.W.codeIn K cd_word_of "word_of" = true)
    (k_word_of : PySem.W.keepIn K (.ref a_word_of) = true)
    (g_shared_of : PySem.W.nsIn K mainGlobals "shared_of" = some (some (.ref a_shared_of)))
    (l_shared_of : K.lookup a_shared_of = some ⟨oc_shared_of, od_shared_of, .func (PySem.W.fnOf "shared_of" "shared_of" (defArgs s_shared_of) (defBody s_shared_of) (defScope s_shared_of) .none kV_shared_of dc_shared_of pm_shared_of an_shared_of cd_shared_of ct_shared_of), sl_shared_of⟩)
    (c_shared_of : PySem.W.codeIn K cd_shared_of "shared_of" = true)
    (k_shared_of : PySem.W.keepIn K (.ref a_shared_of) = true)
    (g_divides_both : PySem.W.nsIn K mainGlobals "divides_both" = some (some (.ref a_divides_both)))
    (l_divides_both : K.lookup a_divides_both = some ⟨oc_divides_both, od_divides_both, .func (PySem.W.fnOf "divides_both" "divides_both" (defArgs s_divides_both) (defBody s_divides_both) (defScope s_divides_both) .none kV_divides_both dc_divides_both pm_divides_both an_divides_both cd_divides_both ct_divides_both), sl_divides_both⟩)
    (c_divides_both : PySem.W.codeIn K cd_divides_both "divides_both" = true)
    (k_divides_both : PySem.W.keepIn K (.ref a_divides_both) = true)
    (g_spread_of : PySem.W.nsIn K mainGlobals "spread_of" = some (some (.ref a_spread_of)))
    (l_spread_of : K.lookup a_spread_of = some ⟨oc_spread_of, od_spread_of, .func (PySem.W.fnOf "spread_of" "spread_of" (defArgs s_spread_of) (defBody s_spread_of) (defScope s_spread_of) .none kV_spread_of dc_spread_of pm_spread_of an_spread_of cd_spread_of ct_spread_of), sl_spread_of⟩)
    (c_spread_of : PySem.W.codeIn K cd_spread_of "spread_of" = true)
    (k_spread_of : PySem.W.keepIn K (.ref a_spread_of) = true)
    (g_need_plans : PySem.W.nsIn K mainGlobals "need_plans" = some (some (.ref a_need_plans)))
    (l_need_plans : K.lookup a_need_plans = some ⟨oc_need_plans, od_need_plans, .func (PySem.W.fnOf "need" "need" (defArgs s_need_plans) (defBody s_need_plans) (defScope s_need_plans) .none kV_need_plans dc_need_plans pm_need_plans an_need_plans cd_need_plans ct_need_plans), sl_need_plans⟩)
    (c_need_plans : PySem.W.codeIn K cd_need_plans "need" = true)
    (k_need_plans : PySem.W.keepIn K (.ref a_need_plans) = true)
    (g_is_word : PySem.W.nsIn K mainGlobals "is_word" = some (some (.ref a_is_word)))
    (l_is_word : K.lookup a_is_word = some ⟨oc_is_word, od_is_word, .func (PySem.W.fnOf "is_word" "is_word" (defArgs s_is_word) (defBody s_is_word) (defScope s_is_word) .none kV_is_word dc_is_word pm_is_word an_is_word cd_is_word ct_is_word), sl_is_word⟩)
    (c_is_word : PySem.W.codeIn K cd_is_word "is_word" = true)
    (k_is_word : PySem.W.keepIn K (.ref a_is_word) = true)
    (g_is_option : PySem.W.nsIn K mainGlobals "is_option" = some (some (.ref a_is_option)))
    (l_is_option : K.lookup a_is_option = some ⟨oc_is_option, od_is_option, .func (PySem.W.fnOf "is_option" "is_option" (defArgs s_is_option) (defBody s_is_option) (defScope s_is_option) .none kV_is_option dc_is_option pm_is_option an_is_option cd_is_option ct_is_option), sl_is_option⟩)
    (c_is_option : PySem.W.codeIn K cd_is_option "is_option" = true)
    (k_is_option : PySem.W.keepIn K (.ref a_is_option) = true)
    (g_are_options : PySem.W.nsIn K mainGlobals "are_options" = some (some (.ref a_are_options)))
    (l_are_options : K.lookup a_are_options = some ⟨oc_are_options, od_are_options, .func (PySem.W.fnOf "are_options" "are_options" (defArgs s_are_options) (defBody s_are_options) (defScope s_are_options) .none kV_are_options dc_are_options pm_are_options an_are_options cd_are_options ct_are_options), sl_are_options⟩)
    (c_are_options : PySem.W.codeIn K cd_are_options "are_options" = true)
    (k_are_options : PySem.W.keepIn K (.ref a_are_options) = true)
    (g_is_range : PySem.W.nsIn K mainGlobals "is_range" = some (some (.ref a_is_range)))
    (l_is_range : K.lookup a_is_range = some ⟨oc_is_range, od_is_range, .func (PySem.W.fnOf "is_range" "is_range" (defArgs s_is_range) (defBody s_is_range) (defScope s_is_range) .none kV_is_range dc_is_range pm_is_range an_is_range cd_is_range ct_is_range), sl_is_range⟩)
    (c_is_range : PySem.W.codeIn K cd_is_range "is_range" = true)
    (k_is_range : PySem.W.keepIn K (.ref a_is_range) = true)
    (g_rule_kind : PySem.W.nsIn K mainGlobals "rule_kind" = some (some (.ref a_rule_kind)))
    (l_rule_kind : K.lookup a_rule_kind = some ⟨oc_rule_kind, od_rule_kind, .func (PySem.W.fnOf "rule_kind" "rule_kind" (defArgs s_rule_kind) (defBody s_rule_kind) (defScope s_rule_kind) .none kV_rule_kind dc_rule_kind pm_rule_kind an_rule_kind cd_rule_kind ct_rule_kind), sl_rule_kind⟩)
    (c_rule_kind : PySem.W.codeIn K cd_rule_kind "rule_kind" = true)
    (k_rule_kind : PySem.W.keepIn K (.ref a_rule_kind) = true)
    (g_is_plain_rule : PySem.W.nsIn K mainGlobals "is_plain_rule" = some (some (.ref a_is_plain_rule)))
    (l_is_plain_rule : K.lookup a_is_plain_rule = some ⟨oc_is_plain_rule, od_is_plain_rule, .func (PySem.W.fnOf "is_plain_rule" "is_plain_rule" (defArgs s_is_plain_rule) (defBody s_is_plain_rule) (defScope s_is_plain_rule) .none kV_is_plain_rule dc_is_plain_rule pm_is_plain_rule an_is_plain_rule cd_is_plain_rule ct_is_plain_rule), sl_is_plain_rule⟩)
    (c_is_plain_rule : PySem.W.codeIn K cd_is_plain_rule "is_plain_rule" = true)
    (k_is_plain_rule : PySem.W.keepIn K (.ref a_is_plain_rule) = true)
    (g_is_rule : PySem.W.nsIn K mainGlobals "is_rule" = some (some (.ref a_is_rule)))
    (l_is_rule : K.lookup a_is_rule = some ⟨oc_is_rule, od_is_rule, .func (PySem.W.fnOf "is_rule" "is_rule" (defArgs s_is_rule) (defBody s_is_rule) (defScope s_is_rule) .none kV_is_rule dc_is_rule pm_is_rule an_is_rule cd_is_rule ct_is_rule), sl_is_rule⟩)
    (c_is_rule : PySem.W.codeIn K cd_is_rule "is_rule" = true)
    (k_is_rule : PySem.W.keepIn K (.ref a_is_rule) = true)
    (g_look_columns : PySem.W.nsIn K mainGlobals "look_columns" = some (some (.ref a_look_columns)))
    (l_look_columns : K.lookup a_look_columns = some ⟨oc_look_columns, od_look_columns, .func (PySem.W.fnOf "look_columns" "look_columns" (defArgs s_look_columns) (defBody s_look_columns) (defScope s_look_columns) .none kV_look_columns dc_look_columns pm_look_columns an_look_columns cd_look_columns ct_look_columns), sl_look_columns⟩)
    (c_look_columns : PySem.W.codeIn K cd_look_columns "look_columns" = true)
    (k_look_columns : PySem.W.keepIn K (.ref a_look_columns) = true)
    (g_need_plan : PySem.W.nsIn K mainGlobals "need_plan" = some (some (.ref a_need_plan)))
    (l_need_plan : K.lookup a_need_plan = some ⟨oc_need_plan, od_need_plan, .func (PySem.W.fnOf "need_plan" "need_plan" (defArgs s_need_plan) (defBody s_need_plan) (defScope s_need_plan) .none kV_need_plan dc_need_plan pm_need_plan an_need_plan cd_need_plan ct_need_plan), sl_need_plan⟩)
    (c_need_plan : PySem.W.codeIn K cd_need_plan "need_plan" = true)
    (k_need_plan : PySem.W.keepIn K (.ref a_need_plan) = true)
    (g_World___init : PySem.W.findIn K (.ref C_World) "__init__" = some (some (.ref a_World___init)))
    (i_World___init : PySem.W.isFn K (.ref a_World___init) = true)
    (l_World___init : K.lookup a_World___init = some ⟨oc_World___init, od_World___init, .func (PySem.W.fnOf "__init__" "World.__init__" (defArgs s_World___init) (defBody s_World___init) (defScope s_World___init) .none kV_World___init dc_World___init pm_World___init an_World___init cd_World___init ct_World___init), sl_World___init⟩)
    (c_World___init : PySem.W.codeIn K cd_World___init "World.__init__" = true)
    (k_World___init : PySem.W.keepIn K (.ref a_World___init) = true)
    (g_World_need_cell : PySem.W.findIn K (.ref C_World) "need_cell" = some (some (.ref a_World_need_cell)))
    (i_World_need_cell : PySem.W.isFn K (.ref a_World_need_cell) = true)
    (l_World_need_cell : K.lookup a_World_need_cell = some ⟨oc_World_need_cell, od_World_need_cell, .func (PySem.W.fnOf "need_cell" "World.need_cell" (defArgs s_World_need_cell) (defBody s_World_need_cell) (defScope s_World_need_cell) .none kV_World_need_cell dc_World_need_cell pm_World_need_cell an_World_need_cell cd_World_need_cell ct_World_need_cell), sl_World_need_cell⟩)
    (c_World_need_cell : PySem.W.codeIn K cd_World_need_cell "World.need_cell" = true)
    (k_World_need_cell : PySem.W.keepIn K (.ref a_World_need_cell) = true)
    (g_World_names : PySem.W.findIn K (.ref C_World) "names" = some (some (.ref a_World_names)))
    (i_World_names : PySem.W.isFn K (.ref a_World_names) = true)
    (l_World_names : K.lookup a_World_names = some ⟨oc_World_names, od_World_names, .func (PySem.W.fnOf "names" "World.names" (defArgs s_World_names) (defBody s_World_names) (defScope s_World_names) .none kV_World_names dc_World_names pm_World_names an_World_names cd_World_names ct_World_names), sl_World_names⟩)
    (c_World_names : PySem.W.codeIn K cd_World_names "World.names" = true)
    (k_World_names : PySem.W.keepIn K (.ref a_World_names) = true)
    (g_World_at : PySem.W.findIn K (.ref C_World) "at" = some (some (.ref a_World_at)))
    (i_World_at : PySem.W.isFn K (.ref a_World_at) = true)
    (l_World_at : K.lookup a_World_at = some ⟨oc_World_at, od_World_at, .func (PySem.W.fnOf "at" "World.at" (defArgs s_World_at) (defBody s_World_at) (defScope s_World_at) .none kV_World_at dc_World_at pm_World_at an_World_at cd_World_at ct_World_at), sl_World_at⟩)
    (c_World_at : PySem.W.codeIn K cd_World_at "World.at" = true)
    (k_World_at : PySem.W.keepIn K (.ref a_World_at) = true)
    (g_World_columns : PySem.W.findIn K (.ref C_World) "columns" = some (some (.ref a_World_columns)))
    (i_World_columns : PySem.W.isFn K (.ref a_World_columns) = true)
    (l_World_columns : K.lookup a_World_columns = some ⟨oc_World_columns, od_World_columns, .func (PySem.W.fnOf "columns" "World.columns" (defArgs s_World_columns) (defBody s_World_columns) (defScope s_World_columns) .none kV_World_columns dc_World_columns pm_World_columns an_World_columns cd_World_columns ct_World_columns), sl_World_columns⟩)
    (c_World_columns : PySem.W.codeIn K cd_World_columns "World.columns" = true)
    (k_World_columns : PySem.W.keepIn K (.ref a_World_columns) = true)
    (g_World_many : PySem.W.findIn K (.ref C_World) "many" = some (some (.ref a_World_many)))
    (i_World_many : PySem.W.isFn K (.ref a_World_many) = true)
    (l_World_many : K.lookup a_World_many = some ⟨oc_World_many, od_World_many, .func (PySem.W.fnOf "many" "World.many" (defArgs s_World_many) (defBody s_World_many) (defScope s_World_many) .none kV_World_many dc_World_many pm_World_many an_World_many cd_World_many ct_World_many), sl_World_many⟩)
    (c_World_many : PySem.W.codeIn K cd_World_many "World.many" = true)
    (k_World_many : PySem.W.keepIn K (.ref a_World_many) = true)
    (g_World_looked : PySem.W.findIn K (.ref C_World) "looked" = some (some (.ref a_World_looked)))
    (i_World_looked : PySem.W.isFn K (.ref a_World_looked) = true)
    (l_World_looked : K.lookup a_World_looked = some ⟨oc_World_looked, od_World_looked, .func (PySem.W.fnOf "looked" "World.looked" (defArgs s_World_looked) (defBody s_World_looked) (defScope s_World_looked) .none kV_World_looked dc_World_looked pm_World_looked an_World_looked cd_World_looked ct_World_looked), sl_World_looked⟩)
    (c_World_looked : PySem.W.codeIn K cd_World_looked "World.looked" = true)
    (k_World_looked : PySem.W.keepIn K (.ref a_World_looked) = true)
    (g_World_worth : PySem.W.findIn K (.ref C_World) "worth" = some (some (.ref a_World_worth)))
    (i_World_worth : PySem.W.isFn K (.ref a_World_worth) = true)
    (l_World_worth : K.lookup a_World_worth = some ⟨oc_World_worth, od_World_worth, .func (PySem.W.fnOf "worth" "World.worth" (defArgs s_World_worth) (defBody s_World_worth) (defScope s_World_worth) .none kV_World_worth dc_World_worth pm_World_worth an_World_worth cd_World_worth ct_World_worth), sl_World_worth⟩)
    (c_World_worth : PySem.W.codeIn K cd_World_worth "World.worth" = true)
    (k_World_worth : PySem.W.keepIn K (.ref a_World_worth) = true)
    (g_World_cell : PySem.W.findIn K (.ref C_World) "cell" = some (some (.ref a_World_cell)))
    (i_World_cell : PySem.W.isFn K (.ref a_World_cell) = true)
    (l_World_cell : K.lookup a_World_cell = some ⟨oc_World_cell, od_World_cell, .func (PySem.W.fnOf "cell" "World.cell" (defArgs s_World_cell) (defBody s_World_cell) (defScope s_World_cell) .none kV_World_cell dc_World_cell pm_World_cell an_World_cell cd_World_cell ct_World_cell), sl_World_cell⟩)
    (c_World_cell : PySem.W.codeIn K cd_World_cell "World.cell" = true)
    (k_World_cell : PySem.W.keepIn K (.ref a_World_cell) = true)
    (g_World_row : PySem.W.findIn K (.ref C_World) "row" = some (some (.ref a_World_row)))
    (i_World_row : PySem.W.isFn K (.ref a_World_row) = true)
    (l_World_row : K.lookup a_World_row = some ⟨oc_World_row, od_World_row, .func (PySem.W.fnOf "row" "World.row" (defArgs s_World_row) (defBody s_World_row) (defScope s_World_row) .none kV_World_row dc_World_row pm_World_row an_World_row cd_World_row ct_World_row), sl_World_row⟩)
    (c_World_row : PySem.W.codeIn K cd_World_row "World.row" = true)
    (k_World_row : PySem.W.keepIn K (.ref a_World_row) = true)
    (g_World_rows : PySem.W.findIn K (.ref C_World) "rows" = some (some (.ref a_World_rows)))
    (i_World_rows : PySem.W.isFn K (.ref a_World_rows) = true)
    (l_World_rows : K.lookup a_World_rows = some ⟨oc_World_rows, od_World_rows, .func (PySem.W.fnOf "rows" "World.rows" (defArgs s_World_rows) (defBody s_World_rows) (defScope s_World_rows) .none kV_World_rows dc_World_rows pm_World_rows an_World_rows cd_World_rows ct_World_rows), sl_World_rows⟩)
    (c_World_rows : PySem.W.codeIn K cd_World_rows "World.rows" = true)
    (k_World_rows : PySem.W.keepIn K (.ref a_World_rows) = true)
    (g_World_tables : PySem.W.findIn K (.ref C_World) "tables" = some (some (.ref a_World_tables)))
    (i_World_tables : PySem.W.isFn K (.ref a_World_tables) = true)
    (l_World_tables : K.lookup a_World_tables = some ⟨oc_World_tables, od_World_tables, .func (PySem.W.fnOf "tables" "World.tables" (defArgs s_World_tables) (defBody s_World_tables) (defScope s_World_tables) .none kV_World_tables dc_World_tables pm_World_tables an_World_tables cd_World_tables ct_World_tables), sl_World_tables⟩)
    (c_World_tables : PySem.W.codeIn K cd_World_tables "World.tables" = true)
    (k_World_tables : PySem.W.keepIn K (.ref a_World_tables) = true)
    (g_is_number : PySem.W.nsIn K mainGlobals "is_number" = some (some (.ref a_is_number)))
    (l_is_number : K.lookup a_is_number = some ⟨oc_is_number, od_is_number, .func (PySem.W.fnOf "is_number" "is_number" (defArgs s_is_number) (defBody s_is_number) (defScope s_is_number) .none kV_is_number dc_is_number pm_is_number an_is_number cd_is_number ct_is_number), sl_is_number⟩)
    (c_is_number : PySem.W.codeIn K cd_is_number "is_number" = true)
    (k_is_number : PySem.W.keepIn K (.ref a_is_number) = true)
    (g_is_good_word : PySem.W.nsIn K mainGlobals "is_good_word" = some (some (.ref a_is_good_word)))
    (l_is_good_word : K.lookup a_is_good_word = some ⟨oc_is_good_word, od_is_good_word, .func (PySem.W.fnOf "is_good_word" "is_good_word" (defArgs s_is_good_word) (defBody s_is_good_word) (defScope s_is_good_word) .none kV_is_good_word dc_is_good_word pm_is_good_word an_is_good_word cd_is_good_word ct_is_good_word), sl_is_good_word⟩)
    (c_is_good_word : PySem.W.codeIn K cd_is_good_word "is_good_word" = true)
    (k_is_good_word : PySem.W.keepIn K (.ref a_is_good_word) = true)
    (g_linked : PySem.W.nsIn K mainGlobals "linked" = some (some (.ref a_linked)))
    (l_linked : K.lookup a_linked = some ⟨oc_linked, od_linked, .func (PySem.W.fnOf "linked" "linked" (defArgs s_linked) (defBody s_linked) (defScope s_linked) .none kV_linked dc_linked pm_linked an_linked cd_linked ct_linked), sl_linked⟩)
    (c_linked : PySem.W.codeIn K cd_linked "linked" = true)
    (k_linked : PySem.W.keepIn K (.ref a_linked) = true)
    (g_same : PySem.W.nsIn K mainGlobals "same" = some (some (.ref a_same)))
    (l_same : K.lookup a_same = some ⟨oc_same, od_same, .func (PySem.W.fnOf "same" "same" (defArgs s_same) (defBody s_same) (defScope s_same) .none kV_same dc_same pm_same an_same cd_same ct_same), sl_same⟩)
    (c_same : PySem.W.codeIn K cd_same "same" = true)
    (k_same : PySem.W.keepIn K (.ref a_same) = true)
    (g_is_so : PySem.W.nsIn K mainGlobals "is_so" = some (some (.ref a_is_so)))
    (l_is_so : K.lookup a_is_so = some ⟨oc_is_so, od_is_so, .func (PySem.W.fnOf "is_so" "is_so" (defArgs s_is_so) (defBody s_is_so) (defScope s_is_so) .none kV_is_so dc_is_so pm_is_so an_is_so cd_is_so ct_is_so), sl_is_so⟩)
    (c_is_so : PySem.W.codeIn K cd_is_so "is_so" = true)
    (k_is_so : PySem.W.keepIn K (.ref a_is_so) = true)
    (g_is_met : PySem.W.nsIn K mainGlobals "is_met" = some (some (.ref a_is_met)))
    (l_is_met : K.lookup a_is_met = some ⟨oc_is_met, od_is_met, .func (PySem.W.fnOf "is_met" "is_met" (defArgs s_is_met) (defBody s_is_met) (defScope s_is_met) .none kV_is_met dc_is_met pm_is_met an_is_met cd_is_met ct_is_met), sl_is_met⟩)
    (c_is_met : PySem.W.codeIn K cd_is_met "is_met" = true)
    (k_is_met : PySem.W.keepIn K (.ref a_is_met) = true)
    (g_faults : PySem.W.nsIn K mainGlobals "faults" = some (some (.ref a_faults)))
    (l_faults : K.lookup a_faults = some ⟨oc_faults, od_faults, .func (PySem.W.fnOf "faults" "faults" (defArgs s_faults) (defBody s_faults) (defScope s_faults) .none kV_faults dc_faults pm_faults an_faults cd_faults ct_faults), sl_faults⟩)
    (c_faults : PySem.W.codeIn K cd_faults "faults" = true)
    (k_faults : PySem.W.keepIn K (.ref a_faults) = true)
    (g_law_cell : PySem.W.nsIn K mainGlobals "_law_cell" = some (some (.ref a_law_cell)))
    (l_law_cell : K.lookup a_law_cell = some ⟨oc_law_cell, od_law_cell, .func (PySem.W.fnOf "_law_cell" "_law_cell" (defArgs s_law_cell) (defBody s_law_cell) (defScope s_law_cell) .none kV_law_cell dc_law_cell pm_law_cell an_law_cell cd_law_cell ct_law_cell), sl_law_cell⟩)
    (c_law_cell : PySem.W.codeIn K cd_law_cell "_law_cell" = true)
    (k_law_cell : PySem.W.keepIn K (.ref a_law_cell) = true)
    (g_law_drawn : PySem.W.nsIn K mainGlobals "_law_drawn" = some (some (.ref a_law_drawn)))
    (l_law_drawn : K.lookup a_law_drawn = some ⟨oc_law_drawn, od_law_drawn, .func (PySem.W.fnOf "_law_drawn" "_law_drawn" (defArgs s_law_drawn) (defBody s_law_drawn) (defScope s_law_drawn) .none kV_law_drawn dc_law_drawn pm_law_drawn an_law_drawn cd_law_drawn ct_law_drawn), sl_law_drawn⟩)
    (c_law_drawn : PySem.W.codeIn K cd_law_drawn "_law_drawn" = true)
    (k_law_drawn : PySem.W.keepIn K (.ref a_law_drawn) = true)
    (g_law_rule : PySem.W.nsIn K mainGlobals "_law_rule" = some (some (.ref a_law_rule)))
    (l_law_rule : K.lookup a_law_rule = some ⟨oc_law_rule, od_law_rule, .func (PySem.W.fnOf "_law_rule" "_law_rule" (defArgs s_law_rule) (defBody s_law_rule) (defScope s_law_rule) .none kV_law_rule dc_law_rule pm_law_rule an_law_rule cd_law_rule ct_law_rule), sl_law_rule⟩)
    (c_law_rule : PySem.W.codeIn K cd_law_rule "_law_rule" = true)
    (k_law_rule : PySem.W.keepIn K (.ref a_law_rule) = true)
    (g_law_plan : PySem.W.nsIn K mainGlobals "_law_plan" = some (some (.ref a_law_plan)))
    (l_law_plan : K.lookup a_law_plan = some ⟨oc_law_plan, od_law_plan, .func (PySem.W.fnOf "_law_plan" "_law_plan" (defArgs s_law_plan) (defBody s_law_plan) (defScope s_law_plan) .none kV_law_plan dc_law_plan pm_law_plan an_law_plan cd_law_plan ct_law_plan), sl_law_plan⟩)
    (c_law_plan : PySem.W.codeIn K cd_law_plan "_law_plan" = true)
    (k_law_plan : PySem.W.keepIn K (.ref a_law_plan) = true)
    (g_law_same : PySem.W.nsIn K mainGlobals "_law_same" = some (some (.ref a_law_same)))
    (l_law_same : K.lookup a_law_same = some ⟨oc_law_same, od_law_same, .func (PySem.W.fnOf "_law_same" "_law_same" (defArgs s_law_same) (defBody s_law_same) (defScope s_law_same) .none kV_law_same dc_law_same pm_law_same an_law_same cd_law_same ct_law_same), sl_law_same⟩)
    (c_law_same : PySem.W.codeIn K cd_law_same "_law_same" = true)
    (k_law_same : PySem.W.keepIn K (.ref a_law_same) = true)
    (g_law_shared_cells : PySem.W.nsIn K mainGlobals "_law_shared_cells" = some (some (.ref a_law_shared_cells)))
    (l_law_shared_cells : K.lookup a_law_shared_cells = some ⟨oc_law_shared_cells, od_law_shared_cells, .func (PySem.W.fnOf "_law_shared_cells" "_law_shared_cells" (defArgs s_law_shared_cells) (defBody s_law_shared_cells) (defScope s_law_shared_cells) .none kV_law_shared_cells dc_law_shared_cells pm_law_shared_cells an_law_shared_cells cd_law_shared_cells ct_law_shared_cells), sl_law_shared_cells⟩)
    (c_law_shared_cells : PySem.W.codeIn K cd_law_shared_cells "_law_shared_cells" = true)
    (k_law_shared_cells : PySem.W.keepIn K (.ref a_law_shared_cells) = true)
    (g_law : PySem.W.nsIn K mainGlobals "law" = some (some (.ref a_law)))
    (l_law : K.lookup a_law = some ⟨oc_law, od_law, .func (PySem.W.fnOf "law" "law" (defArgs s_law) (defBody s_law) (defScope s_law) .none kV_law dc_law pm_law an_law cd_law ct_law), sl_law⟩)
    (c_law : PySem.W.codeIn K cd_law "law" = true)
    (k_law : PySem.W.keepIn K (.ref a_law) = true)
    (z_all : PySem.W.nsIn K mainGlobals "all" = some none)
    (z_any : PySem.W.nsIn K mainGlobals "any" = some none)
    (z_bool : PySem.W.nsIn K mainGlobals "bool" = some none)
    (z_dict : PySem.W.nsIn K mainGlobals "dict" = some none)
    (z_enumerate : PySem.W.nsIn K mainGlobals "enumerate" = some none)
    (z_int : PySem.W.nsIn K mainGlobals "int" = some none)
    (z_isinstance : PySem.W.nsIn K mainGlobals "isinstance" = some none)
    (z_len : PySem.W.nsIn K mainGlobals "len" = some none)
    (z_list : PySem.W.nsIn K mainGlobals "list" = some none)
    (z_max : PySem.W.nsIn K mainGlobals "max" = some none)
    (z_min : PySem.W.nsIn K mainGlobals "min" = some none)
    (z_range : PySem.W.nsIn K mainGlobals "range" = some none)
    (z_set : PySem.W.nsIn K mainGlobals "set" = some none)
    (z_str : PySem.W.nsIn K mainGlobals "str" = some none)
    (z_sum : PySem.W.nsIn K mainGlobals "sum" = some none)
    (z_tuple : PySem.W.nsIn K mainGlobals "tuple" = some none)
    (z_zip : PySem.W.nsIn K mainGlobals "zip" = some none)
    (n_FIRST : PySem.W.nsIn K mainGlobals "FIRST" = some (some (.int 2147483647 t_FIRST)))
    (n_MOST_COLUMNS : PySem.W.nsIn K mainGlobals "MOST_COLUMNS" = some (some (.int 5 t_MOST_COLUMNS)))
    (n_MOST_NAME : PySem.W.nsIn K mainGlobals "MOST_NAME" = some (some (.int 4 t_MOST_NAME)))
    (n_MOST_NUMBER : PySem.W.nsIn K mainGlobals "MOST_NUMBER" = some (some (.int 999 t_MOST_NUMBER)))
    (n_MOST_OPTIONS : PySem.W.nsIn K mainGlobals "MOST_OPTIONS" = some (some (.int 4 t_MOST_OPTIONS)))
    (n_MOST_PLACE : PySem.W.nsIn K mainGlobals "MOST_PLACE" = some (some (.int 99 t_MOST_PLACE)))
    (n_MOST_ROWS : PySem.W.nsIn K mainGlobals "MOST_ROWS" = some (some (.int 20 t_MOST_ROWS)))
    (n_MOST_SEED : PySem.W.nsIn K mainGlobals "MOST_SEED" = some (some (.int 999999 t_MOST_SEED)))
    (n_MOST_SHARE : PySem.W.nsIn K mainGlobals "MOST_SHARE" = some (some (.int 9 t_MOST_SHARE)))
    (n_MOST_TABLES : PySem.W.nsIn K mainGlobals "MOST_TABLES" = some (some (.int 4 t_MOST_TABLES)))
    (n_MOST_WORD : PySem.W.nsIn K mainGlobals "MOST_WORD" = some (some (.int 6 t_MOST_WORD)))
    (n_SECOND : PySem.W.nsIn K mainGlobals "SECOND" = some (some (.int 2147483629 t_SECOND)))
    (n_SMALL : PySem.W.nsIn K mainGlobals "SMALL" = some (some (.str "abcdefghijklmnopqrstuvwxyz" t_SMALL)))
    (gt_NUMBERS : PySem.W.nsIn K mainGlobals "NUMBERS" = some (some (.ref A_NUMBERS)))
    (lt_NUMBERS : K.lookup A_NUMBERS = some ⟨.type "tuple", O_NUMBERS, .seq I_NUMBERS N_NUMBERS, S_NUMBERS⟩)
    (qt_NUMBERS : StrsW I_NUMBERS.toList ["num", "serial", "sum", "unlike"])
    (zt_NUMBERS : I_NUMBERS.size ≤ 1000)
    (gd_LENGTHS : PySem.W.nsIn K mainGlobals "LENGTHS" = some (some (.ref A_LENGTHS)))
    (ld_LENGTHS : K.lookup A_LENGTHS = some ⟨.type "dict", none, .dict E_LENGTHS N_LENGTHS, #[]⟩)
    (qd_LENGTHS : KLit w.params E_LENGTHS.toList [("num", 3), ("pick", 2), ("word", 3), ("flag", 2), ("link", 2), ("serial", 3), ("sum", 3), ("copy", 3), ("unlike", 3)])
    (sd_LENGTHS : (A_LENGTHS == sysModules) = false)
    (pg_World : PySem.W.plainGet K C_World Str.empty = true)
    (hd_World : PySem.W.hasDictIn K C_World = true)
    (po_World : PySem.W.plainOver K C_World = true)
    (sa_World : PySem.W.findIn K (.ref C_World) "__setattr__" = some (some (.builtin "object.__setattr__")))
    (mk_World : PySem.W.makesIn K C_World = true)
    (kc_World : PySem.W.keepIn K (.ref C_World) = true)
    (nf_World_plan : PySem.W.findIn K (.ref C_World) "plan" = some none)
    (nf_World_seed : PySem.W.findIn K (.ref C_World) "seed" = some none)
    (nf_World_places : PySem.W.findIn K (.ref C_World) "places" = some none)
    (x_BadDraw : PySem.W.excIn K C_BadDraw [.type "ValueError", .type "Exception", .type "BaseException", .type "object"] "ValueError.__new__" = true)
    (kp_BadDraw : PySem.W.keepIn K (.ref C_BadDraw) = true)
    (sb_BadDraw : PySem.W.subIn K (.ref C_BadDraw) (.type "BaseException") = some true)
    (ty_BadDraw : PySem.W.typeIn K (.ref C_BadDraw) = some (.type "type"))
    (x_BadPlan : PySem.W.excIn K C_BadPlan [.type "ValueError", .type "Exception", .type "BaseException", .type "object"] "ValueError.__new__" = true)
    (kp_BadPlan : PySem.W.keepIn K (.ref C_BadPlan) = true)
    (sb_BadPlan : PySem.W.subIn K (.ref C_BadPlan) (.type "BaseException") = some true)
    (ty_BadPlan : PySem.W.typeIn K (.ref C_BadPlan) = some (.type "type"))
    (x_NoCell : PySem.W.excIn K C_NoCell [.type "ValueError", .type "Exception", .type "BaseException", .type "object"] "ValueError.__new__" = true)
    (kp_NoCell : PySem.W.keepIn K (.ref C_NoCell) = true)
    (sb_NoCell : PySem.W.subIn K (.ref C_NoCell) (.type "BaseException") = some true)
    (ty_NoCell : PySem.W.typeIn K (.ref C_NoCell) = some (.type "type")) :
    ∃ (fd : FuncData) (cls : Str → Addr) (ls : LT), ls.map Prod.fst = lamNames ∧ (∀ t ∈ ls, LamDef K mg t.1 t.2.1 t.2.2) ∧ (∀ (s : Shared) (u : Value), BindsTo s fd ⟨[u], []⟩ [("script", u)]) ∧
      ∀ base : Heap, K.In base → base.Ns mainGlobals mg → (∀ t ∈ ls, LamX.TabB base mg t.2.1 t.2.2) → FnOk l.prog w K mg base (L2N.CX l.prog w) 50 fa fd ["script"] (spV K ⟨cls, tabsOf ls⟩ m_law) := by
  have e := hfa.symm.trans (PySem.W.mg_of X G g_law)
  cases e
  refine ⟨PySem.W.fnOf "law" "law" (defArgs s_law) (defBody s_law) (defScope s_law) .none kV_law dc_law pm_law an_law cd_law ct_law, clsOf [("BadDraw", C_BadDraw), ("BadPlan", C_BadPlan), ("NoCell", C_NoCell), ("World", C_World)], [], rfl, ?_, fun s v => .of_eq rfl, fun base hK hN hTB => ?_⟩
  · intro t ht; cases ht
  generalize hg : (⟨clsOf [("BadDraw", C_BadDraw), ("BadPlan", C_BadPlan), ("NoCell", C_NoCell), ("World", C_World)], tabsOf []⟩ : Glob) = g
  have gc_BadDraw : g.cls "BadDraw" = C_BadDraw := by rw [← hg]; rfl
  have gc_BadPlan : g.cls "BadPlan" = C_BadPlan := by rw [← hg]; rfl
  have gc_NoCell : g.cls "NoCell" = C_NoCell := by rw [← hg]; rfl
  have gc_World : g.cls "World" = C_World := by rw [← hg]; rfl
  have T : Tx w K mg g := {
    b_all := PySem.W.mg_none_of X G z_all
    b_any := PySem.W.mg_none_of X G z_any
    b_bool := PySem.W.mg_none_of X G z_bool
    b_dict := PySem.W.mg_none_of X G z_dict
    b_enumerate := PySem.W.mg_none_of X G z_enumerate
    b_int := PySem.W.mg_none_of X G z_int
    b_isinstance := PySem.W.mg_none_of X G z_isinstance
    b_len := PySem.W.mg_none_of X G z_len
    b_list := PySem.W.mg_none_of X G z_list
    b_max := PySem.W.mg_none_of X G z_max
    b_min := PySem.W.mg_none_of X G z_min
    b_range := PySem.W.mg_none_of X G z_range
    b_set := PySem.W.mg_none_of X G z_set
    b_str := PySem.W.mg_none_of X G z_str
    b_sum := PySem.W.mg_none_of X G z_sum
    b_tuple := PySem.W.mg_none_of X G z_tuple
    b_zip := PySem.W.mg_none_of X G z_zip
    c_FIRST := ⟨_, PySem.W.mg_of X G n_FIRST, ⟨_, rfl⟩⟩
    c_MOST_COLUMNS := ⟨_, PySem.W.mg_of X G n_MOST_COLUMNS, ⟨_, rfl⟩⟩
    c_MOST_NAME := ⟨_, PySem.W.mg_of X G n_MOST_NAME, ⟨_, rfl⟩⟩
    c_MOST_NUMBER := ⟨_, PySem.W.mg_of X G n_MOST_NUMBER, ⟨_, rfl⟩⟩
    c_MOST_OPTIONS := ⟨_, PySem.W.mg_of X G n_MOST_OPTIONS, ⟨_, rfl⟩⟩
    c_MOST_PLACE := ⟨_, PySem.W.mg_of X G n_MOST_PLACE, ⟨_, rfl⟩⟩
    c_MOST_ROWS := ⟨_, PySem.W.mg_of X G n_MOST_ROWS, ⟨_, rfl⟩⟩
    c_MOST_SEED := ⟨_, PySem.W.mg_of X G n_MOST_SEED, ⟨_, rfl⟩⟩
    c_MOST_SHARE := ⟨_, PySem.W.mg_of X G n_MOST_SHARE, ⟨_, rfl⟩⟩
    c_MOST_TABLES := ⟨_, PySem.W.mg_of X G n_MOST_TABLES, ⟨_, rfl⟩⟩
    c_MOST_WORD := ⟨_, PySem.W.mg_of X G n_MOST_WORD, ⟨_, rfl⟩⟩
    c_SECOND := ⟨_, PySem.W.mg_of X G n_SECOND, ⟨_, rfl⟩⟩
    c_SMALL := ⟨_, PySem.W.mg_of X G n_SMALL, ⟨_, rfl⟩⟩
    x_BadDraw := ⟨by rw [gc_BadDraw]; exact PySem.W.mg_of X G g_BadDraw, by rw [gc_BadDraw]; exact x_BadDraw, by rw [gc_BadDraw]; exact kp_BadDraw, by rw [gc_BadDraw]; exact sb_BadDraw, by rw [gc_BadDraw]; exact ty_BadDraw⟩
    x_BadPlan := ⟨by rw [gc_BadPlan]; exact PySem.W.mg_of X G g_BadPlan, by rw [gc_BadPlan]; exact x_BadPlan, by rw [gc_BadPlan]; exact kp_BadPlan, by rw [gc_BadPlan]; exact sb_BadPlan, by rw [gc_BadPlan]; exact ty_BadPlan⟩
    x_NoCell := ⟨by rw [gc_NoCell]; exact PySem.W.mg_of X G g_NoCell, by rw [gc_NoCell]; exact x_NoCell, by rw [gc_NoCell]; exact kp_NoCell, by rw [gc_NoCell]; exact sb_NoCell, by rw [gc_NoCell]; exact ty_NoCell⟩
    t_NUMBERS := ⟨⟨_, _, _, _, _, PySem.W.mg_of X G gt_NUMBERS, lt_NUMBERS, qt_NUMBERS, zt_NUMBERS⟩⟩
    d_LENGTHS := ⟨⟨_, _, _, PySem.W.mg_of X G gd_LENGTHS, ld_LENGTHS, qd_LENGTHS, sd_LENGTHS⟩⟩
    cl_World := by rw [gc_World]; exact ⟨pg_World, hd_World, po_World, sa_World⟩
    na_World_plan := by rw [gc_World]; exact nf_World_plan
    na_World_seed := by rw [gc_World]; exact nf_World_seed
    na_World_places := by rw [gc_World]; exact nf_World_places
  }
  have F_is_count := fun_mk (st := s_is_count) l_is_count c_is_count k_is_count
  have f_is_count : VFn l.prog w K mg base g 1 "is_count" m_is_count := w_is_count F_is_count (PySem.W.mg_of X G g_is_count) T
  have F_need_draws := fun_mk (st := s_need_draws) l_need_draws c_need_draws k_need_draws
  have f_need_draws : VFn l.prog w K mg base g 1 "need_draws" m_need_draws := w_need_draws F_need_draws (PySem.W.mg_of X G g_need_draws) T
  have F_draw := fun_mk (st := s_draw) l_draw c_draw k_draw
  have f_draw : VFn l.prog w K mg base g 1 "draw" m_draw := w_draw F_draw (PySem.W.mg_of X G g_draw) T
  have F_drawn := fun_mk (st := s_drawn) l_drawn c_drawn k_drawn
  have f_drawn : VFn l.prog w K mg base g 2 "drawn" m_drawn := w_drawn F_drawn (PySem.W.mg_of X G g_drawn) T f_is_count f_need_draws f_draw
  have F_word_of := fun_mk (st := s_word_of) l_word_of c_word_of k_word_of
  have f_word_of : VFn l.prog w K mg base g 1 "word_of" m_word_of := w_word_of F_word_of (PySem.W.mg_of X G g_word_of) T
  have F_shared_of := fun_mk (st := s_shared_of) l_shared_of c_shared_of k_shared_of
  have f_shared_of : VFn l.prog w K mg base g 1 "shared_of" m_shared_of := w_shared_of F_shared_of (PySem.W.mg_of X G g_shared_of) T
  have F_divides_both := fun_mk (st := s_divides_both) l_divides_both c_divides_both k_divides_both
  have f_divides_both : VFn l.prog w K mg base g 1 "divides_both" m_divides_both := w_divides_both F_divides_both (PySem.W.mg_of X G g_divides_both) T
  have F_spread_of := fun_mk (st := s_spread_of) l_spread_of c_spread_of k_spread_of
  have f_spread_of : VFn l.prog w K mg base g 2 "spread_of" m_spread_of := w_spread_of F_spread_of (PySem.W.mg_of X G g_spread_of) T f_divides_both
  have F_need_plans := fun_mk (st := s_need_plans) l_need_plans c_need_plans k_need_plans
  have f_need_plans : VFn l.prog w K mg base g 1 "need_plans" m_need_plans := w_need_plans F_need_plans (PySem.W.mg_of X G g_need_plans) T
  have F_is_word := fun_mk (st := s_is_word) l_is_word c_is_word k_is_word
  have f_is_word : VFn l.prog w K mg base g 1 "is_word" m_is_word := w_is_word F_is_word (PySem.W.mg_of X G g_is_word) T
  have F_is_option := fun_mk (st := s_is_option) l_is_option c_is_option k_is_option
  have f_is_option : VFn l.prog w K mg base g 2 "is_option" m_is_option := w_is_option F_is_option (PySem.W.mg_of X G g_is_option) T f_is_word f_is_count
  have F_are_options := fun_mk (st := s_are_options) l_are_options c_are_options k_are_options
  have f_are_options : VFn l.prog w K mg base g 3 "are_options" m_are_options := w_are_options F_are_options (PySem.W.mg_of X G g_are_options) T f_is_option
  have F_is_range := fun_mk (st := s_is_range) l_is_range c_is_range k_is_range
  have f_is_range : VFn l.prog w K mg base g 2 "is_range" m_is_range := w_is_range F_is_range (PySem.W.mg_of X G g_is_range) T f_is_count
  have F_rule_kind := fun_mk (st := s_rule_kind) l_rule_kind c_rule_kind k_rule_kind
  have f_rule_kind : VFn l.prog w K mg base g 1 "rule_kind" m_rule_kind := w_rule_kind F_rule_kind (PySem.W.mg_of X G g_rule_kind) T
  have F_is_plain_rule := fun_mk (st := s_is_plain_rule) l_is_plain_rule c_is_plain_rule k_is_plain_rule
  have f_is_plain_rule : VFn l.prog w K mg base g 4 "is_plain_rule" m_is_plain_rule := w_is_plain_rule F_is_plain_rule (PySem.W.mg_of X G g_is_plain_rule) T f_is_range f_are_options f_is_count
  have F_is_rule := fun_mk (st := s_is_rule) l_is_rule c_is_rule k_is_rule
  have f_is_rule : VFn l.prog w K mg base g 5 "is_rule" m_is_rule := w_is_rule F_is_rule (PySem.W.mg_of X G g_is_rule) T f_is_plain_rule f_rule_kind
  have F_look_columns := fun_mk (st := s_look_columns) l_look_columns c_look_columns k_look_columns
  have f_look_columns : VFn l.prog w K mg base g 6 "look_columns" m_look_columns := w_look_columns F_look_columns (PySem.W.mg_of X G g_look_columns) T f_need_plans f_is_word f_rule_kind f_is_rule
  have F_need_plan := fun_mk (st := s_need_plan) l_need_plan c_need_plan k_need_plan
  have f_need_plan : VFn l.prog w K mg base g 7 "need_plan" m_need_plan := w_need_plan F_need_plan (PySem.W.mg_of X G g_need_plan) T f_need_plans f_is_word f_is_count f_look_columns
  have F_World___init := fun_mk (st := s_World___init) l_World___init c_World___init k_World___init
  have f_World___init : VMk l.prog w K mg base g 8 "World" m_World___init := w_World___init F_World___init (by rw [gc_World]; exact ⟨mk_World, g_World___init, i_World___init, kc_World⟩) (by rw [gc_World]; exact PySem.W.mg_of X G g_World) T f_need_plan f_drawn
  have F_World_need_cell := fun_mk (st := s_World_need_cell) l_World_need_cell c_World_need_cell k_World_need_cell
  have M_World_need_cell : L2.Meth K (g.cls "World") "need_cell" a_World_need_cell := by rw [gc_World]; exact ⟨g_World_need_cell, i_World_need_cell, k_World_need_cell⟩
  have f_World_need_cell : VMth l.prog w K mg base g 1 "World" "need_cell" m_World_need_cell := w_World_need_cell F_World_need_cell M_World_need_cell T
  have F_World_names := fun_mk (st := s_World_names) l_World_names c_World_names k_World_names
  have M_World_names : L2.Meth K (g.cls "World") "names" a_World_names := by rw [gc_World]; exact ⟨g_World_names, i_World_names, k_World_names⟩
  have f_World_names : VMth l.prog w K mg base g 1 "World" "names" m_World_names := w_World_names F_World_names M_World_names T
  have F_World_at := fun_mk (st := s_World_at) l_World_at c_World_at k_World_at
  have M_World_at : L2.Meth K (g.cls "World") "at" a_World_at := by rw [gc_World]; exact ⟨g_World_at, i_World_at, k_World_at⟩
  have f_World_at : VMth l.prog w K mg base g 2 "World" "at" m_World_at := w_World_at F_World_at M_World_at T f_World_need_cell
  have F_World_columns := fun_mk (st := s_World_columns) l_World_columns c_World_columns k_World_columns
  have M_World_columns : L2.Meth K (g.cls "World") "columns" a_World_columns := by rw [gc_World]; exact ⟨g_World_columns, i_World_columns, k_World_columns⟩
  have f_World_columns : VMth l.prog w K mg base g 3 "World" "columns" m_World_columns := w_World_columns F_World_columns M_World_columns T f_World_at
  have F_World_many := fun_mk (st := s_World_many) l_World_many c_World_many k_World_many
  have M_World_many : L2.Meth K (g.cls "World") "many" a_World_many := by rw [gc_World]; exact ⟨g_World_many, i_World_many, k_World_many⟩
  have f_World_many : VMth l.prog w K mg base g 3 "World" "many" m_World_many := w_World_many F_World_many M_World_many T f_World_at
  have F_World_looked := fun_mk (st := s_World_looked) l_World_looked c_World_looked k_World_looked
  have M_World_looked : L2.Meth K (g.cls "World") "looked" a_World_looked := by rw [gc_World]; exact ⟨g_World_looked, i_World_looked, k_World_looked⟩
  have F_World_worth := fun_mk (st := s_World_worth) l_World_worth c_World_worth k_World_worth
  have M_World_worth : L2.Meth K (g.cls "World") "worth" a_World_worth := by rw [gc_World]; exact ⟨g_World_worth, i_World_worth, k_World_worth⟩
  have f_World_worth : VMth l.prog w K mg base g 45 "World" "worth" (m_World_worth 21) := w_World_worth F_World_worth M_World_worth T F_World_looked M_World_looked f_draw f_shared_of f_word_of f_spread_of
  have F_World_cell := fun_mk (st := s_World_cell) l_World_cell c_World_cell k_World_cell
  have M_World_cell : L2.Meth K (g.cls "World") "cell" a_World_cell := by rw [gc_World]; exact ⟨g_World_cell, i_World_cell, k_World_cell⟩
  have f_World_cell : VMth l.prog w K mg base g 46 "World" "cell" m_World_cell := w_World_cell F_World_cell M_World_cell T f_World_at f_World_many f_is_count f_World_need_cell f_World_columns f_World_worth
  have F_World_row := fun_mk (st := s_World_row) l_World_row c_World_row k_World_row
  have M_World_row : L2.Meth K (g.cls "World") "row" a_World_row := by rw [gc_World]; exact ⟨g_World_row, i_World_row, k_World_row⟩
  have f_World_row : VMth l.prog w K mg base g 47 "World" "row" m_World_row := w_World_row F_World_row M_World_row T f_World_many f_is_count f_World_need_cell f_World_columns f_World_cell
  have F_World_rows := fun_mk (st := s_World_rows) l_World_rows c_World_rows k_World_rows
  have M_World_rows : L2.Meth K (g.cls "World") "rows" a_World_rows := by rw [gc_World]; exact ⟨g_World_rows, i_World_rows, k_World_rows⟩
  have f_World_rows : VMth l.prog w K mg base g 48 "World" "rows" m_World_rows := w_World_rows F_World_rows M_World_rows T f_World_many f_World_row
  have F_World_tables := fun_mk (st := s_World_tables) l_World_tables c_World_tables k_World_tables
  have M_World_tables : L2.Meth K (g.cls "World") "tables" a_World_tables := by rw [gc_World]; exact ⟨g_World_tables, i_World_tables, k_World_tables⟩
  have f_World_tables : VMth l.prog w K mg base g 49 "World" "tables" m_World_tables := w_World_tables F_World_tables M_World_tables T f_World_names f_World_rows
  have F_is_number := fun_mk (st := s_is_number) l_is_number c_is_number k_is_number
  have f_is_number : VFn l.prog w K mg base g 1 "is_number" m_is_number := w_is_number F_is_number (PySem.W.mg_of X G g_is_number) T
  have F_is_good_word := fun_mk (st := s_is_good_word) l_is_good_word c_is_good_word k_is_good_word
  have f_is_good_word : VFn l.prog w K mg base g 1 "is_good_word" m_is_good_word := w_is_good_word F_is_good_word (PySem.W.mg_of X G g_is_good_word) T
  have F_linked := fun_mk (st := s_linked) l_linked c_linked k_linked
  have f_linked : VFn l.prog w K mg base g 2 "linked" m_linked := w_linked F_linked (PySem.W.mg_of X G g_linked) T f_is_count
  have F_same := fun_mk (st := s_same) l_same c_same k_same
  have f_same : VFn l.prog w K mg base g 1 "same" m_same := w_same F_same (PySem.W.mg_of X G g_same) T
  have F_is_so := fun_mk (st := s_is_so) l_is_so c_is_so k_is_so
  have f_is_so : VFn l.prog w K mg base g 3 "is_so" m_is_so := w_is_so F_is_so (PySem.W.mg_of X G g_is_so) T f_is_number f_is_good_word f_is_count f_linked f_same
  have F_is_met := fun_mk (st := s_is_met) l_is_met c_is_met k_is_met
  have f_is_met : VFn l.prog w K mg base g 2 "is_met" m_is_met := w_is_met F_is_met (PySem.W.mg_of X G g_is_met) T f_same
  have F_faults := fun_mk (st := s_faults) l_faults c_faults k_faults
  have f_faults : VFn l.prog w K mg base g 8 "faults" m_faults := w_faults F_faults (PySem.W.mg_of X G g_faults) T f_need_plan f_is_so f_is_met
  have F_law_cell := fun_mk (st := s_law_cell) l_law_cell c_law_cell k_law_cell
  have f_law_cell : VFn l.prog w K mg base g 1 "_law_cell" m_law_cell := w_law_cell F_law_cell (PySem.W.mg_of X G g_law_cell) T
  have F_law_drawn := fun_mk (st := s_law_drawn) l_law_drawn c_law_drawn k_law_drawn
  have f_law_drawn : VFn l.prog w K mg base g 1 "_law_drawn" m_law_drawn := w_law_drawn F_law_drawn (PySem.W.mg_of X G g_law_drawn) T
  have F_law_rule := fun_mk (st := s_law_rule) l_law_rule c_law_rule k_law_rule
  have f_law_rule : VFn l.prog w K mg base g 2 "_law_rule" m_law_rule := w_law_rule F_law_rule (PySem.W.mg_of X G g_law_rule) T f_law_drawn
  have F_law_plan := fun_mk (st := s_law_plan) l_law_plan c_law_plan k_law_plan
  have f_law_plan : VFn l.prog w K mg base g 3 "_law_plan" m_law_plan := w_law_plan F_law_plan (PySem.W.mg_of X G g_law_plan) T f_law_drawn f_law_rule
  have F_law_same := fun_mk (st := s_law_same) l_law_same c_law_same k_law_same
  have f_law_same : VFn l.prog w K mg base g 1 "_law_same" m_law_same := w_law_same F_law_same (PySem.W.mg_of X G g_law_same) T
  have F_law_shared_cells := fun_mk (st := s_law_shared_cells) l_law_shared_cells c_law_shared_cells k_law_shared_cells
  have f_law_shared_cells : VFn l.prog w K mg base g 2 "_law_shared_cells" m_law_shared_cells := w_law_shared_cells F_law_shared_cells (PySem.W.mg_of X G g_law_shared_cells) T f_law_same
  exact v_law (fun_mk (st := s_law) l_law c_law k_law) (PySem.W.mg_of X G g_law) T f_law_cell f_law_drawn f_law_plan f_World___init f_World_tables f_law_shared_cells f_faults f_World_rows f_World_row f_World_columns f_World_names f_World_cell f_law_same f_World_many
end RM

open PySem PySem.W PyProof.Rows in
theorem PySem.Challenge.cw_rulemade_k32_whole_worlds_apart_holds : PySem.Challenge.rw_rulemade_k32_whole_worlds_apart.Holds := by
  w_on; o_law; k_head; (case hw => w_witness2)
  k_fill
  refine VL.walk_Ls (l := PySem.Challenge.rw_rulemade_k32_whole_worlds_apart) (names := RM.lamNames) rfl rfl (by decide : 50 ≤ 200) (by rfl) (fun w h Y => PySem.W.kIn_of Y) ?F RM.law_true
  case F =>
    intro w mg fa h KX G hmg
    refine' RM.all_mk KX G hmg ?g_BadDraw ?g_BadPlan ?g_NoCell ?g_World ?g_is_count ?l_is_count ?c_is_count ?k_is_count ?g_need_draws ?l_need_draws ?c_need_draws ?k_need_draws ?g_draw ?l_draw ?c_draw ?k_draw ?g_drawn ?l_drawn ?c_drawn ?k_drawn ?g_word_of ?l_word_of ?c_word_of ?k_word_of ?g_shared_of ?l_shared_of ?c_shared_of ?k_shared_of ?g_divides_both ?l_divides_both ?c_divides_both ?k_divides_both ?g_spread_of ?l_spread_of ?c_spread_of ?k_spread_of ?g_need_plans ?l_need_plans ?c_need_plans ?k_need_plans ?g_is_word ?l_is_word ?c_is_word ?k_is_word ?g_is_option ?l_is_option ?c_is_option ?k_is_option ?g_are_options ?l_are_options ?c_are_options ?k_are_options ?g_is_range ?l_is_range ?c_is_range ?k_is_range ?g_rule_kind ?l_rule_kind ?c_rule_kind ?k_rule_kind ?g_is_plain_rule ?l_is_plain_rule ?c_is_plain_rule ?k_is_plain_rule ?g_is_rule ?l_is_rule ?c_is_rule ?k_is_rule ?g_look_columns ?l_look_columns ?c_look_columns ?k_look_columns ?g_need_plan ?l_need_plan ?c_need_plan ?k_need_plan ?g_World___init ?i_World___init ?l_World___init ?c_World___init ?k_World___init ?g_World_need_cell ?i_World_need_cell ?l_World_need_cell ?c_World_need_cell ?k_World_need_cell ?g_World_names ?i_World_names ?l_World_names ?c_World_names ?k_World_names ?g_World_at ?i_World_at ?l_World_at ?c_World_at ?k_World_at ?g_World_columns ?i_World_columns ?l_World_columns ?c_World_columns ?k_World_columns ?g_World_many ?i_World_many ?l_World_many ?c_World_many ?k_World_many ?g_World_looked ?i_World_looked ?l_World_looked ?c_World_looked ?k_World_looked ?g_World_worth ?i_World_worth ?l_World_worth ?c_World_worth ?k_World_worth ?g_World_cell ?i_World_cell ?l_World_cell ?c_World_cell ?k_World_cell ?g_World_row ?i_World_row ?l_World_row ?c_World_row ?k_World_row ?g_World_rows ?i_World_rows ?l_World_rows ?c_World_rows ?k_World_rows ?g_World_tables ?i_World_tables ?l_World_tables ?c_World_tables ?k_World_tables ?g_is_number ?l_is_number ?c_is_number ?k_is_number ?g_is_good_word ?l_is_good_word ?c_is_good_word ?k_is_good_word ?g_linked ?l_linked ?c_linked ?k_linked ?g_same ?l_same ?c_same ?k_same ?g_is_so ?l_is_so ?c_is_so ?k_is_so ?g_is_met ?l_is_met ?c_is_met ?k_is_met ?g_faults ?l_faults ?c_faults ?k_faults ?g_law_cell ?l_law_cell ?c_law_cell ?k_law_cell ?g_law_drawn ?l_law_drawn ?c_law_drawn ?k_law_drawn ?g_law_rule ?l_law_rule ?c_law_rule ?k_law_rule ?g_law_plan ?l_law_plan ?c_law_plan ?k_law_plan ?g_law_same ?l_law_same ?c_law_same ?k_law_same ?g_law_shared_cells ?l_law_shared_cells ?c_law_shared_cells ?k_law_shared_cells ?g_law ?l_law ?c_law ?k_law ?z_all ?z_any ?z_bool ?z_dict ?z_enumerate ?z_int ?z_isinstance ?z_len ?z_list ?z_max ?z_min ?z_range ?z_set ?z_str ?z_sum ?z_tuple ?z_zip ?n_FIRST ?n_MOST_COLUMNS ?n_MOST_NAME ?n_MOST_NUMBER ?n_MOST_OPTIONS ?n_MOST_PLACE ?n_MOST_ROWS ?n_MOST_SEED ?n_MOST_SHARE ?n_MOST_TABLES ?n_MOST_WORD ?n_SECOND ?n_SMALL ?gt_NUMBERS ?lt_NUMBERS ?qt_NUMBERS ?zt_NUMBERS ?gd_LENGTHS ?ld_LENGTHS ?qd_LENGTHS ?sd_LENGTHS ?pg_World ?hd_World ?po_World ?sa_World ?mk_World ?kc_World ?nf_World_plan ?nf_World_seed ?nf_World_places ?x_BadDraw ?kp_BadDraw ?sb_BadDraw ?ty_BadDraw ?x_BadPlan ?kp_BadPlan ?sb_BadPlan ?ty_BadPlan ?x_NoCell ?kp_NoCell ?sb_NoCell ?ty_NoCell
    (case g_BadDraw => k_is)
    (case g_BadPlan => k_is)
    (case g_NoCell => k_is)
    (case g_World => k_is)
    (case g_is_count => k_is)
    (case l_is_count => k_is)
    (case c_is_count => k_is)
    (case k_is_count => k_is)
    (case g_need_draws => k_is)
    (case l_need_draws => k_is)
    (case c_need_draws => k_is)
    (case k_need_draws => k_is)
    (case g_draw => k_is)
    (case l_draw => k_is)
    (case c_draw => k_is)
    (case k_draw => k_is)
    (case g_drawn => k_is)
    (case l_drawn => k_is)
    (case c_drawn => k_is)
    (case k_drawn => k_is)
    (case g_word_of => k_is)
    (case l_word_of => k_is)
    (case c_word_of => k_is)
    (case k_word_of => k_is)
    (case g_shared_of => k_is)
    (case l_shared_of => k_is)
    (case c_shared_of => k_is)
    (case k_shared_of => k_is)
    (case g_divides_both => k_is)
    (case l_divides_both => k_is)
    (case c_divides_both => k_is)
    (case k_divides_both => k_is)
    (case g_spread_of => k_is)
    (case l_spread_of => k_is)
    (case c_spread_of => k_is)
    (case k_spread_of => k_is)
    (case g_need_plans => k_is)
    (case l_need_plans => k_is)
    (case c_need_plans => k_is)
    (case k_need_plans => k_is)
    (case g_is_word => k_is)
    (case l_is_word => k_is)
    (case c_is_word => k_is)
    (case k_is_word => k_is)
    (case g_is_option => k_is)
    (case l_is_option => k_is)
    (case c_is_option => k_is)
    (case k_is_option => k_is)
    (case g_are_options => k_is)
    (case l_are_options => k_is)
    (case c_are_options => k_is)
    (case k_are_options => k_is)
    (case g_is_range => k_is)
    (case l_is_range => k_is)
    (case c_is_range => k_is)
    (case k_is_range => k_is)
    (case g_rule_kind => k_is)
    (case l_rule_kind => k_is)
    (case c_rule_kind => k_is)
    (case k_rule_kind => k_is)
    (case g_is_plain_rule => k_is)
    (case l_is_plain_rule => k_is)
    (case c_is_plain_rule => k_is)
    (case k_is_plain_rule => k_is)
    (case g_is_rule => k_is)
    (case l_is_rule => k_is)
    (case c_is_rule => k_is)
    (case k_is_rule => k_is)
    (case g_look_columns => k_is)
    (case l_look_columns => k_is)
    (case c_look_columns => k_is)
    (case k_look_columns => k_is)
    (case g_need_plan => k_is)
    (case l_need_plan => k_is)
    (case c_need_plan => k_is)
    (case k_need_plan => k_is)
    (case g_World___init => k_is)
    (case i_World___init => k_is)
    (case l_World___init => k_is)
    (case c_World___init => k_is)
    (case k_World___init => k_is)
    (case g_World_need_cell => k_is)
    (case i_World_need_cell => k_is)
    (case l_World_need_cell => k_is)
    (case c_World_need_cell => k_is)
    (case k_World_need_cell => k_is)
    (case g_World_names => k_is)
    (case i_World_names => k_is)
    (case l_World_names => k_is)
    (case c_World_names => k_is)
    (case k_World_names => k_is)
    (case g_World_at => k_is)
    (case i_World_at => k_is)
    (case l_World_at => k_is)
    (case c_World_at => k_is)
    (case k_World_at => k_is)
    (case g_World_columns => k_is)
    (case i_World_columns => k_is)
    (case l_World_columns => k_is)
    (case c_World_columns => k_is)
    (case k_World_columns => k_is)
    (case g_World_many => k_is)
    (case i_World_many => k_is)
    (case l_World_many => k_is)
    (case c_World_many => k_is)
    (case k_World_many => k_is)
    (case g_World_looked => k_is)
    (case i_World_looked => k_is)
    (case l_World_looked => k_is)
    (case c_World_looked => k_is)
    (case k_World_looked => k_is)
    (case g_World_worth => k_is)
    (case i_World_worth => k_is)
    (case l_World_worth => k_is)
    (case c_World_worth => k_is)
    (case k_World_worth => k_is)
    (case g_World_cell => k_is)
    (case i_World_cell => k_is)
    (case l_World_cell => k_is)
    (case c_World_cell => k_is)
    (case k_World_cell => k_is)
    (case g_World_row => k_is)
    (case i_World_row => k_is)
    (case l_World_row => k_is)
    (case c_World_row => k_is)
    (case k_World_row => k_is)
    (case g_World_rows => k_is)
    (case i_World_rows => k_is)
    (case l_World_rows => k_is)
    (case c_World_rows => k_is)
    (case k_World_rows => k_is)
    (case g_World_tables => k_is)
    (case i_World_tables => k_is)
    (case l_World_tables => k_is)
    (case c_World_tables => k_is)
    (case k_World_tables => k_is)
    (case g_is_number => k_is)
    (case l_is_number => k_is)
    (case c_is_number => k_is)
    (case k_is_number => k_is)
    (case g_is_good_word => k_is)
    (case l_is_good_word => k_is)
    (case c_is_good_word => k_is)
    (case k_is_good_word => k_is)
    (case g_linked => k_is)
    (case l_linked => k_is)
    (case c_linked => k_is)
    (case k_linked => k_is)
    (case g_same => k_is)
    (case l_same => k_is)
    (case c_same => k_is)
    (case k_same => k_is)
    (case g_is_so => k_is)
    (case l_is_so => k_is)
    (case c_is_so => k_is)
    (case k_is_so => k_is)
    (case g_is_met => k_is)
    (case l_is_met => k_is)
    (case c_is_met => k_is)
    (case k_is_met => k_is)
    (case g_faults => k_is)
    (case l_faults => k_is)
    (case c_faults => k_is)
    (case k_faults => k_is)
    (case g_law_cell => k_is)
    (case l_law_cell => k_is)
    (case c_law_cell => k_is)
    (case k_law_cell => k_is)
    (case g_law_drawn => k_is)
    (case l_law_drawn => k_is)
    (case c_law_drawn => k_is)
    (case k_law_drawn => k_is)
    (case g_law_rule => k_is)
    (case l_law_rule => k_is)
    (case c_law_rule => k_is)
    (case k_law_rule => k_is)
    (case g_law_plan => k_is)
    (case l_law_plan => k_is)
    (case c_law_plan => k_is)
    (case k_law_plan => k_is)
    (case g_law_same => k_is)
    (case l_law_same => k_is)
    (case c_law_same => k_is)
    (case k_law_same => k_is)
    (case g_law_shared_cells => k_is)
    (case l_law_shared_cells => k_is)
    (case c_law_shared_cells => k_is)
    (case k_law_shared_cells => k_is)
    (case g_law => k_is)
    (case l_law => k_is)
    (case c_law => k_is)
    (case k_law => k_is)
    (case z_all => k_is)
    (case z_any => k_is)
    (case z_bool => k_is)
    (case z_dict => k_is)
    (case z_enumerate => k_is)
    (case z_int => k_is)
    (case z_isinstance => k_is)
    (case z_len => k_is)
    (case z_list => k_is)
    (case z_max => k_is)
    (case z_min => k_is)
    (case z_range => k_is)
    (case z_set => k_is)
    (case z_str => k_is)
    (case z_sum => k_is)
    (case z_tuple => k_is)
    (case z_zip => k_is)
    (case n_FIRST => k_is)
    (case n_MOST_COLUMNS => k_is)
    (case n_MOST_NAME => k_is)
    (case n_MOST_NUMBER => k_is)
    (case n_MOST_OPTIONS => k_is)
    (case n_MOST_PLACE => k_is)
    (case n_MOST_ROWS => k_is)
    (case n_MOST_SEED => k_is)
    (case n_MOST_SHARE => k_is)
    (case n_MOST_TABLES => k_is)
    (case n_MOST_WORD => k_is)
    (case n_SECOND => k_is)
    (case n_SMALL => k_is)
    (case gt_NUMBERS => k_is)
    (case lt_NUMBERS => k_is)
    (case qt_NUMBERS => exact ⟨⟨_, rfl⟩, ⟨_, rfl⟩, ⟨_, rfl⟩, ⟨_, rfl⟩, trivial⟩)
    (case zt_NUMBERS => decide)
    (case gd_LENGTHS => k_is)
    (case ld_LENGTHS => k_is)
    (case qd_LENGTHS => exact ⟨⟨_, _, rfl⟩, ⟨_, _, rfl⟩, ⟨_, _, rfl⟩, ⟨_, _, rfl⟩, ⟨_, _, rfl⟩, ⟨_, _, rfl⟩, ⟨_, _, rfl⟩, ⟨_, _, rfl⟩, ⟨_, _, rfl⟩, trivial⟩)
    (case sd_LENGTHS => rfl)
    (case pg_World => k_is)
    (case hd_World => k_is)
    (case po_World => k_is)
    (case sa_World => k_is)
    (case mk_World => k_is)
    (case kc_World => k_is)
    (case nf_World_plan => k_is)
    (case nf_World_seed => k_is)
    (case nf_World_places => k_is)
    (case x_BadDraw => k_exc)
    (case kp_BadDraw => k_is)
    (case sb_BadDraw => k_is)
    (case ty_BadDraw => k_is)
    (case x_BadPlan => k_exc)
    (case kp_BadPlan => k_is)
    (case sb_BadPlan => k_is)
    (case ty_BadPlan => k_is)
    (case x_NoCell => k_exc)
    (case kp_NoCell => k_is)
    (case sb_NoCell => k_is)
    (case ty_NoCell => k_is)

#print axioms PySem.Challenge.cw_rulemade_k32_whole_worlds_apart_holds
