import PyProof.Rows.All
import Wide.All
import OpenK.AllK
import Wide.FinOn
import PyProof.EqAt
import PyProof.EqKinds
import PyProof.TupleCall
import HandS.ForMost
import HandS.ForExc
import HandS.Wide
import HandS.IsInst
import HandS.TupAny
import HandS.Zip
import HandS.Conv
import HandS.Style
import HandS.Flow
import HandS.Deep
import HandS.Ends
import PySem.Challenge.RW_levyhouse_k03_orders
set_option Elab.async false
set_option linter.all false
set_option maxRecDepth 100000
set_option maxHeartbeats 4000000
/-! FV1: values as data, the relation, the judgements. -/
namespace FV
open PySem PySem.Spec PyProof.Rows L2

/-- a value as plain data -/
inductive D where
  | non | bl (b : Bool) | int (i : Int) | str (x : Str) | tup (ds : List D) | lst (ds : List D) | klst (ds : List D) | exn (c : Str)

inductive Res (α : Type) where
  | ok (a : α) | exn (x : Str) | stuck
def Res.bind {α β : Type} : Res α → (α → Res β) → Res β
  | .ok a, f => f a
  | .exn x, _ => .exn x
  | .stuck, _ => .stuck

inductive Sl where
  | frz (d : D) | own (ds : List D)
abbrev En := List (Option Sl)
abbrev Den := En → Res D
abbrev DenA := En → Res (List D)
inductive SRes where
  | next (ρ : En) | ret (d : D) | brk (ρ : En) | cont (ρ : En) | exn (x : Str) (ρ : En) | stuck
abbrev SDen := En → SRes

/-! ### the relation -/
mutual
inductive Rep (K : PySem.W.Frag) (F : Hp) : V → D → Prop
  | non : Rep K F .non .non
  | bl (b : Bool) : Rep K F (.bl b) (.bl b)
  | int (i : Int) : Rep K F (.int i) (.int i)
  | str (x : Str) : Rep K F (.str x) (.str x)
  | tup {a : Addr} {vs : List V} {ds : List D} : SqT K F a vs → vs.length ≤ sizeLine → Reps K F vs ds → Rep K F (.ref a) (.tup ds)
  | lst {a : Addr} {vs : List V} {ds : List D} : F a = some (.lst vs) → vs.length ≤ sizeLine → Reps K F vs ds → Rep K F (.ref a) (.lst ds)
  | klst {a : Addr} {vs : List V} {ds : List D} : SqL K F a vs → vs.length ≤ sizeLine → Reps K F vs ds → Rep K F (.ref a) (.klst ds)
inductive Reps (K : PySem.W.Frag) (F : Hp) : List V → List D → Prop
  | nil : Reps K F [] []
  | cons {v : V} {vs : List V} {d : D} {ds : List D} : Rep K F v d → Reps K F vs ds → Reps K F (v :: vs) (d :: ds)
end

section
variable {K : PySem.W.Frag} {F F' : Hp}
theorem sqT_mono (e : Same F F') {a : Addr} {xs : List V} (h : SqT K F a xs) : SqT K F' a xs := by
  rcases h with (h | ⟨o, h⟩) | h
  · exact .inl (.inl (e _ _ h))
  · exact .inl (.inr ⟨o, e _ _ h⟩)
  · exact .inr h
mutual
theorem Rep.mono (e : Same F F') : ∀ {v : V} {d : D}, Rep K F v d → Rep K F' v d
  | _, _, .non => .non
  | _, _, .bl b => .bl b
  | _, _, .int i => .int i
  | _, _, .str x => .str x
  | _, _, .tup h z r => .tup (sqT_mono e h) z (Reps.mono e r)
  | _, _, .lst h z r => .lst (e _ _ h) z (Reps.mono e r)
  | _, _, .klst h z r => .klst (e.seq h) z (Reps.mono e r)
theorem Reps.mono (e : Same F F') : ∀ {vs : List V} {ds : List D}, Reps K F vs ds → Reps K F' vs ds
  | _, _, .nil => .nil
  | _, _, .cons r t => .cons (Rep.mono e r) (Reps.mono e t)
end
theorem Reps.length : ∀ {vs : List V} {ds : List D}, Reps K F vs ds → vs.length = ds.length
  | _, _, .nil => rfl
  | _, _, .cons _ t => by rw [List.length_cons, List.length_cons, Reps.length t]
theorem Reps.get : ∀ {vs : List V} {ds : List D} {i : Nat} {d : D}, Reps K F vs ds → ds[i]? = some d → ∃ v, vs[i]? = some v ∧ Rep K F v d
  | _, _, _, _, .nil, e => by simp at e
  | _, _, 0, _, .cons r _, e => by simp at e; subst e; exact ⟨_, rfl, r⟩
  | _, _, i + 1, d, .cons r t, e => by
    obtain ⟨v, h1, h2⟩ := Reps.get (i := i) (d := d) t (by simpa using e)
    exact ⟨v, by simpa using h1, h2⟩
theorem Reps.get' : ∀ {vs : List V} {ds : List D} {i : Nat} {v : V}, Reps K F vs ds → vs[i]? = some v → ∃ d, ds[i]? = some d ∧ Rep K F v d
  | _, _, _, _, .nil, e => by simp at e
  | _, _, 0, _, .cons r _, e => by simp at e; subst e; exact ⟨_, rfl, r⟩
  | _, _, i + 1, d, .cons r t, e => by
    obtain ⟨v, h1, h2⟩ := Reps.get' (i := i) t (by simpa using e)
    exact ⟨v, by simpa using h1, h2⟩
theorem Reps.append : ∀ {vs ws : List V} {ds es : List D}, Reps K F vs ds → Reps K F ws es → Reps K F (vs ++ ws) (ds ++ es)
  | _, _, _, _, .nil, s => s
  | _, _, _, _, .cons r t, s => .cons r (Reps.append t s)
theorem Reps.take : ∀ {vs : List V} {ds : List D} (n : Nat), Reps K F vs ds → Reps K F (vs.take n) (ds.take n)
  | _, _, 0, _ => .nil
  | _, _, _ + 1, .nil => .nil
  | _, _, n + 1, .cons r t => .cons r (Reps.take n t)
theorem Reps.drop : ∀ {vs : List V} {ds : List D} (n : Nat), Reps K F vs ds → Reps K F (vs.drop n) (ds.drop n)
  | _, _, 0, r => r
  | _, _, _ + 1, .nil => .nil
  | _, _, n + 1, .cons _ t => Reps.drop n t
theorem Reps.reverse : ∀ {vs : List V} {ds : List D}, Reps K F vs ds → Reps K F vs.reverse ds.reverse
  | _, _, .nil => .nil
  | _, _, .cons r t => by rw [List.reverse_cons, List.reverse_cons]; exact (Reps.reverse t).append (.cons r .nil)
theorem Reps.set : ∀ {vs : List V} {ds : List D} (i : Nat) {v : V} {d : D}, Reps K F vs ds → Rep K F v d → Reps K F (vs.set i v) (ds.set i d)
  | _, _, _, _, _, .nil, _ => .nil
  | _, _, 0, _, _, .cons _ t, q => .cons q t
  | _, _, i + 1, _, _, .cons r t, q => .cons r (Reps.set i t q)
theorem Reps.ints {ns : List Int} : Reps K F (ns.map V.int) (ns.map D.int) := by
  induction ns with
  | nil => exact .nil
  | cons n r ih => exact .cons (.int n) ih
end

/-- from (F, H) to (F', H'): F is what is frozen in the heap H -/
structure Grow (F H F' H' : Hp) : Prop where
  f : Same F F'
  h : Same H H'
  fh : Same F' H'
  new : ∀ a, H a ≠ none → F a = none → F' a = none
theorem Grow.refl {F H : Hp} (e : Same F H) : Grow F H F H := ⟨Same.refl F, Same.refl H, e, fun _ _ h => h⟩
theorem Same.ne {H H' : Hp} (e : Same H H') {a : Addr} (h : H a ≠ none) : H' a ≠ none := by
  cases q : H a with
  | none => exact absurd q h
  | some o => rw [e a o q]; exact fun z => nomatch z
theorem Grow.trans {F H F1 H1 F2 H2 : Hp} (a : Grow F H F1 H1) (b : Grow F1 H1 F2 H2) : Grow F H F2 H2 :=
  ⟨a.f.trans b.f, a.h.trans b.h, b.fh, fun x h1 h2 => b.new x (Same.ne a.h h1) (a.new x h1 h2)⟩
theorem same_upd {F : Hp} {p : Addr} {o : HO} (h : F p = none) : Same F (upd F p o) := fun b u e => by
  rw [upd_ne (ne_of_none e h)]; exact e
theorem Grow.alloc {F H F1 H1 : Hp} (g : Grow F H F1 H1) {p : Addr} {o : HO} (h : H1 p = none) : Grow F H (upd F1 p o) (upd H1 p o) := by
  have hF : F1 p = none := by
    cases q : F1 p with
    | none => rfl
    | some u => rw [g.fh p u q] at h; cases h
  refine ⟨g.f.trans (same_upd hF), g.h.trans (same_upd h), fun b u e => ?_, fun a h1 h2 => ?_⟩
  · by_cases hb : b = p
    · subst hb; rw [upd_same] at e ⊢; exact e
    · rw [upd_ne hb] at e ⊢; exact g.fh b u e
  · have ha : a ≠ p := fun z => by subst z; exact absurd h (Same.ne g.h h1)
    rw [upd_ne ha]; exact g.new a h1 h2
/-- a new object that stays out of the frozen part -/
theorem Grow.allocOwn {F H F1 H1 : Hp} (g : Grow F H F1 H1) {p : Addr} {o : HO} (h : H1 p = none) : Grow F H F1 (upd H1 p o) :=
  ⟨g.f, g.h.trans (same_upd h), g.fh.trans (same_upd h), g.new⟩
/-- a new object of H' is frozen -/
theorem Grow.freeze {F H F1 H1 : Hp} (g : Grow F H F1 H1) {p : Addr} {o : HO} (h : H p = none) (e : H1 p = some o) (n : F1 p = none) : Grow F H (upd F1 p o) H1 := by
  refine ⟨g.f.trans (same_upd n), g.h, fun b u q => ?_, fun a h1 h2 => ?_⟩
  · by_cases hb : b = p
    · subst hb; rw [upd_same] at q; rw [e]; exact q
    · rw [upd_ne hb] at q; exact g.fh b u q
  · have ha : a ≠ p := fun z => by subst z; exact absurd h h1
    rw [upd_ne ha]; exact g.new a h1 h2

/-- the slots, the heap, and the environment of data -/
structure Sim (K : PySem.W.Frag) (F0 H0 F H : Hp) (ρ : En) (σ : L2.St) : Prop where
  g : Grow F0 H0 F H
  len : ρ.length = σ.length
  frz : ∀ (i : Nat) (d : D), ρ[i]? = some (some (Sl.frz d)) → ∃ v, σ[i]? = some (some v) ∧ Rep K F v d
  own : ∀ (i : Nat) (ds : List D), ρ[i]? = some (some (Sl.own ds)) → ∃ a vs, σ[i]? = some (some (V.ref a)) ∧ H a = some (.lst vs) ∧ F a = none ∧ H0 a = none ∧ vs.length ≤ sizeLine ∧ Reps K F vs ds
  dis : ∀ (i j : Nat) (ds es : List D) (a : Addr), i ≠ j → ρ[i]? = some (some (Sl.own ds)) → ρ[j]? = some (some (Sl.own es)) → σ[i]? = some (some (V.ref a)) → σ[j]? = some (some (V.ref a)) → False
theorem Sim.grow {K : PySem.W.Frag} {F0 H0 F H F' H' : Hp} {ρ : En} {σ : L2.St} (S : Sim K F0 H0 F H ρ σ) (g : Grow F H F' H') : Sim K F0 H0 F' H' ρ σ where
  g := S.g.trans g
  len := S.len
  frz := fun i d e => let ⟨v, h, r⟩ := S.frz i d e; ⟨v, h, r.mono g.f⟩
  own := fun i ds e => let ⟨a, vs, h1, h2, h3, h4, h5, h6⟩ := S.own i ds e
    ⟨a, vs, h1, g.h _ _ h2, g.new a (by rw [h2]; exact fun z => nomatch z) h3, h4, h5, h6.mono g.f⟩
  dis := S.dis

/-- an exception of D as the layer tells it -/
def XR (mg : Str → Option Value) (x : Str) (cls : Value) : Prop := ∃ C : Addr, cls = .ref C ∧ mg x = some (.ref C)

structure Cc where
  F0 : Hp
  H0 : Hp
  W : WX

/-! ### the weakest readings -/
section
variable {X : Cx}
def Wp (X : Cx) (e : Expr) : TE := fun σ H Q => ∀ (pins : List (Addr × Obj)) (s : Shared), Inv X pins σ H s → wpAny (model X.prog X.w) X.A (eval e X.env) (EP X pins σ Q) X.xe s
theorem pe_wp (e : Expr) : PE X e (Wp X e) := ⟨fun pins s σ H Q I h => h pins s I⟩
theorem wp_of {e : Expr} {t : TE} (h : PE X e t) {σ : L2.St} {H : Hp} {Q : VK} (q : t σ H Q) : Wp X e σ H Q := fun pins s I => h.run pins s σ H Q I q
def WpT (X : Cx) (e : Expr) : TT := fun σ H Q => ∀ (pins : List (Addr × Obj)) (s : Shared), Inv X pins σ H s → wpAny (model X.prog X.w) X.A (isTrue e X.env (eval e X.env)) (TP X pins σ Q) X.xe s
theorem pt_wp (e : Expr) : PT X e (WpT X e) := ⟨fun pins s σ H Q I h => h pins s I⟩
theorem wpt_of {e : Expr} {t : TT} (h : PT X e t) {σ : L2.St} {H : Hp} {Q : Bool → Hp → Prop} (q : t σ H Q) : WpT X e σ H Q := fun pins s I => h.run pins s σ H Q I q
def WpW (X : Cx) (e : Expr) : TT := fun σ H Q => ∀ (whole : Sem Value) (pins : List (Addr × Obj)) (s : Shared), Inv X pins σ H s → wpAny (model X.prog X.w) X.A (isTrue e X.env whole) (TP X pins σ Q) X.xe s
theorem pw_wp (e : Expr) : PW X e (WpW X e) := ⟨fun wh pins s σ H Q I h => h wh pins s I⟩
theorem wpw_of {e : Expr} {t : TT} (h : PW X e t) {σ : L2.St} {H : Hp} {Q : Bool → Hp → Prop} (q : t σ H Q) : WpW X e σ H Q := fun wh pins s I => h.run wh pins s σ H Q I q
def WpA (X : Cx) (es : List Expr) : TA := fun σ H Q => ∀ (pos : Pos) (pins : List (Addr × Obj)) (s : Shared), Inv X pins σ H s → wpAny (model X.prog X.w) X.A (spliced (backTo pos (starEach es X.env))) (AP X pins σ Q) X.xe s
theorem pa_wp (es : List Expr) : PA X es (WpA X es) := ⟨fun pos pins s σ H Q I h => h pos pins s I⟩
theorem wpa_of {es : List Expr} {t : TA} (h : PA X es t) {σ : L2.St} {H : Hp} {Q : List V → Hp → Prop} (q : t σ H Q) : WpA X es σ H Q := fun pos pins s I => h.run pos pins s σ H Q I q
def WpS (X : Cx) (st : Stmt) : TS := fun D σ H => ∀ (pins : List (Addr × Obj)) (s : Shared), Inv X pins σ H s → wpAny (model X.prog X.w) X.A (exec st X.env) (SP X pins D) X.xe s
theorem ps_wp (st : Stmt) : PS X st (WpS X st) := ⟨fun pins s σ H D I h => h pins s I⟩
theorem wps_of {st : Stmt} {t : TS} (h : PS X st t) {σ : L2.St} {H : Hp} {D : Ends} (q : t D σ H) : WpS X st D σ H := fun pins s I => h.run pins s σ H D I q
def WpB (X : Cx) (st : List Stmt) : TS := fun D σ H => ∀ (pins : List (Addr × Obj)) (s : Shared), Inv X pins σ H s → wpAny (model X.prog X.w) X.A (execs st X.env) (SP X pins D) X.xe s
theorem pss_wp (st : List Stmt) : PSs X st (WpB X st) := ⟨fun pins s σ H D I h => h pins s I⟩
theorem wpb_of {st : List Stmt} {t : TS} (h : PSs X st t) {σ : L2.St} {H : Hp} {D : Ends} (q : t D σ H) : WpB X st D σ H := fun pins s I => h.run pins s σ H D I q
end

/-! ### the judgements -/
/-- what an expression's end is to reach -/
def Out (X : Cx) (c : Cc) (σ : L2.St) (F H : Hp) {α β : Type} (R : Hp → Hp → β → α → Prop) (r : Res α) (Q : β → Hp → Prop) : Prop :=
  match r with
  | .ok d => ∀ F' H' v, Grow F H F' H' → R F' H' v d → Q v H'
  | .exn x => ∀ F' H' cls dd, Grow F H F' H' → XR X.mg x cls → c.W cls dd σ H'
  | .stuck => False

/-- readable now: frozen, or a list of the def's own -/
def Rd' (K : PySem.W.Frag) (F H : Hp) (v : V) (d : D) : Prop :=
  Rep K F v d ∨ ∃ a vs ds, v = .ref a ∧ d = .lst ds ∧ H a = some (.lst vs) ∧ vs.length ≤ sizeLine ∧ Reps K F vs ds
theorem Rd'.grow {K : PySem.W.Frag} {F H F' H' : Hp} {v : V} {d : D} (r : Rd' K F H v d) (g : Grow F H F' H') : Rd' K F' H' v d := by
  rcases r with r | ⟨a, vs, ds, h1, h2, h3, h4, h5⟩
  · exact .inl (r.mono g.f)
  · exact .inr ⟨a, vs, ds, h1, h2, g.h _ _ h3, h4, h5.mono g.f⟩
/-- a list that was made just now -/
def Fresh (K : PySem.W.Frag) (H0 F H : Hp) (v : V) (d : D) : Prop :=
  ∃ a vs ds, v = .ref a ∧ d = .lst ds ∧ H a = some (.lst vs) ∧ F a = none ∧ H0 a = none ∧ vs.length ≤ sizeLine ∧ Reps K F vs ds

def EJ (X : Cx) (c : Cc) (e : Expr) (f : Den) : Prop := ∀ ρ σ F H Q, Sim X.K c.F0 c.H0 F H ρ σ → Out X c σ F H (fun F' _ v d => Rep X.K F' v d) (f ρ) Q → Wp X e σ H Q
def ER (X : Cx) (c : Cc) (e : Expr) (f : Den) : Prop := ∀ ρ σ F H Q, Sim X.K c.F0 c.H0 F H ρ σ → Out X c σ F H (fun F' H' v d => Rd' X.K F' H' v d) (f ρ) Q → Wp X e σ H Q
def EO (X : Cx) (c : Cc) (e : Expr) (f : Den) : Prop := ∀ ρ σ F H Q, Sim X.K c.F0 c.H0 F H ρ σ → Out X c σ F H (fun F' H' v d => Fresh X.K H F' H' v d) (f ρ) Q → Wp X e σ H Q
/-- tests -/
def TJ (X : Cx) (c : Cc) (e : Expr) (f : En → Res Bool) : Prop := ∀ ρ σ F H Q, Sim X.K c.F0 c.H0 F H ρ σ → Out X c σ F H (fun _ _ (v : Bool) d => v = d) (f ρ) Q → WpT X e σ H Q
def TW (X : Cx) (c : Cc) (e : Expr) (f : En → Res Bool) : Prop := ∀ ρ σ F H Q, Sim X.K c.F0 c.H0 F H ρ σ → Out X c σ F H (fun _ _ (v : Bool) d => v = d) (f ρ) Q → WpW X e σ H Q
/-- arguments, all frozen; all readable -/
def AJ (X : Cx) (c : Cc) (es : List Expr) (f : DenA) : Prop := ∀ ρ σ F H Q, Sim X.K c.F0 c.H0 F H ρ σ → Out X c σ F H (fun F' _ vs ds => Reps X.K F' vs ds) (f ρ) Q → WpA X es σ H Q
inductive Rds (K : PySem.W.Frag) (F H : Hp) : List V → List D → Prop
  | nil : Rds K F H [] []
  | cons {v : V} {vs : List V} {d : D} {ds : List D} : Rd' K F H v d → Rds K F H vs ds → Rds K F H (v :: vs) (d :: ds)
theorem Rds.grow {K : PySem.W.Frag} {F H F' H' : Hp} (g : Grow F H F' H') : ∀ {vs : List V} {ds : List D}, Rds K F H vs ds → Rds K F' H' vs ds
  | _, _, .nil => .nil
  | _, _, .cons r t => .cons (r.grow g) (Rds.grow g t)
def AR (X : Cx) (c : Cc) (es : List Expr) (f : DenA) : Prop := ∀ ρ σ F H Q, Sim X.K c.F0 c.H0 F H ρ σ → Out X c σ F H (fun F' H' vs ds => Rds X.K F' H' vs ds) (f ρ) Q → WpA X es σ H Q

/-- what a statement's end is to reach -/
def SOut (X : Cx) (c : Cc) (F : Hp) (D : Ends) : SRes → Prop
  | .next ρ' => ∀ σ' F' H', Sim X.K c.F0 c.H0 F' H' ρ' σ' → Same F F' → D.nx σ' H'
  | .brk ρ' => ∀ σ' F' H', Sim X.K c.F0 c.H0 F' H' ρ' σ' → Same F F' → D.bk σ' H'
  | .cont ρ' => ∀ σ' F' H', Sim X.K c.F0 c.H0 F' H' ρ' σ' → Same F F' → D.ct σ' H'
  | .ret d => ∀ F' H' v, Grow c.F0 c.H0 F' H' → Rep X.K F' v d → D.rt v H'
  | .exn x ρ' => ∀ σ' F' H' cls dd, Sim X.K c.F0 c.H0 F' H' ρ' σ' → Same F F' → XR X.mg x cls → c.W cls dd σ' H'
  | .stuck => False
def SJ (X : Cx) (c : Cc) (st : Stmt) (g : SDen) : Prop := ∀ ρ σ F H D, Sim X.K c.F0 c.H0 F H ρ σ → SOut X c F D (g ρ) → WpS X st D σ H
def BJ (X : Cx) (c : Cc) (st : List Stmt) (g : SDen) : Prop := ∀ ρ σ F H D, Sim X.K c.F0 c.H0 F H ρ σ → SOut X c F D (g ρ) → WpB X st D σ H

/-! ### one after another -/
section
variable {X : Cx} {c : Cc} {σ : L2.St} {F H : Hp}
theorem Out.mono {α β : Type} {R R' : Hp → Hp → β → α → Prop} {r : Res α} {Q : β → Hp → Prop} (h : Out X c σ F H R r Q) (i : ∀ F' H' v d, Grow F H F' H' → R' F' H' v d → R F' H' v d) : Out X c σ F H R' r Q := by
  cases r with
  | ok d => exact fun F' H' v g q => h F' H' v g (i F' H' v d g q)
  | exn x => exact h
  | stuck => exact h
/-- the first part of a bind -/
theorem Out.seq {α β γ δ : Type} {R : Hp → Hp → β → α → Prop} {R2 : Hp → Hp → δ → γ → Prop} {r : Res α} {k : α → Res γ} {Q : δ → Hp → Prop} {Q1 : β → Hp → Prop}
    (h : Out X c σ F H R2 (r.bind k) Q)
    (n : ∀ d F' H' v, r = .ok d → Grow F H F' H' → R F' H' v d → Out X c σ F' H' R2 (k d) Q → Q1 v H') : Out X c σ F H R r Q1 := by
  cases r with
  | ok d =>
    intro F' H' v g q
    refine n d F' H' v rfl g q ?_
    have h' : Out X c σ F H R2 (k d) Q := h
    cases e : k d with
    | ok z => rw [e] at h'; exact fun F2 H2 v2 g2 q2 => h' F2 H2 v2 (g.trans g2) q2
    | exn x => rw [e] at h'; exact fun F2 H2 cls dd g2 q2 => h' F2 H2 cls dd (g.trans g2) q2
    | stuck => rw [e] at h'; exact h'.elim
  | exn x => exact h
  | stuck => exact h
theorem EO.ej {e : Expr} {f : Den} (h : EO X c e f) : EJ X c e f := by
  intro ρ σ F H Q S o
  refine h ρ σ F H Q S ?_
  cases q : f ρ with
  | ok d =>
    rw [q] at o
    rintro F' H' v g ⟨a, vs, ds, rfl, rfl, h1, h2, h3, h4, h5⟩
    refine o _ H' _ (g.freeze h3 h1 h2) (.lst upd_same h4 (h5.mono (same_upd h2)))
  | exn x => rw [q] at o; exact o
  | stuck => rw [q] at o; exact o
theorem EJ.er {e : Expr} {f : Den} (h : EJ X c e f) : ER X c e f := fun ρ σ F H Q S o => h ρ σ F H Q S (o.mono fun _ _ _ _ _ r => .inl r)
theorem AJ.ar {es : List Expr} {f : DenA} (h : AJ X c es f) : AR X c es f := fun ρ σ F H Q S o => h ρ σ F H Q S (o.mono fun F' H' vs ds _ r => by
  induction vs generalizing ds with
  | nil => cases r; exact .nil
  | cons v vs ih => cases r with | cons r t => exact .cons (.inl r) (ih _ t))

/-! ### names and constants -/
def dVar (i : Nat) : Den := fun ρ => match ρ[i]? with
  | some (some (.frz d)) => .ok d
  | _ => .stuck
def dVarR (i : Nat) : Den := fun ρ => match ρ[i]? with
  | some (some (.frz d)) => .ok d
  | some (some (.own ds)) => .ok (.lst ds)
  | _ => .stuck
theorem ej_var (i : Nat) {x : Str} {pos : Pos} (hN : X.N[i]? = some x := by rfl) (hv : Vis X.env.scope x := by first | exact Or.inl rfl | exact Or.inr (Or.inl rfl) | exact Or.inr (Or.inr rfl)) (hd : (x == ("__debug__" : Str)) = false := by decide)
    (hcd : (x == ("__classdict__" : Str)) = false := by decide) : EJ X c (.Name x pos) (dVar i) := by
  intro ρ σ F H Q S o
  refine wp_of (pe_var hN hv hd hcd) ?_
  unfold dVar at o
  split at o
  · rename_i d e
    obtain ⟨v, h1, h2⟩ := S.frz i d e
    exact ⟨v, h1, o F H v (Grow.refl S.g.fh) h2⟩
  · exact o.elim
theorem er_var (i : Nat) {x : Str} {pos : Pos} (hN : X.N[i]? = some x := by rfl) (hv : Vis X.env.scope x := by first | exact Or.inl rfl | exact Or.inr (Or.inl rfl) | exact Or.inr (Or.inr rfl)) (hd : (x == ("__debug__" : Str)) = false := by decide)
    (hcd : (x == ("__classdict__" : Str)) = false := by decide) : ER X c (.Name x pos) (dVarR i) := by
  intro ρ σ F H Q S o
  refine wp_of (pe_var hN hv hd hcd) ?_
  unfold dVarR at o
  split at o
  · rename_i d e
    obtain ⟨v, h1, h2⟩ := S.frz i d e
    exact ⟨v, h1, o F H v (Grow.refl S.g.fh) (.inl h2)⟩
  · rename_i ds e
    obtain ⟨a, vs, h1, h2, h3, h4, h5, h6⟩ := S.own i ds e
    exact ⟨_, h1, o F H _ (Grow.refl S.g.fh) (.inr ⟨a, vs, ds, rfl, rfl, h2, h5, h6⟩)⟩
  · exact o.elim
def dC (d : D) : Den := fun _ => .ok d
theorem ej_c {e : Expr} {v : V} {d : D} (h : PE X e (tC v)) (r : ∀ F, Rep X.K F v d) : EJ X c e (dC d) := fun ρ σ F H Q S o => wp_of h (o F H v (Grow.refl S.g.fh) (r F))
theorem ej_int {i : Int} {j : Nat} {pos : Pos} : EJ X c (.Constant (.int i) j pos) (dC (.int i)) := ej_c pe_int fun _ => .int i
theorem ej_bl {b : Bool} {j : Nat} {pos : Pos} : EJ X c (.Constant (.bool b) j pos) (dC (.bl b)) := ej_c pe_bl fun _ => .bl b
theorem ej_non {j : Nat} {pos : Pos} : EJ X c (.Constant .none j pos) (dC .non) := ej_c pe_non fun _ => .non
theorem ej_str {x : Str} {j : Nat} {pos : Pos} : EJ X c (.Constant (.str x) j pos) (dC (.str x)) := ej_c pe_str fun _ => .str x
/-- a module's constant -/
theorem ej_glob {x : Str} {d : D} {pos : Pos} (hm : ∃ v u, X.mg x = some u ∧ RelV v u ∧ ∀ F, Rep X.K F v d) (hg : Gl X x := by rfl) (hd : (x == ("__debug__" : Str)) = false := by decide) : EJ X c (.Name x pos) (dC d) := by
  obtain ⟨v, u, h1, h2, h3⟩ := hm
  exact ej_c (pe_glob hg h1 h2 hd) h3

/-! ### arguments and displays -/
def aNil : DenA := fun _ => .ok []
def aCons (f : Den) (g : DenA) : DenA := fun ρ => (f ρ).bind fun d => (g ρ).bind fun ds => .ok (d :: ds)
theorem aj_nil : AJ X c [] aNil := fun ρ σ F H Q S o => wpa_of pa_nil (o F H [] (Grow.refl S.g.fh) .nil)
theorem aj_cons {e : Expr} {es : List Expr} {f : Den} {g : DenA} (h1 : EJ X c e f) (h2 : AJ X c es g) (hs : starEach (e :: es) X.env = (false, eval e X.env) :: starEach es X.env := by rfl) : AJ X c (e :: es) (aCons f g) := by
  intro ρ σ F H Q S o
  refine wpa_of (pa_cons (pe_wp e) (pa_wp es) hs) (h1 ρ σ F H _ S (o.seq fun d F1 H1 v _ g1 r1 o1 => ?_))
  exact h2 ρ σ F1 H1 _ (S.grow g1) (o1.seq fun ds F2 H2 vs _ g2 r2 o2 => o2 F2 H2 _ (Grow.refl g2.fh) (.cons (r1.mono g2.f) r2))
theorem ar_nil : AR X c [] aNil := fun ρ σ F H Q S o => wpa_of pa_nil (o F H [] (Grow.refl S.g.fh) .nil)
theorem ar_cons {e : Expr} {es : List Expr} {f : Den} {g : DenA} (h1 : ER X c e f) (h2 : AR X c es g) (hs : starEach (e :: es) X.env = (false, eval e X.env) :: starEach es X.env := by rfl) : AR X c (e :: es) (aCons f g) := by
  intro ρ σ F H Q S o
  refine wpa_of (pa_cons (pe_wp e) (pa_wp es) hs) (h1 ρ σ F H _ S (o.seq fun d F1 H1 v _ g1 r1 o1 => ?_))
  exact h2 ρ σ F1 H1 _ (S.grow g1) (o1.seq fun ds F2 H2 vs _ g2 r2 o2 => o2 F2 H2 _ (Grow.refl g2.fh) (.cons (r1.grow g2) r2))
def short (n : Nat) (g : List D → D) : List D → Res D := fun ds => if ds.length ≤ n then .ok (g ds) else .stuck
def dTup (g : DenA) : Den := fun ρ => (g ρ).bind fun ds => if ds.length ≤ 1000 then .ok (.tup ds) else .stuck
def dLst (g : DenA) : Den := fun ρ => (g ρ).bind fun ds => if ds.length ≤ 1000 then .ok (.lst ds) else .stuck
theorem line1000 {n : Nat} (h : n ≤ 1000) : n ≤ sizeLine := Nat.le_of_lt (small1000 h)
theorem ej_tup {es : List Expr} {g : DenA} {k : Nat} {pos : Pos} (h : AJ X c es g) : EJ X c (.Tuple es k pos) (dTup g) := by
  intro ρ σ F H Q S o
  refine wp_of (pe_tup (pa_wp es)) (h ρ σ F H _ S (o.seq fun ds F1 H1 vs _ g1 r1 o1 => ?_))
  by_cases z : ds.length ≤ 1000
  · rw [if_pos z] at o1
    refine ⟨line1000 (by rw [r1.length]; exact z), fun p hp => ?_⟩
    have gg := (Grow.refl g1.fh).alloc (p := p) (o := .tup vs) hp
    exact o1 _ _ _ gg (.tup (SqT.of upd_same) (line1000 (by rw [r1.length]; exact z)) (r1.mono gg.f))
  · rw [if_neg z] at o1; exact o1.elim
theorem eo_lst {es : List Expr} {g : DenA} {pos : Pos} (h : AJ X c es g) : EO X c (.List es pos) (dLst g) := by
  intro ρ σ F H Q S o
  refine wp_of (pe_lst (pa_wp es)) (h ρ σ F H _ S (o.seq fun ds F1 H1 vs _ g1 r1 o1 => ?_))
  by_cases z : ds.length ≤ 1000
  · rw [if_pos z] at o1
    refine ⟨line1000 (by rw [r1.length]; exact z), fun p hp => ?_⟩
    have gg := (Grow.refl g1.fh).allocOwn (p := p) (o := .lst vs) hp
    have fp : F1 p = none := by
      cases q : F1 p with
      | none => rfl
      | some u => rw [g1.fh p u q] at hp; cases hp
    exact o1 _ _ _ gg ⟨p, vs, ds, rfl, rfl, upd_same, fp, g1.h.free hp, line1000 (by rw [r1.length]; exact z), r1⟩
  · rw [if_neg z] at o1; exact o1.elim
end
end FV

set_option maxHeartbeats 4000000
/-! FV2: operators, comparisons, subscripts, built-in calls, tests. -/
namespace FV
open PySem PySem.Spec PyProof.Rows L2

def OutV (X : Cx) (F H : Hp) (r : Res D) (Q : VK) : Prop := match r with
  | .ok d => ∀ F' H' v, Grow F H F' H' → Rep X.K F' v d → Q v H'
  | _ => False
def OpD (X : Cx) (f : Value → Value → Sem Value) (g : D → D → Res D) : Prop :=
  ∀ d1 d2, ∃ r : R2, OpR X f r ∧ ∀ x y F H Q, Same F H → Rd' X.K F H x d1 → Rd' X.K F H y d2 → OutV X F H (g d1 d2) Q → r x y H Q
def dBin (g : D → D → Res D) (f1 f2 : Den) : Den := fun ρ => (f1 ρ).bind fun a => (f2 ρ).bind fun b => g a b
section
variable {X : Cx} {c : Cc} {K : PySem.W.Frag} {F H : Hp}
theorem opNo {f : Value → Value → Sem Value} : OpR X f (fun _ _ _ _ => False) := fun _ _ _ _ _ _ _ _ _ _ _ _ h => h.elim
theorem Out.v {σ : L2.St} {r : Res D} {Q : VK} (o : Out X c σ F H (fun F' _ v d => Rep X.K F' v d) r Q) (h : ∀ x, r ≠ .exn x) : OutV X F H r Q := by
  cases r with
  | ok d => exact o
  | exn x => exact absurd rfl (h x)
  | stuck => exact o
/-- an operator never tells an exception here -/
def NoX2 (g : D → D → Res D) : Prop := ∀ a b x, g a b ≠ .exn x
theorem bin_core {f : Value → Value → Sem Value} {g : D → D → Res D} (ho : OpD X f g) (nx : NoX2 g) {e : Expr} {a b : Expr} {fa fb : Den} (ha : ER X c a fa) (hb : ER X c b fb)
    (rule : ∀ r : R2, OpR X f r → PE X e (tOp r (Wp X a) (Wp X b))) : EJ X c e (dBin g fa fb) := by
  intro ρ σ F H Q S o
  -- the values are known ahead
  have key : ∀ d1 d2, fa ρ = .ok d1 → fb ρ = .ok d2 → Wp X e σ H Q := fun d1 d2 e1 e2 => by
    obtain ⟨r, hr, hq⟩ := ho d1 d2
    refine wp_of (rule r hr) (ha ρ σ F H _ S (o.seq fun a' F1 H1 v q1 g1 r1 o1 => ?_))
    refine hb ρ σ F1 H1 _ (S.grow g1) (o1.seq fun b' F2 H2 u q2 g2 r2 o2 => ?_)
    rw [e1] at q1; rw [e2] at q2; cases q1; cases q2
    exact hq v u F2 H2 Q g2.fh (r1.grow g2) r2 (o2.v (nx _ _))
  cases e1 : fa ρ with
  | ok d1 =>
    cases e2 : fb ρ with
    | ok d2 => exact key d1 d2 e1 e2
    | exn x =>
      refine wp_of (rule _ opNo) (ha ρ σ F H _ S (o.seq fun a' F1 H1 v q1 g1 r1 o1 => ?_))
      refine hb ρ σ F1 H1 _ (S.grow g1) ?_
      rw [e2] at o1 ⊢; exact o1
    | stuck =>
      have o' := o
      unfold dBin at o'
      rw [e1, e2] at o'
      exact o'.elim
  | exn x =>
    refine wp_of (rule _ opNo) (ha ρ σ F H _ S ?_)
    unfold dBin at o
    rw [e1] at o ⊢; exact o
  | stuck =>
    unfold dBin at o
    rw [e1] at o; exact o.elim
theorem ej_bin {op : Operator} {g : D → D → Res D} {a b : Expr} {fa fb : Den} {pos : Pos} (ho : OpD X (binaryOp op) g) (nx : NoX2 g) (ha : ER X c a fa) (hb : ER X c b fb) : EJ X c (.BinOp a op b pos) (dBin g fa fb) :=
  bin_core ho nx ha hb fun _ hr => pe_op hr (pe_wp a) (pe_wp b)
theorem ej_cmp {op : CmpOp} {g : D → D → Res D} {a b : Expr} {fa fb : Den} {pos : Pos} (ho : OpD X (compareOp op) g) (nx : NoX2 g) (ha : ER X c a fa) (hb : ER X c b fb) (hm : behindInMarks op b = false := by first | rfl | exact nomark _) : EJ X c (.Compare a [op] [b] pos) (dBin g fa fb) :=
  bin_core ho nx ha hb fun _ hr => pe_cmpR hr (pe_wp a) (pe_wp b) hm

/-! what a readable value is -/
theorem rd_int {v : V} {i : Int} (h : Rd' K F H v (.int i)) : v = .int i := by
  rcases h with h | ⟨_, _, _, _, e, _⟩
  · cases h; rfl
  · cases e
theorem rd_bl {v : V} {b : Bool} (h : Rd' K F H v (.bl b)) : v = .bl b := by
  rcases h with h | ⟨_, _, _, _, e, _⟩
  · cases h; rfl
  · cases e
theorem rd_non {v : V} (h : Rd' K F H v .non) : v = .non := by
  rcases h with h | ⟨_, _, _, _, e, _⟩
  · cases h; rfl
  · cases e
theorem rd_str {v : V} {x : Str} (h : Rd' K F H v (.str x)) : v = .str x := by
  rcases h with h | ⟨_, _, _, _, e, _⟩
  · cases h; rfl
  · cases e
theorem rd_tup {v : V} {ds : List D} (s : Same F H) (h : Rd' K F H v (.tup ds)) : ∃ a vs, v = .ref a ∧ SqT K F a vs ∧ SqT K H a vs ∧ vs.length ≤ sizeLine ∧ Reps K F vs ds := by
  rcases h with h | ⟨_, _, _, _, e, _⟩
  · cases h with
    | tup h1 h2 h3 => exact ⟨_, _, rfl, h1, sqT_mono s h1, h2, h3⟩
  · cases e
theorem rd_lst {v : V} {ds : List D} (s : Same F H) (h : Rd' K F H v (.lst ds)) : ∃ a vs, v = .ref a ∧ H a = some (.lst vs) ∧ vs.length ≤ sizeLine ∧ Reps K F vs ds := by
  rcases h with h | ⟨a, vs, ds', e0, e, h1, h2, h3⟩
  · cases h with
    | lst h1 h2 h3 => exact ⟨_, _, rfl, s _ _ h1, h2, h3⟩
  · cases e; exact ⟨_, _, e0, h1, h2, h3⟩
theorem rd_klst {v : V} {ds : List D} (s : Same F H) (h : Rd' K F H v (.klst ds)) : ∃ a vs, v = .ref a ∧ SqL K H a vs ∧ vs.length ≤ sizeLine ∧ Reps K F vs ds := by
  rcases h with h | ⟨_, _, _, _, e, _⟩
  · cases h with
    | klst h1 h2 h3 => exact ⟨_, _, rfl, s.seq h1, h2, h3⟩
  · cases e
/-- items of a list or a tuple -/
def D.items : D → Option (List D)
  | .tup ds => some ds
  | .lst ds => some ds
  | .klst ds => some ds
  | _ => none
theorem rd_items {v : V} {d : D} {ds : List D} (s : Same F H) (h : Rd' K F H v d) (e : d.items = some ds) :
    ∃ a vs, v = .ref a ∧ ((SqL K H a vs ∧ d ≠ .tup ds) ∨ (SqT K H a vs ∧ d = .tup ds)) ∧ vs.length ≤ sizeLine ∧ Reps K F vs ds := by
  cases d with
  | tup es =>
    cases e
    obtain ⟨a, vs, h1, h2, h3, h4, h5⟩ := rd_tup s h
    exact ⟨a, vs, h1, .inr ⟨h3, rfl⟩, h4, h5⟩
  | lst es =>
    cases e
    obtain ⟨a, vs, h1, h2, h3, h4⟩ := rd_lst s h
    exact ⟨a, vs, h1, .inl ⟨SqL.of h2, fun z => nomatch z⟩, h3, h4⟩
  | klst es =>
    cases e
    obtain ⟨a, vs, h1, h2, h3, h4⟩ := rd_klst s h
    exact ⟨a, vs, h1, .inl ⟨h2, fun z => nomatch z⟩, h3, h4⟩
  | _ => cases e
theorem OutV.here {d : D} {v : V} {Q : VK} (o : OutV X F H (.ok d) Q) (s : Same F H) (r : Rep X.K F v d) : Q v H := o F H v (Grow.refl s) r
/-- a new tuple -/
theorem OutV.newT {ds : List D} {vs : List V} {Q : VK} (o : OutV X F H (.ok (.tup ds)) Q) (s : Same F H) (z : vs.length ≤ sizeLine) (r : Reps X.K F vs ds) (p : Addr) (hp : H p = none) : Q (.ref p) (upd H p (.tup vs)) := by
  have gg := (Grow.refl s).alloc (p := p) (o := .tup vs) hp
  exact o _ _ _ gg (.tup (SqT.of upd_same) z (r.mono gg.f))
theorem OutV.newL {ds : List D} {vs : List V} {Q : VK} (o : OutV X F H (.ok (.lst ds)) Q) (s : Same F H) (z : vs.length ≤ sizeLine) (r : Reps X.K F vs ds) (p : Addr) (hp : H p = none) : Q (.ref p) (upd H p (.lst vs)) := by
  have gg := (Grow.refl s).alloc (p := p) (o := .lst vs) hp
  exact o _ _ _ gg (.lst upd_same z (r.mono gg.f))

/-! ### + - * // % ** -/
def addD : D → D → Res D
  | .int i, .int j => .ok (.int (i + j))
  | .str x, .str y => if x.length + y.length ≤ sizeLine then .ok (.str (x ++ y)) else .stuck
  | .tup xs, .tup ys => if xs.length + ys.length ≤ sizeLine then .ok (.tup (xs ++ ys)) else .stuck
  | .lst xs, .lst ys => if xs.length + ys.length ≤ sizeLine then .ok (.lst (xs ++ ys)) else .stuck
  | _, _ => .stuck
theorem add_nx : NoX2 addD := fun a b x => by unfold addD; split <;> first | (intro h; cases h; done) | (split <;> (intro h; cases h))
theorem add_op : OpD X (binaryOp .Add) addD := by
  intro d1 d2
  unfold addD
  split
  · refine ⟨_, op_add, fun x y F H Q s r1 r2 o => ?_⟩
    rw [rd_int r1, rd_int r2]
    exact ⟨_, _, rfl, rfl, o.here s (.int _)⟩
  · refine ⟨_, op_add_str, fun x y F H Q s r1 r2 o => ?_⟩
    split at o
    · rw [rd_str r1, rd_str r2]
      exact ⟨_, _, rfl, rfl, by assumption, o.here s (.str _)⟩
    · exact o.elim
  · refine ⟨_, op_catA, fun x y F H Q s r1 r2 o => ?_⟩
    split at o
    · rename_i z
      obtain ⟨a, vs, rfl, h1, h1', z1, q1⟩ := rd_tup s r1
      obtain ⟨b, ws, rfl, h2, h2', z2, q2⟩ := rd_tup s r2
      have l1 := q1.length
      have l2 := q2.length
      have zz : vs.length + ws.length ≤ sizeLine := by omega
      refine ⟨a, b, vs, ws, rfl, rfl, h1', h2', zz, fun e => ?_, fun e e2 => ?_, fun _ _ p hp => o.newT s (by rw [List.length_append]; exact zz) (q1.append q2) p hp⟩
      · subst e; cases q1; exact o.here s (.tup h2 z2 q2)
      · subst e2; cases q2; rw [List.append_nil] at o; exact o.here s (.tup h1 z1 q1)
    · exact o.elim
  · refine ⟨_, op_cat, fun x y F H Q s r1 r2 o => ?_⟩
    split at o
    · rename_i z
      obtain ⟨a, vs, rfl, h1, z1, q1⟩ := rd_lst s r1
      obtain ⟨b, ws, rfl, h2, z2, q2⟩ := rd_lst s r2
      have l1 := q1.length
      have l2 := q2.length
      have zz : vs.length + ws.length ≤ sizeLine := by omega
      exact ⟨a, b, vs, ws, rfl, rfl, h1, h2, zz, fun p hp => o.newL s (by rw [List.length_append]; exact zz) (q1.append q2) p hp⟩
    · exact o.elim
  · exact ⟨_, opNo, fun _ _ _ _ _ _ _ _ o => o⟩
def subD : D → D → Res D
  | .int i, .int j => .ok (.int (i - j))
  | _, _ => .stuck
theorem sub_nx : NoX2 subD := fun a b x => by unfold subD; split <;> (intro h; cases h)
theorem sub_op : OpD X (binaryOp .Sub) subD := by
  intro d1 d2
  unfold subD
  split
  · refine ⟨_, op_sub, fun x y F H Q s r1 r2 o => ?_⟩
    rw [rd_int r1, rd_int r2]
    exact ⟨_, _, rfl, rfl, o.here s (.int _)⟩
  · exact ⟨_, opNo, fun _ _ _ _ _ _ _ _ o => o⟩
def MulOk (i j : Int) : Prop := CMul i j ∨ CMulW i j
open Classical in
noncomputable def mulD : D → D → Res D
  | .int i, .int j => if MulOk i j then .ok (.int (i * j)) else .stuck
  | .lst xs, .int k => if -(2 ^ 63) ≤ k ∧ k < 2 ^ 63 ∧ xs.length * k.toNat ≤ sizeLine then .ok (.lst (List.replicate k.toNat xs).flatten) else .stuck
  | _, _ => .stuck
theorem mul_nx : NoX2 mulD := fun a b x => by unfold mulD; split <;> first | (intro h; cases h; done) | (split <;> (intro h; cases h))
theorem reps_rep {vs : List V} {ds : List D} (r : Reps K F vs ds) : ∀ k : Nat, Reps K F (List.replicate k vs).flatten (List.replicate k ds).flatten
  | 0 => .nil
  | k + 1 => by
    rw [List.replicate_succ, List.replicate_succ, List.flatten_cons, List.flatten_cons]
    exact r.append (reps_rep r k)
theorem flat_len {α : Type} (xs : List α) : ∀ k : Nat, (List.replicate k xs).flatten.length = xs.length * k
  | 0 => by simp
  | k + 1 => by rw [List.replicate_succ, List.flatten_cons, List.length_append, flat_len xs k, Nat.mul_succ]; omega
theorem mul_op : OpD X (binaryOp .Mult) mulD := by
  intro d1 d2
  unfold mulD
  split
  · rename_i i j
    by_cases z : CMul i j
    · refine ⟨_, op_mul, fun x y F H Q s r1 r2 o => ?_⟩
      rw [if_pos (.inl z)] at o
      rw [rd_int r1, rd_int r2]
      exact ⟨_, _, rfl, rfl, z, o.here s (.int _)⟩
    · refine ⟨_, op_mulW, fun x y F H Q s r1 r2 o => ?_⟩
      by_cases z2 : CMulW i j
      · rw [if_pos (.inr z2)] at o
        rw [rd_int r1, rd_int r2]
        exact ⟨_, _, rfl, rfl, z2, o.here s (.int _)⟩
      · rw [if_neg (fun h => h.elim z z2)] at o; exact o.elim
  · rename_i xs k
    refine ⟨_, op_rep, fun x y F H Q s r1 r2 o => ?_⟩
    split at o
    · rename_i z
      obtain ⟨a, vs, rfl, h1, z1, q1⟩ := rd_lst s r1
      rw [rd_int r2]
      have l1 := q1.length
      have zz : vs.length * k.toNat ≤ sizeLine := by rw [l1]; exact z.2.2
      exact ⟨a, _, vs, rfl, rfl, h1, z.1, z.2.1, zz, fun p hp => o.newL s (by rw [flat_len]; exact zz) (reps_rep q1 _) p hp⟩
    · exact o.elim
  · exact ⟨_, opNo, fun _ _ _ _ _ _ _ _ o => o⟩
/-- // by any number but nought of less than 9000 bits -/
def DivOk (j : Int) : Prop := j ≠ 0 ∧ j.natAbs.log2 < 9000
open Classical in
noncomputable def fdivD : D → D → Res D
  | .int i, .int j => if DivOk j then .ok (.int (i.fdiv j)) else .stuck
  | _, _ => .stuck
theorem fdiv_nx : NoX2 fdivD := fun a b x => by unfold fdivD; split <;> first | (intro h; cases h; done) | (split <;> (intro h; cases h))
theorem op_fdivX : OpR X (binaryOp .FloorDiv) (rI (fun _ j => DivOk j) fun i j => .int (i.fdiv j)) := opI fun i j _ _ _ _ _ hc q =>
  floordiv_int hc.1 q (.inl (PyProof.noPylong_of_log2 hc.2))
theorem fdiv_op : OpD X (binaryOp .FloorDiv) fdivD := by
  intro d1 d2
  unfold fdivD
  split
  · refine ⟨_, op_fdivX, fun x y F H Q s r1 r2 o => ?_⟩
    split at o
    · rw [rd_int r1, rd_int r2]
      exact ⟨_, _, rfl, rfl, by assumption, o.here s (.int _)⟩
    · exact o.elim
  · exact ⟨_, opNo, fun _ _ _ _ _ _ _ _ o => o⟩
def modD : D → D → Res D
  | .int i, .int j => if 0 < j then .ok (.int (i % j)) else .stuck
  | _, _ => .stuck
theorem mod_nx : NoX2 modD := fun a b x => by unfold modD; split <;> first | (intro h; cases h; done) | (split <;> (intro h; cases h))
theorem mod_op : OpD X (binaryOp .Mod) modD := by
  intro d1 d2
  unfold modD
  split
  · refine ⟨_, op_mod, fun x y F H Q s r1 r2 o => ?_⟩
    split at o
    · rw [rd_int r1, rd_int r2]
      exact ⟨_, _, rfl, rfl, by assumption, o.here s (.int _)⟩
    · exact o.elim
  · exact ⟨_, opNo, fun _ _ _ _ _ _ _ _ o => o⟩
def PowOk (i j : Int) : Prop := 0 ≤ j ∧ j ≤ 1000000 ∧ i.natAbs < 18446744073709551616
open Classical in
noncomputable def powD : D → D → Res D
  | .int i, .int j => if PowOk i j then .ok (.int (i ^ j.toNat)) else .stuck
  | _, _ => .stuck
theorem pow_nx : NoX2 powD := fun a b x => by unfold powD; split <;> first | (intro h; cases h; done) | (split <;> (intro h; cases h))
theorem pow_op : OpD X (binaryOp .Pow) powD := by
  intro d1 d2
  unfold powD
  split
  · refine ⟨_, op_pow, fun x y F H Q s r1 r2 o => ?_⟩
    split at o
    · rename_i z
      rw [rd_int r1, rd_int r2]
      exact ⟨_, _, rfl, rfl, ⟨z.1, z.2.1, z.2.2⟩, o.here s (.int _)⟩
    · exact o.elim
  · exact ⟨_, opNo, fun _ _ _ _ _ _ _ _ o => o⟩

/-! ### comparisons of ints; == != of data; in; is None -/
def cmpD (p : Int → Int → Bool) : D → D → Res D
  | .int i, .int j => .ok (.bl (p i j))
  | _, _ => .stuck
theorem cmp_nx {p : Int → Int → Bool} : NoX2 (cmpD p) := fun a b x => by unfold cmpD; split <;> (intro h; cases h)
theorem cmp_op {f : Value → Value → Sem Value} {p : Int → Int → Bool} (h : OpR X f (rI0 fun i j => .bl (p i j))) : OpD X f (cmpD p) := by
  intro d1 d2
  unfold cmpD
  split
  · refine ⟨_, h, fun x y F H Q s r1 r2 o => ?_⟩
    rw [rd_int r1, rd_int r2]
    exact ⟨_, _, rfl, rfl, o.here s (.bl _)⟩
  · exact ⟨_, opNo, fun _ _ _ _ _ _ _ _ o => o⟩
def ltD := cmpD fun i j => decide (i < j)
def leD := cmpD fun i j => decide (i ≤ j)
def gtD := cmpD fun i j => decide (j < i)
def geD := cmpD fun i j => decide (j ≤ i)
theorem lt_op : OpD X (compareOp .Lt) ltD := cmp_op op_lt
theorem le_op : OpD X (compareOp .LtE) leD := cmp_op op_le
theorem gt_op : OpD X (compareOp .Gt) gtD := cmp_op op_gt
theorem ge_op : OpD X (compareOp .GtE) geD := cmp_op op_ge

mutual
def toP : D → Option PyData
  | .non => some .none
  | .bl b => some (.bool b)
  | .int i => some (.int i)
  | .str x => some (.str x)
  | .tup ds => (toPs ds).map .tuple
  | .lst ds => (toPs ds).map .list
  | .klst ds => (toPs ds).map .list
  | .exn _ => none
def toPs : List D → Option (List PyData)
  | [] => some []
  | d :: ds => match toP d, toPs ds with
    | some p, some ps => some (p :: ps)
    | _, _ => none
end
mutual
theorem rep_dp (s : Same F H) : ∀ {d : D} {v : V} {p : PyData}, Rep K F v d → toP d = some p → Dp K H v p
  | .non, _, _, h, e => by cases h; simp only [toP] at e; cases e; exact .non
  | .bl b, _, _, h, e => by cases h; simp only [toP] at e; cases e; exact .bl b
  | .int i, _, _, h, e => by cases h; simp only [toP] at e; cases e; exact .int i
  | .str x, _, _, h, e => by cases h; simp only [toP] at e; cases e; exact .str x
  | .tup ds, _, _, h, e => by
    cases h with
    | tup h1 h2 h3 =>
      simp only [toP] at e
      obtain ⟨ps, e1, e2⟩ := Option.map_eq_some_iff.mp e
      subst e2
      exact .tup (sqT_mono s h1) (reps_dp s h3 e1)
  | .lst ds, _, _, h, e => by
    cases h with
    | lst h1 h2 h3 =>
      simp only [toP] at e
      obtain ⟨ps, e1, e2⟩ := Option.map_eq_some_iff.mp e
      subst e2
      exact .lst (SqL.of (s _ _ h1)) (reps_dp s h3 e1)
  | .klst ds, _, _, h, e => by
    cases h with
    | klst h1 h2 h3 =>
      simp only [toP] at e
      obtain ⟨ps, e1, e2⟩ := Option.map_eq_some_iff.mp e
      subst e2
      exact .lst (s.seq h1) (reps_dp s h3 e1)
  | .exn _, _, _, h, e => by cases h
theorem reps_dp (s : Same F H) : ∀ {ds : List D} {vs : List V} {ps : List PyData}, Reps K F vs ds → toPs ds = some ps → DpAll K H vs ps
  | [], _, _, h, e => by cases h; simp only [toPs] at e; cases e; exact .nil
  | d :: ds, _, _, h, e => by
    cases h with
    | cons h1 h2 =>
      simp only [toPs] at e
      split at e
      · rename_i p ps e1 e2
        cases e
        exact .cons (rep_dp s h1 e1) (reps_dp s h2 e2)
      · cases e
end
theorem rd_dp {d : D} {v : V} {p : PyData} (s : Same F H) (h : Rd' K F H v d) (e : toP d = some p) : Dp K H v p := by
  rcases h with h | ⟨a, vs, ds, e0, e1, h1, h2, h3⟩
  · exact rep_dp s h e
  · subst e0; subst e1
    simp only [toP] at e
    obtain ⟨ps, e1, e2⟩ := Option.map_eq_some_iff.mp e
    subst e2
    exact .lst (SqL.of h1) (reps_dp s h3 e1)
/-- == as the program has it, where both are data -/
def eqB (d1 d2 : D) : Option Bool := match toP d1, toP d2 with
  | some p, some q => if SeqAt.shaped p = true ∧ SeqAt.shaped q = true then some (PyData.eqv p q) else none
  | _, _ => none
def eqD (d1 d2 : D) : Res D := match eqB d1 d2 with
  | some b => .ok (.bl b)
  | none => .stuck
def neD (d1 d2 : D) : Res D := match eqB d1 d2 with
  | some b => .ok (.bl (!b))
  | none => .stuck
theorem eq_nx : NoX2 eqD := fun a b x => by unfold eqD; split <;> (intro h; cases h)
theorem ne_nx : NoX2 neD := fun a b x => by unfold neD; split <;> (intro h; cases h)
theorem eqB_some {d1 d2 : D} {b : Bool} (h : eqB d1 d2 = some b) : ∃ p q, toP d1 = some p ∧ toP d2 = some q ∧ SeqAt.shaped p = true ∧ SeqAt.shaped q = true ∧ b = PyData.eqv p q := by
  unfold eqB at h
  split at h
  · rename_i p q e1 e2
    split at h
    · rename_i z; cases h; exact ⟨p, q, e1, e2, z.1, z.2, rfl⟩
    · cases h
  · cases h
theorem eq_op (hu : X.A.units + 64 < cLine) : OpD X (compareOp .Eq) eqD := by
  intro d1 d2
  refine ⟨_, op_eqD hu, fun x y F H Q s r1 r2 o => ?_⟩
  unfold eqD at o
  split at o
  · rename_i b e
    obtain ⟨p, q, e1, e2, z1, z2, rfl⟩ := eqB_some e
    exact ⟨p, q, rd_dp s r1 e1, rd_dp s r2 e2, z1, z2, o.here s (.bl _)⟩
  · exact o.elim
theorem ne_op (hu : X.A.units + 64 < cLine) : OpD X (compareOp .NotEq) neD := by
  intro d1 d2
  refine ⟨_, op_neD hu, fun x y F H Q s r1 r2 o => ?_⟩
  unfold neD at o
  split at o
  · rename_i b e
    obtain ⟨p, q, e1, e2, z1, z2, rfl⟩ := eqB_some e
    exact ⟨p, q, rd_dp s r1 e1, rd_dp s r2 e2, z1, z2, o.here s (.bl _)⟩
  · exact o.elim
/-- x in a list of data; a text in a text -/
def inB (d1 d2 : D) : Option Bool := match d1, d2 with
  | .str x, .str y => some (!(Builtin.Str.occurrences y x 0 y.length 1).isEmpty)
  | d, e => match toP d, toP e with
    | some p, some (.list qs) => if SeqAt.shaped p = true ∧ SeqAt.shaped (.list qs) = true then some (qs.any fun z => PyData.eqv z p) else none
    | _, _ => none
def inD (d1 d2 : D) : Res D := match inB d1 d2 with
  | some b => .ok (.bl b)
  | none => .stuck
def notInD (d1 d2 : D) : Res D := match inB d1 d2 with
  | some b => .ok (.bl (!b))
  | none => .stuck
theorem in_nx : NoX2 inD := fun a b x => by unfold inD; split <;> (intro h; cases h)
theorem notIn_nx : NoX2 notInD := fun a b x => by unfold notInD; split <;> (intro h; cases h)
theorem inB_str {x y : Str} : inB (.str x) (.str y) = some (!(Builtin.Str.occurrences y x 0 y.length 1).isEmpty) := rfl
theorem inB_some {d1 d2 : D} {b : Bool} (h : inB d1 d2 = some b) (n : ¬ ∃ x y, d1 = .str x ∧ d2 = .str y) : ∃ p qs, toP d1 = some p ∧ toP d2 = some (.list qs) ∧ SeqAt.shaped p = true ∧ SeqAt.shaped (.list qs) = true ∧ b = (qs.any fun z => PyData.eqv z p) := by
  unfold inB at h
  split at h
  · exact absurd ⟨_, _, rfl, rfl⟩ n
  · split at h
    · rename_i p qs e1 e2
      split at h
      · rename_i z; cases h; exact ⟨p, qs, e1, e2, z.1, z.2, rfl⟩
      · cases h
    · cases h
theorem in_op (hu : X.A.units + 65 < cLine) : OpD X (compareOp .In) inD := by
  intro d1 d2
  by_cases n : ∃ x y, d1 = .str x ∧ d2 = .str y
  · obtain ⟨x, y, rfl, rfl⟩ := n
    refine ⟨_, op_in_str, fun v u F H Q s r1 r2 o => ?_⟩
    rw [rd_str r1, rd_str r2]
    exact ⟨x, y, rfl, rfl, o.here s (.bl _)⟩
  · refine ⟨_, op_inD hu, fun x y F H Q s r1 r2 o => ?_⟩
    unfold inD at o
    split at o
    · rename_i b e
      obtain ⟨p, qs, e1, e2, z1, z2, rfl⟩ := inB_some e n
      exact ⟨p, qs, rd_dp s r1 e1, rd_dp s r2 e2, z1, z2, o.here s (.bl _)⟩
    · exact o.elim
theorem notIn_op (hu : X.A.units + 65 < cLine) : OpD X (compareOp .NotIn) notInD := by
  intro d1 d2
  by_cases n : ∃ x y, d1 = .str x ∧ d2 = .str y
  · obtain ⟨x, y, rfl, rfl⟩ := n
    refine ⟨_, L2.op_notin_str, fun v u F H Q s r1 r2 o => ?_⟩
    rw [rd_str r1, rd_str r2]
    exact ⟨x, y, rfl, rfl, o.here s (.bl _)⟩
  · refine ⟨_, op_notInD hu, fun x y F H Q s r1 r2 o => ?_⟩
    unfold notInD at o
    split at o
    · rename_i b e
      obtain ⟨p, qs, e1, e2, z1, z2, rfl⟩ := inB_some e n
      exact ⟨p, qs, rd_dp s r1 e1, rd_dp s r2 e2, z1, z2, o.here s (.bl _)⟩
    · exact o.elim
/-- is None, is not None -/
def D.isNon : D → Bool
  | .non => true
  | _ => false
def isD (d1 d2 : D) : Res D := match d2 with
  | .non => .ok (.bl d1.isNon)
  | _ => .stuck
def isNotD (d1 d2 : D) : Res D := match d2 with
  | .non => .ok (.bl (!d1.isNon))
  | _ => .stuck
theorem is_nx : NoX2 isD := fun a b x => by unfold isD; split <;> (intro h; cases h)
theorem isNot_nx : NoX2 isNotD := fun a b x => by unfold isNotD; split <;> (intro h; cases h)
theorem rd_isNon {v : V} {d : D} (h : Rd' K F H v d) : decide (v = .non) = d.isNon := by
  rcases h with h | ⟨_, _, _, e0, e1, _⟩
  · cases h <;> rfl
  · subst e0; subst e1; rfl
theorem is_op : OpD X (compareOp .Is) isD := by
  intro d1 d2
  refine ⟨_, op_isN, fun x y F H Q s r1 r2 o => ?_⟩
  unfold isD at o
  split at o
  · exact ⟨rd_non r2, by rw [rd_isNon r1]; exact o.here s (.bl _)⟩
  · exact o.elim
theorem isNot_op : OpD X (compareOp .IsNot) isNotD := by
  intro d1 d2
  refine ⟨_, op_notN, fun x y F H Q s r1 r2 o => ?_⟩
  unfold isNotD at o
  split at o
  · exact ⟨rd_non r2, by rw [rd_isNon r1]; exact o.here s (.bl _)⟩
  · exact o.elim
end
end FV

set_option maxHeartbeats 4000000
/-! FV3: subscripts, slices, tests, and or not, calls. -/
namespace FV
open PySem PySem.Spec PyProof.Rows L2
section
variable {X : Cx} {c : Cc} {K : PySem.W.Frag} {F H : Hp} {pos : Pos}

/-! ### subscripts -/
def ixD : D → D → Res D
  | .str z, .int i => if z.length ≤ sizeLine then (match atI z.cps.toList i with | some k => .ok (.str ⟨#[k]⟩) | none => .stuck) else .stuck
  | d, .int i => match d.items with
    | some ds => (match atI ds i with | some e => .ok e | none => .stuck)
    | none => .stuck
  | _, _ => .stuck
theorem ix_nx : NoX2 ixD := fun a b x => by unfold ixD; split <;> (repeat' split) <;> (intro h; cases h)
theorem at_rel {vs : List V} {ds : List D} {i : Int} {d : D} (r : Reps K F vs ds) (h : atI ds i = some d) : ∃ v, atI vs i = some v ∧ Rep K F v d := by
  unfold atI at h ⊢
  rw [r.length]
  cases e : ixN ds.length i with
  | none => rw [e] at h; cases h
  | some j =>
    rw [e] at h
    obtain ⟨v, h1, h2⟩ := r.get (i := j) (d := d) h
    exact ⟨v, h1, h2⟩
def IxD (X : Cx) (g : D → D → Res D) : Prop :=
  ∀ d1 d2, ∃ r : R2, IxR X r ∧ ∀ x y F H Q, Same F H → Rd' X.K F H x d1 → Rd' X.K F H y d2 → OutV X F H (g d1 d2) Q → r x y H Q
theorem ixNo : IxR X (fun _ _ _ _ => False) := fun _ _ _ _ _ _ _ _ _ _ _ _ _ _ h => h.elim
theorem ix_ok : IxD X ixD := by
  intro d1 d2
  unfold ixD
  split
  · rename_i z i
    refine ⟨_, ix_str, fun x y F H Q s r1 r2 o => ?_⟩
    split at o
    · rename_i hz
      split at o
      · rename_i k e
        rw [rd_str r1, rd_int r2]
        exact ⟨z, i, k, rfl, rfl, hz, e, o.here s (.str _)⟩
      · exact o.elim
    · exact o.elim
  · rename_i i _
    split
    · rename_i ds e
      refine ⟨_, ix_seq, fun x y F H Q s r1 r2 o => ?_⟩
      split at o
      · rename_i d he
        obtain ⟨a, vs, rfl, h1, h2, h3⟩ := rd_items s r1 e
        rw [rd_int r2]
        obtain ⟨v, h4, h5⟩ := at_rel h3 he
        rcases h1 with ⟨h1, _⟩ | ⟨h1, _⟩
        · exact .inl ⟨a, vs, i, v, rfl, rfl, h1, h4, o.here s h5⟩
        · exact .inr (.inl ⟨a, vs, i, v, rfl, rfl, h1, h4, o.here s h5⟩)
      · exact o.elim
    · exact ⟨_, ixNo, fun _ _ _ _ _ _ _ _ o => o⟩
  · exact ⟨_, ixNo, fun _ _ _ _ _ _ _ _ o => o⟩
theorem two_core {P : R2 → Prop} (hno : P (fun _ _ _ _ => False)) {g : D → D → Res D} (ho : ∀ d1 d2, ∃ r : R2, P r ∧ ∀ x y F H Q, Same F H → Rd' X.K F H x d1 → Rd' X.K F H y d2 → OutV X F H (g d1 d2) Q → r x y H Q)
    (nx : NoX2 g) {e : Expr} {a b : Expr} {fa fb : Den} (ha : ER X c a fa) (hb : ER X c b fb) (rule : ∀ r : R2, P r → PE X e (tOp r (Wp X a) (Wp X b))) : EJ X c e (dBin g fa fb) := by
  intro ρ σ F H Q S o
  have key : ∀ d1 d2, fa ρ = .ok d1 → fb ρ = .ok d2 → Wp X e σ H Q := fun d1 d2 e1 e2 => by
    obtain ⟨r, hr, hq⟩ := ho d1 d2
    refine wp_of (rule r hr) (ha ρ σ F H _ S (o.seq fun a' F1 H1 v q1 g1 r1 o1 => ?_))
    refine hb ρ σ F1 H1 _ (S.grow g1) (o1.seq fun b' F2 H2 u q2 g2 r2 o2 => ?_)
    rw [e1] at q1; rw [e2] at q2; cases q1; cases q2
    exact hq v u F2 H2 Q g2.fh (r1.grow g2) r2 (o2.v (nx _ _))
  cases e1 : fa ρ with
  | ok d1 =>
    cases e2 : fb ρ with
    | ok d2 => exact key d1 d2 e1 e2
    | exn x =>
      refine wp_of (rule _ hno) (ha ρ σ F H _ S (o.seq fun a' F1 H1 v q1 g1 r1 o1 => ?_))
      refine hb ρ σ F1 H1 _ (S.grow g1) ?_
      rw [e2] at o1 ⊢; exact o1
    | stuck =>
      have o' := o
      unfold dBin at o'
      rw [e1, e2] at o'
      exact o'.elim
  | exn x =>
    refine wp_of (rule _ hno) (ha ρ σ F H _ S ?_)
    unfold dBin at o
    rw [e1] at o ⊢; exact o
  | stuck =>
    unfold dBin at o
    rw [e1] at o; exact o.elim
theorem ej_ix {a b : Expr} {fa fb : Den} (ha : ER X c a fa) (hb : ER X c b fb) (hs : PlainIx b := by exact fun _ _ => rfl) : EJ X c (.Subscript a b pos) (dBin ixD fa fb) :=
  two_core ixNo ix_ok ix_nx ha hb fun _ hr => pe_ix hr (pe_wp a) (pe_wp b) hs

/-! ### slices a[lo:hi] -/
abbrev DenO := En → Res (Option Int)
structure OJ (X : Cx) (c : Cc) (e : Option Expr) (f : DenO) : Prop where
  run : ∃ t : TO, PO X e t ∧ ∀ ρ σ F H (Q : Option Int → Hp → Prop), Sim X.K c.F0 c.H0 F H ρ σ → Out X c σ F H (fun _ _ (v : Option Int) d => v = d) (f ρ) Q → t σ H Q
def oNone : DenO := fun _ => .ok none
def oSome (f : Den) : DenO := fun ρ => (f ρ).bind fun d => match d with
  | .int i => .ok (some i)
  | _ => .stuck
theorem oj_none : OJ X c none oNone := ⟨_, po_none, fun ρ σ F H Q S o => o F H none (Grow.refl S.g.fh) rfl⟩
theorem oj_some {e : Expr} {f : Den} (h : ER X c e f) : OJ X c (some e) (oSome f) := ⟨_, po_some (pe_wp e), fun ρ σ F H Q S o => h ρ σ F H _ S (o.seq fun d F1 H1 v _ g1 r1 o1 => by
  cases d with
  | int i => exact ⟨i, rd_int r1, o1 F1 H1 _ (Grow.refl g1.fh) rfl⟩
  | _ => exact o1.elim)⟩
def cutD (xs : List D) (lo hi : Option Int) : List D := (xs.drop (HT.sIx xs.length 0 lo)).take (HT.sIx xs.length xs.length hi - HT.sIx xs.length 0 lo)
theorem cut_rel {vs : List V} {ds : List D} {lo hi : Option Int} (r : Reps K F vs ds) : Reps K F (cutV vs lo hi) (cutD ds lo hi) := by
  unfold cutV cutD
  rw [r.length]
  exact (r.drop _).take _
theorem cutD_all (xs : List D) (lo hi : Option Int) (h1 : HT.sIx xs.length 0 lo = 0) (h2 : HT.sIx xs.length xs.length hi = xs.length) : cutD xs lo hi = xs := by
  unfold cutD; rw [h1, h2]; simp
def sliceD (d : D) (lo hi : Option Int) : Res D := match d with
  | .tup ds => .ok (.tup (cutD ds lo hi))
  | .lst ds => .ok (.lst (cutD ds lo hi))
  | .klst ds => .ok (.lst (cutD ds lo hi))
  | _ => .stuck
def dSl (f : Den) (l h : DenO) : Den := fun ρ => (f ρ).bind fun d => (l ρ).bind fun lo => (h ρ).bind fun hi => sliceD d lo hi
def SlD (X : Cx) (d : D) : Prop := ∃ r, SlR X r ∧ ∀ x lo hi F H Q, Same F H → Rd' X.K F H x d → OutV X F H (sliceD d lo hi) Q → r x lo hi H Q
theorem sl_ok (d : D) : SlD X d := by
  have no : SlR X (fun _ _ _ _ _ => False) := fun _ _ _ _ _ _ _ _ _ _ _ _ _ _ _ _ _ h => h.elim
  cases d with
  | tup ds =>
    refine ⟨_, sl_tupA, fun x lo hi F H Q s r o => ?_⟩
    obtain ⟨a, vs, rfl, h1, h2, h3, h4⟩ := rd_tup s r
    have o : OutV X F H (.ok (.tup (cutD ds lo hi))) Q := o
    refine ⟨a, vs, rfl, h2, fun z => ?_, fun z p hp => o.newT s (Nat.le_trans (cutV_length _ _ _) h3) (cut_rel h4) p hp⟩
    rw [h4.length] at z
    rw [cutD_all ds lo hi z.1 z.2] at o
    exact o.here s (.tup h1 h3 h4)
  | lst ds =>
    refine ⟨_, sl_list, fun x lo hi F H Q s r o => ?_⟩
    obtain ⟨a, vs, rfl, h1, h3, h4⟩ := rd_lst s r
    exact ⟨a, vs, rfl, SqL.of h1, fun p hp => OutV.newL (X := X) (ds := cutD ds lo hi) o s (Nat.le_trans (cutV_length _ _ _) h3) (cut_rel h4) p hp⟩
  | klst ds =>
    refine ⟨_, sl_list, fun x lo hi F H Q s r o => ?_⟩
    obtain ⟨a, vs, rfl, h1, h3, h4⟩ := rd_klst s r
    exact ⟨a, vs, rfl, h1, fun p hp => OutV.newL (X := X) (ds := cutD ds lo hi) o s (Nat.le_trans (cutV_length _ _ _) h3) (cut_rel h4) p hp⟩
  | _ => exact ⟨_, no, fun _ _ _ _ _ _ _ _ o => o⟩
theorem slice_nx (d : D) (lo hi : Option Int) (x : Str) : sliceD d lo hi ≠ .exn x := by unfold sliceD; split <;> (intro h; cases h)
theorem ej_slice {e : Expr} {f : Den} {lo hi : Option Expr} {fl fh : DenO} {p2 : Pos} (he : ER X c e f) (hl : OJ X c lo fl) (hh : OJ X c hi fh) : EJ X c (.Subscript e (.Slice lo hi none p2) pos) (dSl f fl fh) := by
  intro ρ σ F H Q S o
  obtain ⟨tl, pl, ql⟩ := hl.run
  obtain ⟨th, ph, qh⟩ := hh.run
  cases e1 : f ρ with
  | ok d =>
    obtain ⟨r, hr, hq⟩ := sl_ok (X := X) d
    refine wp_of (pe_slice hr (pe_wp e) pl ph) (he ρ σ F H _ S (o.seq fun d' F1 H1 v q1 g1 r1 o1 => ?_))
    refine ql ρ σ F1 H1 _ (S.grow g1) (o1.seq fun lo' F2 H2 l' _ g2 r2 o2 => ?_)
    refine qh ρ σ F2 H2 _ ((S.grow g1).grow g2) (o2.seq fun hi' F3 H3 h' _ g3 r3 o3 => ?_)
    subst r2; subst r3
    rw [e1] at q1; cases q1
    exact hq v l' h' F3 H3 Q g3.fh ((r1.grow g2).grow g3) (o3.v (slice_nx _ _ _))
  | exn x =>
    have no : SlR X (fun _ _ _ _ _ => False) := fun _ _ _ _ _ _ _ _ _ _ _ _ _ _ _ _ _ h => h.elim
    refine wp_of (pe_slice no (pe_wp e) pl ph) (he ρ σ F H _ S ?_)
    unfold dSl at o
    rw [e1] at o ⊢; exact o
  | stuck => unfold dSl at o; rw [e1] at o; exact o.elim

/-! ### - and the tests -/
def negD : D → Res D
  | .int i => .ok (.int (-i))
  | _ => .stuck
def dUn (g : D → Res D) (f : Den) : Den := fun ρ => (f ρ).bind g
theorem ej_neg {a : Expr} {f : Den} (h : ER X c a f) : EJ X c (.UnaryOp .USub a pos) (dUn negD f) := by
  intro ρ σ F H Q S o
  refine wp_of (pe_un un_neg (pe_wp a)) (h ρ σ F H _ S (o.seq fun d F1 H1 v _ g1 r1 o1 => ?_))
  cases d with
  | int i => exact ⟨i, rd_int r1, OutV.here (X := X) (o1.v (fun x z => nomatch z)) g1.fh (.int _)⟩
  | _ => exact o1.elim
/-- a truth as a test -/
def asB : D → Res Bool
  | .bl b => .ok b
  | _ => .stuck
def tVal (f : Den) : En → Res Bool := fun ρ => (f ρ).bind asB
theorem asB_ok {r : Res D} {σ : L2.St} {F H : Hp} {Q : Bool → Hp → Prop} (o : Out X c σ F H (fun _ _ (v : Bool) d => v = d) (r.bind asB) Q) :
    Out X c σ F H (fun F' H' v d => Rd' X.K F' H' v d) r (fun x H' => ∃ k, x = .bl k ∧ Q k H') := o.seq fun d F1 H1 v _ g1 r1 o1 => by
  cases d with
  | bl b => exact ⟨b, rd_bl r1, o1 F1 H1 b (Grow.refl g1.fh) rfl⟩
  | _ => exact o1.elim
theorem tj_cmp {op : CmpOp} {g : D → D → Res D} {a b : Expr} {fa fb : Den} (ho : OpD X (compareOp op) g) (nx : NoX2 g) (ha : ER X c a fa) (hb : ER X c b fb) (hm : behindInMarks op b = false := by first | rfl | exact nomark _) : TJ X c (.Compare a [op] [b] pos) (tVal (dBin g fa fb)) := by
  intro ρ σ F H Q S o
  have o' := asB_ok (X := X) (c := c) o
  -- the comparison by the core with the test's end
  have key : ∀ d1 d2, fa ρ = .ok d1 → fb ρ = .ok d2 → WpT X (.Compare a [op] [b] pos) σ H Q := fun d1 d2 e1 e2 => by
    obtain ⟨r, hr, hq⟩ := ho d1 d2
    refine wpt_of (pt_cmpR hr (pe_wp a) (pe_wp b) hm) (ha ρ σ F H _ S (o'.seq fun a' F1 H1 v q1 g1 r1 o1 => ?_))
    refine hb ρ σ F1 H1 _ (S.grow g1) (o1.seq fun b' F2 H2 u q2 g2 r2 o2 => ?_)
    rw [e1] at q1; rw [e2] at q2; cases q1; cases q2
    refine hq v u F2 H2 _ g2.fh (r1.grow g2) r2 ?_
    have o3 := o2.mono (R' := fun F' _ v d => Rep X.K F' v d) fun _ _ _ _ _ r => .inl r
    exact o3.v (nx _ _)
  cases e1 : fa ρ with
  | ok d1 =>
    cases e2 : fb ρ with
    | ok d2 => exact key d1 d2 e1 e2
    | exn x =>
      refine wpt_of (pt_cmpR opNo (pe_wp a) (pe_wp b) hm) (ha ρ σ F H _ S (o'.seq fun a' F1 H1 v q1 g1 r1 o1 => ?_))
      refine hb ρ σ F1 H1 _ (S.grow g1) ?_
      rw [e2] at o1 ⊢; exact o1
    | stuck =>
      unfold dBin at o'
      rw [e1, e2] at o'
      exact o'.elim
  | exn x =>
    refine wpt_of (pt_cmpR opNo (pe_wp a) (pe_wp b) hm) (ha ρ σ F H _ S ?_)
    unfold dBin at o'
    rw [e1] at o' ⊢; exact o'
  | stuck =>
    unfold dBin at o'
    rw [e1] at o'; exact o'.elim
theorem tj_val {e : Expr} {f : Den} (h : ER X c e f) (he : ∀ whole, isTrue e X.env whole = (do let v ← whole; standAt e.pos; holding [v] (truthy v)) := by intro _; rfl) : TJ X c e (tVal f) := by
  intro ρ σ F H Q S o
  exact wpt_of (pt_val (pe_wp e) he) (h ρ σ F H _ S (asB_ok o))
def tNotB (t : En → Res Bool) : En → Res Bool := fun ρ => (t ρ).bind fun b => .ok (!b)
theorem tj_not {a : Expr} {t : En → Res Bool} (h : TJ X c a t) : TJ X c (.UnaryOp .Not a pos) (tNotB t) := by
  intro ρ σ F H Q S o
  refine wpt_of (pt_not (pt_wp a)) (h ρ σ F H _ S (o.seq fun d F1 H1 v _ g1 r1 o1 => ?_))
  subst r1
  exact o1 F1 H1 _ (Grow.refl g1.fh) rfl
def tAndB (t u : En → Res Bool) : En → Res Bool := fun ρ => (t ρ).bind fun b => if b = true then u ρ else .ok false
def tOrB (t u : En → Res Bool) : En → Res Bool := fun ρ => (t ρ).bind fun b => if b = true then .ok true else u ρ
theorem tw_and1 {a : Expr} {t : En → Res Bool} (h : TJ X c a t) : TW X c (.BoolOp .And [a] pos) t := fun ρ σ F H Q S o => wpw_of (pw_and1 (pt_wp a)) (h ρ σ F H Q S o)
theorem tw_or1 {a : Expr} {t : En → Res Bool} (h : TJ X c a t) : TW X c (.BoolOp .Or [a] pos) t := fun ρ σ F H Q S o => wpw_of (pw_or1 (pt_wp a)) (h ρ σ F H Q S o)
theorem tw_and {a b : Expr} {rest : List Expr} {t u : En → Res Bool} (h : TJ X c a t) (h2 : TW X c (.BoolOp .And (b :: rest) pos) u) : TW X c (.BoolOp .And (a :: b :: rest) pos) (tAndB t u) := by
  intro ρ σ F H Q S o
  refine wpw_of (pw_and (pt_wp a) (pw_wp _)) (h ρ σ F H _ S (o.seq fun d F1 H1 v _ g1 r1 o1 => ?_))
  subst r1
  cases v with
  | true => rw [if_pos rfl] at o1 ⊢; exact h2 ρ σ F1 H1 Q (S.grow g1) o1
  | false => rw [if_neg Bool.false_ne_true] at o1 ⊢; exact o1 F1 H1 _ (Grow.refl g1.fh) rfl
theorem tw_or {a b : Expr} {rest : List Expr} {t u : En → Res Bool} (h : TJ X c a t) (h2 : TW X c (.BoolOp .Or (b :: rest) pos) u) : TW X c (.BoolOp .Or (a :: b :: rest) pos) (tOrB t u) := by
  intro ρ σ F H Q S o
  refine wpw_of (pw_or (pt_wp a) (pw_wp _)) (h ρ σ F H _ S (o.seq fun d F1 H1 v _ g1 r1 o1 => ?_))
  subst r1
  cases v with
  | false => rw [if_neg Bool.false_ne_true] at o1 ⊢; exact h2 ρ σ F1 H1 Q (S.grow g1) o1
  | true => rw [if_pos rfl] at o1 ⊢; exact o1 F1 H1 _ (Grow.refl g1.fh) rfl
theorem tw_tj {e : Expr} {t : En → Res Bool} (h : TW X c e t) : TJ X c e t := fun ρ σ F H Q S o pins s I => h ρ σ F H Q S o (eval e X.env) pins s I
/-- and, or, not as values -/
def dAnd (f g : Den) : Den := fun ρ => (f ρ).bind fun a => (asB a).bind fun b => if b = true then g ρ else .ok (.bl false)
def dOr (f g : Den) : Den := fun ρ => (f ρ).bind fun a => (asB a).bind fun b => if b = true then .ok (.bl true) else g ρ
theorem ej_one {op : BoolOp} {a : Expr} {f : Den} (h : EJ X c a f) : EJ X c (.BoolOp op [a] pos) f := fun ρ σ F H Q S o => wp_of (pe_one (pe_wp a)) (h ρ σ F H Q S o)
theorem ej_and {a b : Expr} {rest : List Expr} {f g : Den} (h : ER X c a f) (h2 : EJ X c (.BoolOp .And (b :: rest) pos) g) : EJ X c (.BoolOp .And (a :: b :: rest) pos) (dAnd f g) := by
  intro ρ σ F H Q S o
  refine wp_of (pe_and (pe_wp a) (pe_wp _)) (h ρ σ F H _ S (o.seq fun d F1 H1 v _ g1 r1 o1 => ?_))
  cases d with
  | bl b =>
    refine ⟨b, rd_bl r1, ?_⟩
    cases b with
    | true => exact h2 ρ σ F1 H1 Q (S.grow g1) o1
    | false => exact o1 F1 H1 _ (Grow.refl g1.fh) (.bl _)
  | _ => exact o1.elim
theorem ej_or {a b : Expr} {rest : List Expr} {f g : Den} (h : ER X c a f) (h2 : EJ X c (.BoolOp .Or (b :: rest) pos) g) : EJ X c (.BoolOp .Or (a :: b :: rest) pos) (dOr f g) := by
  intro ρ σ F H Q S o
  refine wp_of (pe_or (pe_wp a) (pe_wp _)) (h ρ σ F H _ S (o.seq fun d F1 H1 v _ g1 r1 o1 => ?_))
  cases d with
  | bl b =>
    refine ⟨b, rd_bl r1, ?_⟩
    cases b with
    | false => exact h2 ρ σ F1 H1 Q (S.grow g1) o1
    | true => exact o1 F1 H1 _ (Grow.refl g1.fh) (.bl _)
  | _ => exact o1.elim
def notD (d : D) : Res D := (asB d).bind fun b => .ok (.bl (!b))
theorem ej_not {a : Expr} {f : Den} (h : ER X c a f) : EJ X c (.UnaryOp .Not a pos) (dUn notD f) := by
  intro ρ σ F H Q S o
  refine wp_of (pe_not (pe_wp a)) (h ρ σ F H _ S (o.seq fun d F1 H1 v _ g1 r1 o1 => ?_))
  cases d with
  | bl b => exact ⟨b, rd_bl r1, o1 F1 H1 _ (Grow.refl g1.fh) (.bl _)⟩
  | _ => exact o1.elim
def dIf (t : En → Res Bool) (f g : Den) : Den := fun ρ => (t ρ).bind fun b => if b = true then f ρ else g ρ
theorem ej_if {q a b : Expr} {t : En → Res Bool} {f g : Den} (ht : TJ X c q t) (ha : EJ X c a f) (hb : EJ X c b g) : EJ X c (.IfExp q a b pos) (dIf t f g) := by
  intro ρ σ F H Q S o
  refine wp_of (pe_ifExp (pt_wp q) (pe_wp a) (pe_wp b)) (ht ρ σ F H _ S (o.seq fun d F1 H1 v _ g1 r1 o1 => ?_))
  subst r1
  cases v with
  | true => rw [if_pos rfl] at o1 ⊢; exact ha ρ σ F1 H1 Q (S.grow g1) o1
  | false => rw [if_neg Bool.false_ne_true] at o1 ⊢; exact hb ρ σ F1 H1 Q (S.grow g1) o1
/-- a op b op' e -/
def dChain (g g' : D → D → Res D) (fa fb fc : Den) : Den := fun ρ => (fa ρ).bind fun a => (fb ρ).bind fun b => (g a b).bind fun z => (asB z).bind fun k => if k = true then (fc ρ).bind fun d => g' b d else .ok (.bl false)

/-! ### calls -/
def CallD (X : Cx) (f : Value) (g : List D → Res D) : Prop := ∀ ds, ∃ r, CallR X f r ∧ ∀ vs F H Q, Same F H → Rds X.K F H vs ds → OutV X F H (g ds) Q → r vs H Q
def NoX1 (g : List D → Res D) : Prop := ∀ ds x, g ds ≠ .exn x
theorem callNo {f : Value} : CallR X f (fun _ _ _ => False) := fun _ _ _ _ _ _ _ _ _ h => h.elim
def dCall (g : List D → Res D) (fs : DenA) : Den := fun ρ => (fs ρ).bind g
theorem call_core {f : Value} {g : List D → Res D} (hc : CallD X f g) (nx : NoX1 g) {e : Expr} {es : List Expr} {fs : DenA} (ha : AR X c es fs) (rule : ∀ r, CallR X f r → PE X e (tCB r (WpA X es))) : EJ X c e (dCall g fs) := by
  intro ρ σ F H Q S o
  cases e1 : fs ρ with
  | ok ds =>
    obtain ⟨r, hr, hq⟩ := hc ds
    refine wp_of (rule r hr) (ha ρ σ F H _ S (o.seq fun d F1 H1 vs q1 g1 r1 o1 => ?_))
    rw [e1] at q1; cases q1
    exact hq vs F1 H1 Q g1.fh r1 (o1.v (nx _))
  | exn x =>
    refine wp_of (rule _ callNo) (ha ρ σ F H _ S ?_)
    unfold dCall at o
    rw [e1] at o ⊢; exact o
  | stuck => unfold dCall at o; rw [e1] at o; exact o.elim
theorem ej_callB {id : String} {g : List D → Res D} {x : Str} {p : Pos} {e : Expr} {es : List Expr} {fs : DenA} (hc : CallD X (.builtin id) g) (nx : NoX1 g) (hm : X.mg x = none) (ha : AR X c (e :: es) fs) (hg : Gl X x := by rfl) (hv : bootBuiltins x = some (.builtin id) := by decide +kernel)
    (hn : x ≠ "__name__" := by decide) (hdb : (x == ("__debug__" : Str)) = false := by decide) (he : starEach (e :: es) X.env = (false, eval e X.env) :: starEach es X.env := by rfl) (hpl : (backTo pos (starEach es X.env)).any (·.1) = false := by rfl) :
    EJ X c (.Call (.Name x p) (e :: es) [] pos) (dCall g fs) := call_core hc nx ha fun _ hr => pe_callB hr hg hm hv (pa_wp _) hn hdb he hpl
theorem ej_callTy {T : String} {g : List D → Res D} {x : Str} {p : Pos} {e : Expr} {es : List Expr} {fs : DenA} (hc : CallD X (.type T) g) (nx : NoX1 g) (hm : X.mg x = none) (ha : AR X c (e :: es) fs) (hg : Gl X x := by rfl) (hv : bootBuiltins x = some (.type T) := by decide +kernel)
    (hn : x ≠ "__name__" := by decide) (hdb : (x == ("__debug__" : Str)) = false := by decide) (he : starEach (e :: es) X.env = (false, eval e X.env) :: starEach es X.env := by rfl) (hpl : (backTo pos (starEach es X.env)).any (·.1) = false := by rfl) :
    EJ X c (.Call (.Name x p) (e :: es) [] pos) (dCall g fs) := call_core hc nx ha fun _ hr => pe_callTy hr hg hm hv (pa_wp _) hn hdb he hpl

/-- a def's promise by its denotation -/
def spOf (K : PySem.W.Frag) (mg : Str → Option Value) (n : Nat) (g : List D → Res D) : Sp := fun vs H Q E => vs.length = n ∧ ∃ F ds, Same F H ∧ Reps K F vs ds ∧
  match g ds with
  | .ok d => ∀ F' H' v, Grow F H F' H' → Rep K F' v d → Q v H'
  | .exn x => ∀ F' H' cls dd, Grow F H F' H' → XR mg x cls → E cls dd H'
  | .stuck => False
/-- what a call of f asks of the context -/
structure FnD (P : Program) (w : World) (K : PySem.W.Frag) (mg : Str → Option Value) (base : Heap) (k : Nat) (x : Str) (n : Nat) (g : List D → Res D) : Prop where
  ok : ∃ f fd ps, FnOk P w K mg base (L2.CX P w) k f fd ps (spOf K mg n g) ∧ mg x = some (.ref f) ∧ PySem.W.keepIn K (.ref f) = true ∧ Binds K fd ps []
class ALen (fs : DenA) (n : Nat) : Prop where
  len : ∀ ρ ds, fs ρ = .ok ds → ds.length = n
instance : ALen aNil 0 := ⟨fun ρ ds h => by cases h; rfl⟩
instance {f : Den} {g : DenA} {n : Nat} [h : ALen g n] : ALen (aCons f g) (n + 1) := ⟨fun ρ ds e => by
  unfold aCons at e
  cases e1 : f ρ with
  | ok d =>
    rw [e1] at e
    cases e2 : g ρ with
    | ok es => simp only [Res.bind, e2] at e; cases e; rw [List.length_cons, h.len ρ es e2]
    | exn x => simp only [Res.bind, e2] at e; cases e
    | stuck => simp only [Res.bind, e2] at e; cases e
  | exn x => rw [e1] at e; cases e
  | stuck => rw [e1] at e; cases e⟩
theorem ej_call {k n : Nat} {x : Str} {g : List D → Res D} {p : Pos} {e : Expr} {es : List Expr} {fs : DenA} (hf : FnD X.prog X.w X.K X.mg X.base k x n g) (hr : Room k X.A) (tk : Takes X c.W) (ha : AJ X c (e :: es) fs) [hl : ALen fs n] (hg : Gl X x := by rfl)
    (hdb : (x == ("__debug__" : Str)) = false := by decide) (he : starEach (e :: es) X.env = (false, eval e X.env) :: starEach es X.env := by rfl) (hpl : (backTo pos (starEach es X.env)).any (·.1) = false := by rfl) :
    EJ X c (.Call (.Name x p) (e :: es) [] pos) (dCall g fs) := by
  obtain ⟨f, fd, ps, FO, hm, hk, hb⟩ := hf.ok
  intro ρ σ F H Q S o
  refine wp_of (pe_callS FO hr hg hm hk hb (fun σ => passAt tk σ) (pa_wp _) hdb he hpl) (ha ρ σ F H _ S (o.seq fun ds F1 H1 vs q1 g1 r1 o1 => ?_))
  refine ⟨by rw [r1.length]; exact hl.len ρ ds q1, F1, ds, g1.fh, r1, ?_⟩
  cases e2 : g ds with
  | ok d => rw [e2] at o1; exact o1
  | exn x => rw [e2] at o1; exact o1
  | stuck => rw [e2] at o1; exact o1.elim
end
end FV

set_option maxHeartbeats 4000000
/-! FV4: statements, loops, comprehensions, defs. -/
namespace FV
open PySem PySem.Spec PyProof.Rows L2

/-! ### the slots change -/
section
variable {K : PySem.W.Frag} {F0 H0 F H : Hp} {ρ : En} {σ : L2.St}
theorem getset {α : Type} {l : List α} {i j : Nat} {x y : α} (h : (l.set i x)[j]? = some y) : (i = j ∧ i < l.length ∧ x = y) ∨ (i ≠ j ∧ l[j]? = some y) := by
  by_cases e : i = j
  · subst e
    by_cases z : i < l.length
    · rw [List.getElem?_set_self z] at h; exact .inl ⟨rfl, z, Option.some.inj h⟩
    · rw [List.getElem?_eq_none (by simpa using z)] at h; cases h
  · rw [List.getElem?_set_ne e] at h; exact .inr ⟨e, h⟩
theorem Sim.set (S : Sim K F0 H0 F H ρ σ) (i : Nat) {v : V} {d : D} (r : Rep K F v d) : Sim K F0 H0 F H (ρ.set i (some (.frz d))) (σ.set i (some v)) where
  g := S.g
  len := by rw [List.length_set, List.length_set]; exact S.len
  frz := fun j e h => by
    rcases getset h with ⟨rfl, z, q⟩ | ⟨n, h⟩
    · cases q; exact ⟨v, by rw [List.getElem?_set_self (by rw [← S.len]; exact z)], r⟩
    · obtain ⟨w, h1, h2⟩ := S.frz j e h
      exact ⟨w, by rw [List.getElem?_set_ne n]; exact h1, h2⟩
  own := fun j es h => by
    rcases getset h with ⟨rfl, z, q⟩ | ⟨n, h⟩
    · cases q
    · obtain ⟨a, vs, h1, h2⟩ := S.own j es h
      exact ⟨a, vs, by rw [List.getElem?_set_ne n]; exact h1, h2⟩
  dis := fun j k es fs a hn h1 h2 h3 h4 => by
    rcases getset h1 with ⟨rfl, z, q⟩ | ⟨n1, h1⟩
    · cases q
    · rcases getset h2 with ⟨rfl, z, q⟩ | ⟨n2, h2⟩
      · cases q
      · rw [List.getElem?_set_ne n1] at h3
        rw [List.getElem?_set_ne n2] at h4
        exact S.dis j k es fs a hn h1 h2 h3 h4
theorem Sim.wipe1 (S : Sim K F0 H0 F H ρ σ) (i : Nat) : Sim K F0 H0 F H (ρ.set i none) (σ.set i none) where
  g := S.g
  len := by rw [List.length_set, List.length_set]; exact S.len
  frz := fun j e h => by
    rcases getset h with ⟨rfl, z, q⟩ | ⟨n, h⟩
    · cases q
    · obtain ⟨w, h1, h2⟩ := S.frz j e h
      exact ⟨w, by rw [List.getElem?_set_ne n]; exact h1, h2⟩
  own := fun j es h => by
    rcases getset h with ⟨rfl, z, q⟩ | ⟨n, h⟩
    · cases q
    · obtain ⟨a, vs, h1, h2⟩ := S.own j es h
      exact ⟨a, vs, by rw [List.getElem?_set_ne n]; exact h1, h2⟩
  dis := fun j k es fs a hn h1 h2 h3 h4 => by
    rcases getset h1 with ⟨rfl, z, q⟩ | ⟨n1, h1⟩
    · cases q
    · rcases getset h2 with ⟨rfl, z, q⟩ | ⟨n2, h2⟩
      · cases q
      · rw [List.getElem?_set_ne n1] at h3
        rw [List.getElem?_set_ne n2] at h4
        exact S.dis j k es fs a hn h1 h2 h3 h4
theorem Sim.setOwn (S : Sim K F0 H0 F H ρ σ) (i : Nat) {a : Addr} {vs : List V} {ds : List D} (h1 : H a = some (.lst vs)) (h2 : F a = none) (h3 : H0 a = none) (h4 : vs.length ≤ sizeLine) (h5 : Reps K F vs ds)
    (ha : ∀ (j : Nat) (es : List D), ρ[j]? = some (some (Sl.own es)) → σ[j]? = some (some (V.ref a)) → False) : Sim K F0 H0 F H (ρ.set i (some (.own ds))) (σ.set i (some (.ref a))) where
  g := S.g
  len := by rw [List.length_set, List.length_set]; exact S.len
  frz := fun j e h => by
    rcases getset h with ⟨rfl, z, q⟩ | ⟨n, h⟩
    · cases q
    · obtain ⟨w, h1, h2⟩ := S.frz j e h
      exact ⟨w, by rw [List.getElem?_set_ne n]; exact h1, h2⟩
  own := fun j es h => by
    rcases getset h with ⟨rfl, z, q⟩ | ⟨n, h⟩
    · cases q; exact ⟨a, vs, by rw [List.getElem?_set_self (by rw [← S.len]; exact z)], h1, h2, h3, h4, h5⟩
    · obtain ⟨b, ws, h1, h2⟩ := S.own j es h
      exact ⟨b, ws, by rw [List.getElem?_set_ne n]; exact h1, h2⟩
  dis := fun j k es fs b hn q1 q2 q3 q4 => by
    rcases getset q1 with ⟨rfl, z, q⟩ | ⟨n1, q1⟩
    · rcases getset q2 with ⟨rfl, _, _⟩ | ⟨n2, q2⟩
      · exact hn rfl
      · rw [List.getElem?_set_self (by rw [← S.len]; exact z)] at q3
        rw [List.getElem?_set_ne n2] at q4
        cases q3
        exact ha _ _ q2 q4
    · rw [List.getElem?_set_ne n1] at q3
      rcases getset q2 with ⟨rfl, z, q⟩ | ⟨n2, q2⟩
      · rw [List.getElem?_set_self (by rw [← S.len]; exact z)] at q4
        cases q4
        exact ha _ _ q1 q3
      · rw [List.getElem?_set_ne n2] at q4
        exact S.dis j k es fs b hn q1 q2 q3 q4
/-- an own list gets other items -/
theorem Sim.mut (S : Sim K F0 H0 F H ρ σ) (i : Nat) {a : Addr} {ds es : List D} {vs : List V} (h : ρ[i]? = some (some (Sl.own ds))) (ha : σ[i]? = some (some (V.ref a))) (z : vs.length ≤ sizeLine) (r : Reps K F vs es) :
    Sim K F0 H0 F (upd H a (.lst vs)) (ρ.set i (some (.own es))) σ := by
  obtain ⟨b, ws, k1, k2, k3, k4, k5, k6⟩ := S.own i ds h
  rw [ha] at k1; cases k1
  refine ⟨⟨S.g.f, fun x o q => ?_, fun x o q => ?_, S.g.new⟩, by rw [List.length_set]; exact S.len, fun j e hj => ?_, fun j fs hj => ?_, fun j k fs gs x hn q1 q2 q3 q4 => ?_⟩
  · rw [upd_ne (ne_of_none q k4)]; exact S.g.h _ _ q
  · rw [upd_ne (ne_of_none q k3)]; exact S.g.fh _ _ q
  · rcases getset hj with ⟨rfl, _, q⟩ | ⟨n, hj⟩
    · cases q
    · exact S.frz j e hj
  · rcases getset hj with ⟨rfl, _, q⟩ | ⟨n, hj⟩
    · cases q; exact ⟨a, vs, ha, upd_same, k3, k4, z, r⟩
    · obtain ⟨x, xs, m1, m2, m3⟩ := S.own j fs hj
      have ne : x ≠ a := fun e => by subst e; exact S.dis i j ds fs _ n h hj ha m1
      exact ⟨x, xs, m1, by rw [upd_ne ne]; exact m2, m3⟩
  · have back : ∀ (j : Nat) (fs : List D), (ρ.set i (some (Sl.own es)))[j]? = some (some (Sl.own fs)) → ∃ fs', ρ[j]? = some (some (Sl.own fs')) := fun j fs q => by
      rcases getset q with ⟨rfl, _, _⟩ | ⟨n, q⟩
      · exact ⟨_, h⟩
      · exact ⟨_, q⟩
    obtain ⟨f1, p1⟩ := back j fs q1
    obtain ⟨f2, p2⟩ := back k gs q2
    exact S.dis j k f1 f2 x hn p1 p2 q3 q4
/-- an own list is frozen -/
theorem Sim.freeze (S : Sim K F0 H0 F H ρ σ) (i : Nat) {a : Addr} {ds : List D} {vs : List V} (h : ρ[i]? = some (some (Sl.own ds))) (ha : σ[i]? = some (some (V.ref a))) (hv : H a = some (.lst vs)) :
    Same F (upd F a (.lst vs)) ∧ Sim K F0 H0 (upd F a (.lst vs)) H (ρ.set i (some (.frz (.lst ds)))) σ := by
  obtain ⟨b, ws, k1, k2, k3, k4, k5, k6⟩ := S.own i ds h
  rw [ha] at k1; cases k1
  rw [hv] at k2; cases k2
  have sm := same_upd (o := .lst vs) k3
  refine ⟨sm, ⟨S.g.f.trans sm, S.g.h, fun x o q => ?_, fun x n1 n2 => ?_⟩, by rw [List.length_set]; exact S.len, fun j e hj => ?_, fun j fs hj => ?_, fun j k fs gs x hn q1 q2 q3 q4 => ?_⟩
  · by_cases hx : x = a
    · subst hx; rw [upd_same] at q; rw [hv]; exact q
    · rw [upd_ne hx] at q; exact S.g.fh _ _ q
  · have hx : x ≠ a := fun e => by subst e; exact n1 k4
    rw [upd_ne hx]; exact S.g.new x n1 n2
  · rcases getset hj with ⟨rfl, _, q⟩ | ⟨n, hj⟩
    · cases q; exact ⟨_, ha, .lst upd_same k5 (k6.mono sm)⟩
    · obtain ⟨w, m1, m2⟩ := S.frz j e hj
      exact ⟨w, m1, m2.mono sm⟩
  · rcases getset hj with ⟨rfl, _, q⟩ | ⟨n, hj⟩
    · cases q
    · obtain ⟨x, xs, m1, m2, m3, m4, m5, m6⟩ := S.own j fs hj
      have ne : x ≠ a := fun e => by subst e; exact S.dis i j ds fs _ n h hj ha m1
      exact ⟨x, xs, m1, m2, by rw [upd_ne ne]; exact m3, m4, m5, m6.mono sm⟩
  · have back : ∀ (j : Nat) (fs : List D), (ρ.set i (some (Sl.frz (.lst ds))))[j]? = some (some (Sl.own fs)) → ρ[j]? = some (some (Sl.own fs)) := fun j fs q => by
      rcases getset q with ⟨rfl, _, q⟩ | ⟨n, q⟩
      · cases q
      · exact q
    exact S.dis j k fs gs x hn (back j fs q1) (back k gs q2) q3 q4
end

/-! ### small statements -/
section
variable {X : Cx} {c : Cc} {K : PySem.W.Frag} {F H : Hp} {pos : Pos}
theorem SOut.mono {F F' : Hp} {D : Ends} {r : SRes} (h : SOut X c F D r) (s : Same F F') : SOut X c F' D r := by
  cases r with
  | next ρ => exact fun σ' F2 H' S q => h σ' F2 H' S (s.trans q)
  | brk ρ => exact fun σ' F2 H' S q => h σ' F2 H' S (s.trans q)
  | cont ρ => exact fun σ' F2 H' S q => h σ' F2 H' S (s.trans q)
  | ret d => exact h
  | exn x ρ => exact fun σ' F2 H' cls dd S q => h σ' F2 H' cls dd S (s.trans q)
  | stuck => exact h
/-- an expression's end within a statement -/
def lift {α : Type} (r : Res α) (ρ : En) (k : α → SRes) : SRes := match r with
  | .ok d => k d
  | .exn x => .exn x ρ
  | .stuck => .stuck
theorem lift_out {σ : L2.St} {ρ : En} {α β : Type} {D : Ends} {R : Hp → Hp → β → α → Prop} {r : Res α} {k : α → SRes} {Q : β → Hp → Prop} (S : Sim X.K c.F0 c.H0 F H ρ σ)
    (h : SOut X c F D (lift r ρ k))
    (n : ∀ d F' H' v, r = .ok d → Grow F H F' H' → R F' H' v d → SOut X c F' D (k d) → Q v H') : Out X c σ F H R r Q := by
  cases r with
  | ok d => exact fun F' H' v g q => n d F' H' v rfl g q (h.mono g.f)
  | exn x => exact fun F' H' cls dd g q => h σ F' H' cls dd (S.grow g) g.f q
  | stuck => exact h
def sSet (i : Nat) (f : Den) : SDen := fun ρ => lift (f ρ) ρ fun d => .next (ρ.set i (some (.frz d)))
theorem sj_set (i : Nat) {x : Str} {e : Expr} {f : Den} {pos' : Pos} (he : EJ X c e f) (hN : X.N.Nodup) (hi : X.N[i]? = some x := by rfl) (hx : Loc X.env.scope x := by first | exact Or.inl rfl | exact Or.inr rfl)
    (hs : swapsWith e (some (.Name x pos')) pos.line X.env = pure false := by rfl) (hf : X.fn x = true ∨ X.env.scope.names.lookup x = some .local := by first | exact .inl rfl | exact .inr rfl | assumption) :
    SJ X c (.Assign [.Name x pos'] e pos) (sSet i f) := by
  intro ρ σ F H D S o
  refine wps_of (ps_set hN hi hx (pe_wp e) hs hf) (he ρ σ F H _ S (lift_out S o fun d F' H' v _ g r o' => ?_))
  exact o' _ F' H' ((S.grow g).set i r) (Same.refl _)
def setO (ρ : En) (i : Nat) : FV.D → SRes
  | .lst ds => .next (ρ.set i (some (.own ds)))
  | _ => .stuck
def sSetO (i : Nat) (f : Den) : SDen := fun ρ => lift (f ρ) ρ (setO ρ i)
theorem setO_core {σ : L2.St} {ρ : En} {D : Ends} {i : Nat} {F' H' : Hp} {v : V} {d : FV.D} (S : Sim X.K c.F0 c.H0 F H ρ σ) (g : Grow F H F' H') (r : Fresh X.K H F' H' v d)
    (o : SOut X c F' D (setO ρ i d)) : D.nx (σ.set i (some v)) H' := by
  obtain ⟨a, vs, ds, rfl, rfl, h1, h2, h3, h4, h5⟩ := r
  refine o _ F' H' ((S.grow g).setOwn i h1 h2 (S.g.h.free h3) h4 h5 fun j es q1 q2 => ?_) (Same.refl _)
  obtain ⟨b, ws, k1, k2, _⟩ := S.own j es q1
  rw [q2] at k1; cases k1
  rw [h3] at k2; cases k2
theorem sj_setO (i : Nat) {x : Str} {e : Expr} {f : Den} {pos' : Pos} (he : EO X c e f) (hN : X.N.Nodup) (hi : X.N[i]? = some x := by rfl) (hx : Loc X.env.scope x := by first | exact Or.inl rfl | exact Or.inr rfl)
    (hs : swapsWith e (some (.Name x pos')) pos.line X.env = pure false := by rfl) (hf : X.fn x = true ∨ X.env.scope.names.lookup x = some .local := by first | exact .inl rfl | exact .inr rfl | assumption) :
    SJ X c (.Assign [.Name x pos'] e pos) (sSetO i f) := by
  intro ρ σ F H D S o
  exact wps_of (ps_set hN hi hx (pe_wp e) hs hf) (he ρ σ F H _ S (lift_out S o fun d F' H' v _ g r o' => setO_core S g r o'))
def sExpr (f : Den) : SDen := fun ρ => lift (f ρ) ρ fun _ => .next ρ
theorem sj_expr {e : Expr} {f : Den} (he : ER X c e f) (hs : swapsWith e none pos.line X.env = pure false := by rfl) : SJ X c (.Expr e pos) (sExpr f) := by
  intro ρ σ F H D S o
  exact wps_of (ps_expr (pe_wp e) hs) (he ρ σ F H _ S (lift_out S o fun d F' H' v _ g r o' => o' _ F' H' (S.grow g) (Same.refl _)))
def sRet (f : Den) : SDen := fun ρ => lift (f ρ) ρ fun d => .ret d
theorem sj_ret {e : Expr} {f : Den} (he : EJ X c e f) : SJ X c (.Return (some e) pos) (sRet f) := by
  intro ρ σ F H D S o
  exact wps_of (ps_ret (pe_wp e)) (he ρ σ F H _ S (lift_out S o fun d F' H' v _ g r o' => o' F' H' v (S.grow g).g r))
def sRetN : SDen := fun _ => .ret .non
theorem sj_retN : SJ X c (.Return none pos) sRetN := fun ρ σ F H D S o => wps_of ps_retN (o F H .non S.g .non)
def sPass : SDen := fun ρ => .next ρ
def sBrk : SDen := fun ρ => .brk ρ
def sCont : SDen := fun ρ => .cont ρ
theorem sj_pass : SJ X c (.Pass pos) sPass := fun ρ σ F H D S o => wps_of ps_pass (o σ F H S (Same.refl _))
theorem sj_brk : SJ X c (.Break pos) sBrk := fun ρ σ F H D S o => wps_of ps_break (o σ F H S (Same.refl _))
theorem sj_cont : SJ X c (.Continue pos) sCont := fun ρ σ F H D S o => wps_of ps_continue (o σ F H S (Same.refl _))
theorem sj_doc {x : Str} {j : Nat} {pos pos' : Pos} : SJ X c (.Expr (.Constant (.str x) j pos) pos') sPass := fun ρ σ F H D S o => wps_of ps_doc (o σ F H S (Same.refl _))
/-- a list of the def's own is frozen ahead of a statement -/
def frzE (i : Nat) (ρ : En) : En := match ρ[i]? with
  | some (some (.own ds)) => ρ.set i (some (.frz (.lst ds)))
  | _ => ρ
def sFrz (i : Nat) (g : SDen) : SDen := fun ρ => g (frzE i ρ)
theorem sj_frz (i : Nat) {st : Stmt} {g : SDen} (h : SJ X c st g) : SJ X c st (sFrz i g) := by
  intro ρ σ F H D S o
  unfold sFrz frzE at o
  split at o
  · rename_i ds e
    obtain ⟨a, vs, k1, k2, _⟩ := S.own i ds e
    obtain ⟨sm, S'⟩ := S.freeze i e k1 k2
    exact h _ σ _ H D S' (o.mono sm)
  · exact h ρ σ F H D S o
/-- blocks -/
def bNil : SDen := fun ρ => .next ρ
def bSeq (g h : SDen) : SDen := fun ρ => match g ρ with
  | .next ρ' => h ρ'
  | r => r
theorem bj_nil : BJ X c [] bNil := fun ρ σ F H D S o => wpb_of pss_nil (o σ F H S (Same.refl _))
theorem bj_cons {st : Stmt} {rest : List Stmt} {g h : SDen} (h1 : SJ X c st g) (h2 : BJ X c rest h) : BJ X c (st :: rest) (bSeq g h) := by
  intro ρ σ F H D S o
  refine wpb_of (pss_cons (ps_wp st) (pss_wp rest)) (h1 ρ σ F H _ S ?_)
  unfold bSeq at o
  split at o
  · rename_i ρ' e
    rw [e]
    exact fun σ' F' H' S' sm => h2 ρ' σ' F' H' D S' (o.mono sm)
  · rename_i n
    cases q : g ρ with
    | next ρ' => exact absurd q (n ρ')
    | brk ρ' => rw [q] at o; exact o
    | cont ρ' => rw [q] at o; exact o
    | ret d => rw [q] at o; exact o
    | exn x ρ' => rw [q] at o; exact o
    | stuck => rw [q] at o; exact o
theorem bj_one {st : Stmt} {g : SDen} (h1 : SJ X c st g) : BJ X c [st] g := by
  intro ρ σ F H D S o
  exact wpb_of (pss_one (ps_wp st)) (h1 ρ σ F H D S o)
def sIf (t : En → Res Bool) (g h : SDen) : SDen := fun ρ => match t ρ with
  | .ok true => g ρ
  | .ok false => h ρ
  | .exn x => .exn x ρ
  | .stuck => .stuck
theorem sj_if {q : Expr} {a b : List Stmt} {t : En → Res Bool} {g h : SDen} (ht : TJ X c q t) (ha : BJ X c a g) (hb : BJ X c b h) : SJ X c (.If q a b pos) (sIf t g h) := by
  intro ρ σ F H D S o
  refine wps_of (ps_if (pt_wp q) (pss_wp a) (pss_wp b)) (ht ρ σ F H _ S (lift_out (k := fun b => if b = true then g ρ else h ρ) S (by
    have e : sIf t g h ρ = lift (t ρ) ρ fun b => if b = true then g ρ else h ρ := by
      unfold sIf
      cases t ρ with
      | ok b => cases b <;> rfl
      | exn x => rfl
      | stuck => rfl
    rw [e] at o; exact o) fun d F' H' v _ gr r o' => ?_))
  subst r
  cases v with
  | true => rw [if_pos rfl] at o' ⊢; exact ha ρ σ F' H' D (S.grow gr) o'
  | false => rw [if_neg Bool.false_ne_true] at o' ⊢; exact hb ρ σ F' H' D (S.grow gr) o'

/-! ### own lists: append; xs[i] = e; pop; insert -/
def sApp (i : Nat) (f : Den) : SDen := fun ρ => match ρ[i]? with
  | some (some (.own ds)) => lift (f ρ) ρ fun d => if ds.length < sizeLine then .next (ρ.set i (some (.own (ds ++ [d])))) else .stuck
  | _ => .stuck
theorem sj_app (i : Nat) {x : Str} {e : Expr} {f : Den} {p apos cpos : Pos} (he : EJ X c e f) (hN : X.N[i]? = some x := by rfl) (hv : Vis X.env.scope x := by first | exact Or.inl rfl | exact Or.inr (Or.inl rfl) | exact Or.inr (Or.inr rfl))
    (hline : (apos.endLine == cpos.line) = true := by rfl) (hst : starEach [e] X.env = (false, eval e X.env) :: starEach [] X.env := by rfl) (hd : (x == ("__debug__" : Str)) = false := by decide) (hcd : (x == ("__classdict__" : Str)) = false := by decide)
    (hbase : attributeBase (.Name x p) "append" X.env (eval (.Name x p) X.env) = eval (.Name x p) X.env := by rfl)
    (hfew : ((backTo cpos (starEach [e] X.env)).all (fun x => !x.1) && (backToKw cpos (keywordEach [] X.env)).all (fun x => x.1.isSome) && decide ([e].length + ([] : List Keyword).length + (if ([] : List Keyword).isEmpty then 0 else 1) < 30)) = true := by rfl)
    (hplain : (backTo cpos (starEach [] X.env)).any (·.1) = false := by rfl) (hs : swapsWith (.Call (.Attribute (.Name x p) "append" apos) [e] [] cpos) none pos.line X.env = pure false := by rfl) :
    SJ X c (.Expr (.Call (.Attribute (.Name x p) "append" apos) [e] [] cpos) pos) (sApp i f) := by
  intro ρ σ F H D S o
  refine wps_of (ps_expr (pe_bm PySem.F.plainAttrs_list PySem.F.slot_list_append PySem.F.type_list_append mt_append (pe_var hN hv hd hcd) (pa_cons (pe_wp e) pa_nil hst) hbase hfew hline hst hplain) hs) ?_
  unfold sApp at o
  split at o
  · rename_i ds q
    obtain ⟨a, vs, h1, h2, h3, h4, h5, h6⟩ := S.own i ds q
    refine ⟨_, h1, .inl ⟨rfl, vs, SqL.of h2⟩, ?_⟩
    refine he ρ σ F H _ S (lift_out S o fun d F' H' v _ g r o' => ?_)
    by_cases z : ds.length < sizeLine
    · rw [if_pos z] at o'
      have l := h6.length
      refine ⟨a, vs, v, rfl, rfl, g.h _ _ h2, by omega, ?_⟩
      exact o' σ F' _ ((S.grow g).mut i q h1 (by rw [List.length_append, List.length_singleton]; omega) ((h6.mono g.f).append (.cons r .nil))) (Same.refl _)
    · rw [if_neg z] at o'; exact o'.elim
  · exact o.elim

/-! ### targets -/
inductive Tg where
  | nm (i : Nat) | tp (is : List Nat)
def sets : List Nat → List D → En → En
  | i :: is, d :: ds, ρ => sets is ds (ρ.set i (some (.frz d)))
  | _, _, ρ => ρ
def asg : Tg → D → En → Res En
  | .nm i, d, ρ => .ok (ρ.set i (some (.frz d)))
  | .tp is, .tup ds, ρ => if ds.length = is.length then .ok (sets is ds ρ) else .stuck
  | .tp _, _, _ => .stuck
def slotsOf : Tg → List Nat
  | .nm i => [i]
  | .tp is => is
def WpG (X : Cx) (tg : Expr) : TG := fun v σ H Q => ∀ (pins : List (Addr × Obj)) (s : Shared) (u : Value), Inv X pins σ H s → RelV v u → wpAny (model X.prog X.w) X.A (assign tg X.env u) (fun _ s' => ∃ σ' H', Inv X pins σ' H' s' ∧ Q σ' H') X.xe s
theorem pg_wp (tg : Expr) : PG X tg (WpG X tg) := ⟨fun pins s σ H v u Q I r h => h pins s u I r⟩
def setsV : List Nat → List V → L2.St → L2.St
  | i :: is, v :: vs, σ => setsV is vs (σ.set i (some v))
  | _, _, σ => σ
def asgV : Tg → V → List V → L2.St → L2.St
  | .nm i, v, _, σ => σ.set i (some v)
  | .tp is, _, w, σ => setsV is w σ
/-- the target's slots are set, nothing else -/
def GJ (X : Cx) (tg : Expr) (T : Tg) : Prop := ∀ v σ H (Q : L2.St → Hp → Prop), (match T with
  | .nm i => Q (σ.set i (some v)) H
  | .tp is => ∃ a xs, v = .ref a ∧ SqT X.K H a xs ∧ xs.length = is.length ∧ Q (setsV is xs σ) H) → WpG X tg v σ H Q
theorem gj_nm (i : Nat) {x : Str} (hN : X.N.Nodup) (hi : X.N[i]? = some x := by rfl) (hx : Loc X.env.scope x := by first | exact Or.inl rfl | exact Or.inr rfl) (hf : X.fn x = true ∨ X.env.scope.names.lookup x = some .local := by first | exact .inl rfl | exact .inr rfl | assumption) : GJ X (.Name x pos) (.nm i) :=
  fun v σ H Q h pins s u I r => (pg_name hN hi hx hf).run pins s σ H v u Q I r h
structure GsJ (X : Cx) (es : List Expr) (is : List Nat) : Prop where
  ok : ∃ t, PGs X es t ∧ ∀ xs σ H Q, xs.length = is.length → Q (setsV is xs σ) H → t xs σ H Q
theorem gs_nil : GsJ X [] [] := ⟨_, pgs_nil, fun xs σ H Q hl q => by cases xs with | nil => exact ⟨rfl, q⟩ | cons _ _ => cases hl⟩
theorem gs_cons (i : Nat) {x : Str} {es : List Expr} {is : List Nat} (h : GsJ X es is) (hN : X.N.Nodup) (hi : X.N[i]? = some x := by rfl) (hx : Loc X.env.scope x := by first | exact Or.inl rfl | exact Or.inr rfl) (hf : X.fn x = true ∨ X.env.scope.names.lookup x = some .local := by first | exact .inl rfl | exact .inr rfl | assumption)
    (hs : (assignEach (.Name x pos :: es) X.env).map (·.2) = assign (.Name x pos) X.env :: (assignEach es X.env).map (·.2) := by rfl) : GsJ X (.Name x pos :: es) (i :: is) := by
  obtain ⟨t, p, q⟩ := h.ok
  refine ⟨_, pgs_cons (pg_name hN hi hx hf) p hs, fun xs σ H Q hl z => ?_⟩
  cases xs with
  | nil => cases hl
  | cons v vs => exact ⟨v, vs, rfl, q vs _ H Q (Nat.succ.inj hl) z⟩
theorem gj_tp {es : List Expr} {is : List Nat} {k : Nat} (h : GsJ X es is) (hc : X.calm = true) (hn : (assignEach es X.env).length = is.length := by rfl) (hst : (assignEach es X.env).findIdx? (·.1) = none := by rfl) : GJ X (.Tuple es k pos) (.tp is) := by
  obtain ⟨t, p, q⟩ := h.ok
  intro v σ H Q ⟨a, xs, e, hx, hl, hq⟩ pins s u I r
  exact (pg_tup hc p hn hst).run pins s σ H v u Q I r ⟨a, xs, e, hx, hl, q xs σ H Q hl hq⟩
theorem sets_sim {F0 H0 : Hp} : ∀ {is : List Nat} {vs : List V} {ds : List D} {ρ : En} {σ : L2.St}, Sim K F0 H0 F H ρ σ → Reps K F vs ds → Sim K F0 H0 F H (sets is ds ρ) (setsV is vs σ)
  | [], _, _, _, _, S, _ => by unfold sets setsV; exact S
  | _ :: _, _, _, _, _, S, .nil => by unfold sets setsV; exact S
  | i :: is, _, _, _, _, S, .cons r t => by unfold sets setsV; exact sets_sim (S.set i r) t
theorem gj_asg {tg : Expr} {T : Tg} (h : GJ X tg T) {ρ ρ' : En} {σ : L2.St} {v : V} {d : D} {Q : L2.St → Hp → Prop} (S : Sim X.K c.F0 c.H0 F H ρ σ) (r : Rep X.K F v d) (e : asg T d ρ = .ok ρ')
    (q : ∀ σ', Sim X.K c.F0 c.H0 F H ρ' σ' → (∃ w, σ' = asgV T v w σ) → Q σ' H) : WpG X tg v σ H Q := by
  cases T with
  | nm i =>
    cases e
    exact h v σ H Q (q _ (S.set i r) ⟨[], rfl⟩)
  | tp is =>
    cases d with
    | tup ds =>
      have e : (if ds.length = is.length then Res.ok (sets is ds ρ) else .stuck) = .ok ρ' := e
      split at e
      · rename_i hl
        cases e
        cases r with
        | tup h1 h2 h3 => exact h _ σ H Q ⟨_, _, rfl, sqT_mono S.g.fh h1, by rw [h3.length]; exact hl, q _ (sets_sim S h3) ⟨_, rfl⟩⟩
      · cases e
    | _ => cases e
def sAsg (T : Tg) (f : Den) : SDen := fun ρ => lift (f ρ) ρ fun d => match asg T d ρ with
  | .ok ρ' => .next ρ'
  | _ => .stuck
theorem sj_asg {tg e : Expr} {T : Tg} {f : Den} (he : EJ X c e f) (hg : GJ X tg T) (hs : swapsWithSole [tg] e pos.line X.env = pure false := by rfl) (hw : swappedStores [tg] e X.env = pure none := by rfl)
    (h1 : (assignEach [tg] X.env).map (·.2) = [assign tg X.env] := by rfl) : SJ X c (.Assign [tg] e pos) (sAsg T f) := by
  intro ρ σ F H D S o
  refine wps_of (ps_asg (pe_wp e) (pg_wp tg) hs hw h1) (he ρ σ F H _ S (lift_out S o fun d F' H' v _ g r o' => ?_))
  cases e1 : asg T d ρ with
  | ok ρ' => rw [e1] at o'; exact gj_asg hg (S.grow g) r e1 fun σ' S' _ => o' σ' F' H' S' (Same.refl _)
  | exn x => rw [e1] at o'; exact o'.elim
  | stuck => rw [e1] at o'; exact o'.elim
/-- a, b = x, y with plain local names -/
def sPar (i j : Nat) (f g : Den) : SDen := fun ρ => lift (f ρ) ρ fun a => lift (g ρ) ρ fun b => .next ((ρ.set i (some (.frz a))).set j (some (.frz b)))
theorem sj_par (i j : Nat) {x y : Str} {a b : Expr} {f g : Den} {px py pt : Pos} {kt k2 : Nat} {pt2 : Pos} (ha : EJ X c a f) (hb : EJ X c b g) (hc : X.calm = true) (hN : X.N.Nodup) (hij : i ≠ j := by decide)
    (hw : swappedStores [.Tuple [.Name x px, .Name y py] kt pt] (.Tuple [a, b] k2 pt2) X.env = pure (some [x, y]) := by rfl) (hi : X.N[i]? = some x := by rfl) (hj : X.N[j]? = some y := by rfl)
    (hx : X.env.scope.names.lookup x = some .local := by rfl) (hy : X.env.scope.names.lookup y = some .local := by rfl)
    (hs : swapsWithSole [.Tuple [.Name x px, .Name y py] kt pt] (.Tuple [a, b] k2 pt2) pos.line X.env = pure false := by rfl)
    (s1 : starEach [a, b] X.env = (false, eval a X.env) :: starEach [b] X.env := by rfl) (s2 : starEach [b] X.env = (false, eval b X.env) :: starEach [] X.env := by rfl) :
    SJ X c (.Assign [.Tuple [.Name x px, .Name y py] kt pt] (.Tuple [a, b] k2 pt2) pos) (sPar i j f g) := by
  intro ρ σ F H D S o
  refine wps_of (ps_par hc hN hi hj hij hx hy (pa_cons (pe_wp a) (pa_cons (pe_wp b) pa_nil s2) s1) hw hs) (ha ρ σ F H _ S (lift_out S o fun d F1 H1 v _ g1 r1 o1 => ?_))
  refine hb ρ σ F1 H1 _ (S.grow g1) (lift_out (S.grow g1) o1 fun d2 F2 H2 u _ g2 r2 o2 => ?_)
  exact ⟨v, u, rfl, o2 _ F2 H2 ((((S.grow g1).grow g2).set i (r1.mono g2.f)).set j r2) (Same.refl _)⟩
/-- name += int -/
def sAugI (i : Nat) (op : D → D → Res D) (f : Den) : SDen := fun ρ => lift (dVar i ρ) ρ fun a => lift (f ρ) ρ fun b => lift (op a b) ρ fun d => .next (ρ.set i (some (.frz d)))
theorem sj_augI (i : Nat) {x : Str} {e : Expr} {f : Den} {op : Operator} {g : D → D → Res D} {pos' : Pos} {h : Int → Int → Int} (hop : PIp X op (ipI h)) (hg : ∀ a b, g a b = match a, b with | .int i, .int j => .ok (.int (h i j)) | _, _ => g a b) (he : EJ X c e f)
    (hi2 : ∀ a b d, g a b = .ok d → ∃ i j, a = .int i ∧ b = .int j) (nx : NoX2 g)
    (hN : X.N.Nodup) (hi : X.N[i]? = some x := by rfl) (hx : Loc X.env.scope x := by first | exact Or.inl rfl | exact Or.inr rfl) (hf : X.fn x = true ∨ X.env.scope.names.lookup x = some .local := by first | exact .inl rfl | exact .inr rfl | assumption) :
    SJ X c (.AugAssign (.Name x pos') op e pos) (sAugI i g f) := by
  intro ρ σ F H D S o
  refine wps_of (ps_aug hN hi hx (pe_wp e) hop hf) ?_
  unfold sAugI at o
  cases e0 : dVar i ρ with
  | ok a =>
    rw [e0] at o
    have o : SOut X c F D (lift (f ρ) ρ fun b => lift (g a b) ρ fun d => .next (ρ.set i (some (.frz d)))) := o
    unfold dVar at e0
    split at e0
    · rename_i d q
      cases e0
      obtain ⟨v, h1, h2⟩ := S.frz i a q
      refine ⟨v, h1, he ρ σ F H _ S (lift_out S o fun d F1 H1 u _ g1 r1 o1 => ?_)⟩
      cases e2 : g a d with
      | ok z =>
        rw [e2] at o1
        obtain ⟨m, n, rfl, rfl⟩ := hi2 _ _ _ e2
        rw [hg] at e2
        cases e2
        cases h2
        cases r1
        exact ⟨m, n, rfl, rfl, o1 _ F1 H1 ((S.grow g1).set i (.int _)) (Same.refl _)⟩
      | exn x => exact absurd e2 (nx _ _ _)
      | stuck => rw [e2] at o1; exact o1.elim
    · cases e0
  | exn x => unfold dVar at e0; split at e0 <;> cases e0
  | stuck => rw [e0] at o; exact o.elim
end

/-! ### loops -/
structure IterOk (K : PySem.W.Frag) (J : It) (ok : Hp → Hp → Prop) (ds : List D) : Prop where
  go : ∀ i F H, i < ds.length → ok F H → Same F H → J.go i H
  yld : ∀ i d F H x H2, ds[i]? = some d → ok F H → Same F H → J.yld i H x H2 → ∃ F2, Grow F H F2 H2 ∧ Rep K F2 x d
  stop : ∀ i F H, ds.length ≤ i → ok F H → Same F H → J.stop i H
abbrev DenI := En → Res (List D)
/-- what a for walks: it is frozen -/
structure IJ (X : Cx) (c : Cc) (tg iter : Expr) (f : DenI) : Prop where
  ok : ∃ wi, PI X tg iter wi ∧ ∀ ρ σ F H R, Sim X.K c.F0 c.H0 F H ρ σ → Out X c σ F H (fun F' _ (J : It) ds => IterOk X.K J (fun F1 _ => Same F' F1) ds) (f ρ) R → wi σ H R
/-- what a comprehension walks: it may be a list of the def's own -/
structure IC (X : Cx) (c : Cc) (tg iter : Expr) (f : DenI) : Prop where
  ok : ∃ wi, PI X tg iter wi ∧ ∀ ρ σ F H R, Sim X.K c.F0 c.H0 F H ρ σ → Out X c σ F H (fun F' H' (J : It) ds => IterOk X.K J (fun F1 H1 => Same F' F1 ∧ Same H' H1) ds) (f ρ) R → wi σ H R
section
variable {X : Cx} {c : Cc} {K : PySem.W.Frag} {F H : Hp} {pos : Pos} {tg : Expr}
theorem IJ.ic {iter : Expr} {f : DenI} (h : IJ X c tg iter f) : IC X c tg iter f := by
  obtain ⟨wi, p, q⟩ := h.ok
  exact ⟨wi, p, fun ρ σ F H R S o => q ρ σ F H R S (o.mono fun F' H' J ds _ r => ⟨fun i F H a b s => r.go i F H a b.1 s, fun i d F H x H2 a b s y => r.yld i d F H x H2 a b.1 s y, fun i F H a b s => r.stop i F H a b.1 s⟩)⟩
/-- a list or a tuple -/
theorem iter_lst {a : Addr} {vs : List V} {ds : List D} {ok : Hp → Hp → Prop} (r : Reps K F vs ds) (hok : ∀ F1 H1, ok F1 H1 → Same F1 H1 → Same F F1 ∧ SqL K H1 a vs) : IterOk K (Itl K a) ok ds where
  go := fun i F1 H1 hi h s => by
    obtain ⟨k1, k2⟩ := hok F1 H1 h s
    exact ⟨vs, vs[i]'(by rw [r.length]; exact hi), k2, by simp [r.length, hi]⟩
  yld := fun i d F1 H1 x H2 e h s y => by
    obtain ⟨k1, k2⟩ := hok F1 H1 h s
    obtain ⟨rfl, y⟩ := y
    obtain ⟨v, h1, h2⟩ := r.get e
    have := y vs k2
    rw [h1] at this; cases this
    exact ⟨F1, Grow.refl s, h2.mono k1⟩
  stop := fun i F1 H1 hi h s => by
    obtain ⟨k1, k2⟩ := hok F1 H1 h s
    exact ⟨vs, k2, by rw [r.length]; exact hi⟩
theorem iter_tup {a : Addr} {vs : List V} {ds : List D} {ok : Hp → Hp → Prop} (r : Reps K F vs ds) (hok : ∀ F1 H1, ok F1 H1 → Same F1 H1 → Same F F1 ∧ SqT K H1 a vs) : IterOk K (Itt K a) ok ds where
  go := fun i F1 H1 hi h s => by
    obtain ⟨k1, k2⟩ := hok F1 H1 h s
    exact ⟨vs, vs[i]'(by rw [r.length]; exact hi), k2, by simp [r.length, hi]⟩
  yld := fun i d F1 H1 x H2 e h s y => by
    obtain ⟨k1, k2⟩ := hok F1 H1 h s
    obtain ⟨rfl, y⟩ := y
    obtain ⟨v, h1, h2⟩ := r.get e
    have := y vs k2
    rw [h1] at this; cases this
    exact ⟨F1, Grow.refl s, h2.mono k1⟩
  stop := fun i F1 H1 hi h s => by
    obtain ⟨k1, k2⟩ := hok F1 H1 h s
    exact ⟨vs, k2, by rw [r.length]; exact hi⟩
/-- a list, or a tuple: either may come -/
theorem pi_either {l : Expr} {tl : TE} (hl : PE X l tl) : PI X tg l (fun σ H R => tl σ H fun x H1 => ∃ a, x = .ref a ∧ ((∃ xs, SqL X.K H1 a xs) ∧ R (Itl X.K a) H1 ∨ (∃ xs, SqT X.K H1 a xs) ∧ R (Itt X.K a) H1)) := by
  refine ⟨fun pins s σ H R I h => ?_⟩
  refine thn (hl.run pins s σ H _ I h) fun v s1 ⟨x, H1, I1, r1, q1⟩ => ?_
  obtain ⟨a, e, q⟩ := q1
  rcases q with ⟨hx, q⟩ | ⟨hx, q⟩
  · -- the rule for lists, at the value that has come
    have P : wpAny (model X.prog X.w) X.A (eval l X.env) (fun v s1 => wpAny (model X.prog X.w) X.A (pyIter v) (PIE X pins σ tg R) X.xe s1) X.xe s → True := fun _ => trivial
    subst e
    cases r1
    obtain ⟨xs, hq⟩ := hx
    obtain ⟨its, rv, p, hz⟩ := I1.list hq
    refine wpAny_pyIter_list p.isList ?_
    refine ⟨s1.heap.objs.size, [s1.heap.objs.size], _, _, H1, rfl, I1.kept (t' := s1.toks) fun b o e => Heap.get?_push_of_some _ e, turn_list a _, ⟨_, Heap.get?_push_size _ rfl, rfl, rfl⟩, fun b hb => ?_, q⟩
    have e : b = s1.heap.objs.size := by simpa using hb
    subst e
    exact I1.fpOk (Nat.le_refl _) (I1.hok.fresh (Nat.le_refl _))
  · subst e
    cases r1
    obtain ⟨xs, hq⟩ := hx
    obtain ⟨its, rv, p, hz⟩ := I1.tuple hq
    refine wpAny_pyIter_tuple (show s1.heap.IsTuple a its.toArray from p) ?_
    refine ⟨s1.heap.objs.size, [s1.heap.objs.size], _, _, H1, rfl, I1.kept (t' := s1.toks) fun b o e => Heap.get?_push_of_some _ e, turn_tuple a _, ⟨_, Heap.get?_push_size _ rfl, rfl, rfl⟩, fun b hb => ?_, q⟩
    have e : b = s1.heap.objs.size := by simpa using hb
    subst e
    exact I1.fpOk (Nat.le_refl _) (I1.hok.fresh (Nat.le_refl _))
def itemsR (d : D) : Res (List D) := match d.items with
  | some ds => .ok ds
  | none => .stuck
def iSeq (f : Den) : DenI := fun ρ => (f ρ).bind itemsR
theorem itemsR_ok {d : D} {ds : List D} (h : itemsR d = .ok ds) : d.items = some ds := by
  unfold itemsR at h; split at h
  · cases h; assumption
  · cases h
theorem ij_seq {e : Expr} {f : Den} (h : EJ X c e f) : IJ X c tg e (iSeq f) := by
  refine ⟨_, pi_either (pe_wp e), fun ρ σ F H R S o => h ρ σ F H _ S (o.seq fun d F1 H1 v _ g1 r1 o1 => ?_)⟩
  cases q : itemsR d with
  | ok ds =>
    rw [q] at o1
    obtain ⟨a, vs, rfl, h1, h2, h3⟩ := rd_items g1.fh (.inl r1) (itemsR_ok q)
    refine ⟨a, rfl, ?_⟩
    have e := itemsR_ok q
    cases d with
    | tup es =>
      cases e
      cases r1 with
      | tup k1 k2 k3 => exact .inr ⟨⟨_, sqT_mono g1.fh k1⟩, o1 F1 H1 _ (Grow.refl g1.fh) (iter_tup k3 fun F2 H2 s s2 => ⟨s, sqT_mono (s.trans s2) k1⟩)⟩
    | lst es =>
      cases e
      cases r1 with
      | lst k1 k2 k3 => exact .inl ⟨⟨_, SqL.of (g1.fh _ _ k1)⟩, o1 F1 H1 _ (Grow.refl g1.fh) (iter_lst k3 fun F2 H2 s s2 => ⟨s, SqL.of (s2 _ _ (s _ _ k1))⟩)⟩
    | klst es =>
      cases e
      cases r1 with
      | klst k1 k2 k3 => exact .inl ⟨⟨_, g1.fh.seq k1⟩, o1 F1 H1 _ (Grow.refl g1.fh) (iter_lst k3 fun F2 H2 s s2 => ⟨s, (s.trans s2).seq k1⟩)⟩
    | _ => cases e
  | exn x => unfold itemsR at q; split at q <;> cases q
  | stuck => rw [q] at o1; exact o1.elim
theorem ic_seq {e : Expr} {f : Den} (h : ER X c e f) : IC X c tg e (iSeq f) := by
  refine ⟨_, pi_either (pe_wp e), fun ρ σ F H R S o => h ρ σ F H _ S (o.seq fun d F1 H1 v _ g1 r1 o1 => ?_)⟩
  cases q : itemsR d with
  | ok ds =>
    rw [q] at o1
    obtain ⟨a, vs, rfl, h1, h2, h3⟩ := rd_items g1.fh r1 (itemsR_ok q)
    refine ⟨a, rfl, ?_⟩
    rcases h1 with ⟨h1, _⟩ | ⟨h1, _⟩
    · exact .inl ⟨⟨_, h1⟩, o1 F1 H1 _ (Grow.refl g1.fh) (iter_lst h3 fun F2 H2 s s2 => ⟨s.1, s.2.seq h1⟩)⟩
    · exact .inr ⟨⟨_, h1⟩, o1 F1 H1 _ (Grow.refl g1.fh) (iter_tup h3 fun F2 H2 s s2 => ⟨s.1, sqT_mono s.2 h1⟩)⟩
  | exn x => unfold itemsR at q; split at q <;> cases q
  | stuck => rw [q] at o1; exact o1.elim
/-- range(n), range(a, b) -/
def rangeL (lo : Int) (n : Nat) : List D := (List.range n).map fun (i : Nat) => .int (lo + (i : Int))
theorem iter_range {lo : Int} {n : Nat} {ok : Hp → Hp → Prop} : IterOk K (Itr lo n) ok (rangeL lo n) where
  go := fun i F1 H1 hi h s => by unfold rangeL at hi; rw [List.length_map, List.length_range] at hi; exact hi
  yld := fun i d F1 H1 x H2 e h s y => by
    obtain ⟨rfl, rfl⟩ := y
    unfold rangeL at e
    rw [List.getElem?_map] at e
    obtain ⟨j, e1, rfl⟩ := Option.map_eq_some_iff.mp e
    have hi := (List.getElem?_eq_some_iff.mp e1).1
    rw [List.length_range] at hi
    rw [List.getElem?_range hi] at e1
    cases e1
    exact ⟨F1, Grow.refl s, .int _⟩
  stop := fun i F1 H1 hi h s => by unfold rangeL at hi; rw [List.length_map, List.length_range] at hi; exact hi
def rng1 : List D → Res (List D)
  | [.int j] => if -(2 ^ 62) ≤ j ∧ j < 2 ^ 62 then .ok (rangeL 0 j.toNat) else .stuck
  | [.int i, .int j] => if -(2 ^ 62) ≤ i ∧ i < 2 ^ 62 ∧ -(2 ^ 62) ≤ j ∧ j < 2 ^ 62 then .ok (rangeL i (j - i).toNat) else .stuck
  | _ => .stuck
def iRng (fs : DenA) : DenI := fun ρ => (fs ρ).bind rng1
theorem rds_one {F H : Hp} {vs : List V} {d : D} (h : Rds K F H vs [d]) : ∃ v, vs = [v] ∧ Rd' K F H v d := by
  cases h with
  | cons r t => cases t; exact ⟨_, rfl, r⟩
theorem rds_two {F H : Hp} {vs : List V} {d e : D} (h : Rds K F H vs [d, e]) : ∃ v u, vs = [v, u] ∧ Rd' K F H v d ∧ Rd' K F H u e := by
  cases h with
  | cons r t => cases t with | cons r2 t => cases t; exact ⟨_, _, rfl, r, r2⟩
theorem rng1_shape {es : List D} {ds : List D} (h : rng1 es = .ok ds) : (∃ j, es = [.int j] ∧ -(2 ^ 62) ≤ j ∧ j < 2 ^ 62 ∧ ds = rangeL 0 j.toNat) ∨ ∃ i j, es = [.int i, .int j] ∧ (-(2 ^ 62) ≤ i ∧ i < 2 ^ 62 ∧ -(2 ^ 62) ≤ j ∧ j < 2 ^ 62) ∧ ds = rangeL i (j - i).toNat := by
  unfold rng1 at h
  split at h
  · split at h
    · rename_i z; cases h; exact .inl ⟨_, rfl, z.1, z.2, rfl⟩
    · cases h
  · split at h
    · rename_i z; cases h; exact .inr ⟨_, _, rfl, z, rfl⟩
    · cases h
  · cases h
theorem rng1_nx (es : List D) (x : Str) : rng1 es ≠ .exn x := by unfold rng1; (repeat' split) <;> (intro h; cases h)
theorem ij_range1 {a : Expr} {fs : DenA} {p : Pos} (hm : X.mg "range" = none) (ha : AR X c [a] fs) [hl : ALen fs 1] (hg : Gl X "range" := by rfl) (hs : starEach [a] X.env = [(false, eval a X.env)] := by rfl) : IJ X c tg (.Call (.Name "range" p) [a] [] pos) (iRng fs) := by
  refine ⟨_, pi_range1 hg hm (pa_wp _) hs, fun ρ σ F H R S o => ha ρ σ F H _ S (o.seq fun es F1 H1 vs e0 g1 r1 o1 => ?_)⟩
  cases q : rng1 es with
  | ok ds =>
    rw [q] at o1
    have ll := hl.len ρ es e0
    rcases rng1_shape q with ⟨j, rfl, z1, z2, rfl⟩ | ⟨i, j, rfl, _⟩
    · obtain ⟨v, rfl, r⟩ := rds_one r1
      rw [rd_int r]
      exact ⟨j, rfl, z1, z2, o1 F1 H1 _ (Grow.refl g1.fh) iter_range⟩
    · exact absurd ll (by simp)
  | exn x => exact absurd q (rng1_nx _ _)
  | stuck => rw [q] at o1; exact o1.elim
theorem ij_range2 {a b : Expr} {fs : DenA} {p : Pos} (hm : X.mg "range" = none) (ha : AR X c [a, b] fs) [hl : ALen fs 2] (hg : Gl X "range" := by rfl) (hs : starEach [a, b] X.env = [(false, eval a X.env), (false, eval b X.env)] := by rfl)
    (hs2 : starEach [b] X.env = [(false, eval b X.env)] := by rfl) : IJ X c tg (.Call (.Name "range" p) [a, b] [] pos) (iRng fs) := by
  refine ⟨_, pi_range2 hg hm (pa_wp _) hs hs2, fun ρ σ F H R S o => ha ρ σ F H _ S (o.seq fun es F1 H1 vs e0 g1 r1 o1 => ?_)⟩
  cases q : rng1 es with
  | ok ds =>
    rw [q] at o1
    have ll := hl.len ρ es e0
    rcases rng1_shape q with ⟨j, rfl, _⟩ | ⟨i, j, rfl, z, rfl⟩
    · exact absurd ll (by simp)
    · obtain ⟨v, u, rfl, r, r2⟩ := rds_two r1
      rw [rd_int r, rd_int r2]
      exact ⟨i, j, rfl, z, o1 F1 H1 _ (Grow.refl g1.fh) iter_range⟩
  | exn x => exact absurd q (rng1_nx _ _)
  | stuck => rw [q] at o1; exact o1.elim

def forD (T : Tg) (body : SDen) : List D → En → SRes
  | [], ρ => .next ρ
  | d :: ds, ρ => match asg T d ρ with
    | .ok ρ1 => match body ρ1 with
      | .next ρ2 => forD T body ds ρ2
      | .cont ρ2 => forD T body ds ρ2
      | .brk ρ2 => .next ρ2
      | .ret d => .ret d
      | .exn x ρ2 => .exn x ρ2
      | .stuck => .stuck
    | _ => .stuck
def sFor (f : DenI) (T : Tg) (body : SDen) : SDen := fun ρ => match f ρ with
  | .ok ds => forD T body ds ρ
  | .exn x => .exn x ρ
  | .stuck => .stuck
theorem sj_for {iter : Expr} {body : List Stmt} {f : DenI} {T : Tg} {g : SDen} (hp : PassesOwn (model X.prog X.w) X.A X.env X.xe) (hc : X.calm = true) (hi : IJ X c tg iter f) (hg : GJ X tg T) (hb : BJ X c body g)
    (hs : ∀ x, foldedSetIterable iter X.env x = pure x := by intro _; rfl) : SJ X c (.For tg iter body [] pos) (sFor f T g) := by
  obtain ⟨wi, pwi, qwi⟩ := hi.ok
  intro ρ σ F H D S o
  refine wps_of (ps_for hp hc pwi (pg_wp tg) (pss_wp body) hs) (qwi ρ σ F H _ S (lift_out (k := fun ds => forD T g ds ρ) S (by
    have e : sFor f T g ρ = lift (f ρ) ρ fun ds => forD T g ds ρ := by unfold sFor; cases f ρ <;> rfl
    rw [e] at o; exact o) fun ds F1 H1 J _ g1 it o1 => ?_))
  · refine ⟨fun i m σ' H' => m = ds.length - i ∧ i ≤ ds.length ∧ ∃ ρ' F', Sim X.K c.F0 c.H0 F' H' ρ' σ' ∧ Same F1 F' ∧ SOut X c F' D (forD T g (ds.drop i) ρ'), ⟨ds.length, by simp, Nat.zero_le _, ρ, F1, S.grow g1, Same.refl _, by simpa using o1⟩, ?_⟩
    rintro i m σ' H' ⟨rfl, hi, ρ', F', S', sm, o'⟩
    by_cases hlt : i < ds.length
    · refine .inr ⟨it.go i F' H' hlt sm S'.g.fh, fun σ2 H2 => ∃ ρ2 F2, Sim X.K c.F0 c.H0 F2 H2 ρ2 σ2 ∧ Same F1 F2 ∧ SOut X c F2 D (forD T g (ds.drop (i + 1)) ρ2), fun σ2 H2 h => ⟨ds.length - (i + 1), by omega, rfl, hlt, h⟩, fun x H2 y => ?_⟩
      have ed : ds[i]? = some ds[i] := by simp [hlt]
      obtain ⟨F2, g2, r2⟩ := it.yld i ds[i] F' H' x H2 ed sm S'.g.fh y
      have hdrop : ds.drop i = ds[i] :: ds.drop (i + 1) := List.drop_eq_getElem_cons hlt
      rw [hdrop] at o'
      unfold forD at o'
      cases e1 : asg T ds[i] ρ' with
      | ok ρ1 =>
        rw [e1] at o'
        refine gj_asg hg (S'.grow g2) r2 e1 fun σ3 S3 _ => ?_
        refine hb ρ1 σ3 F2 H2 _ S3 ?_
        have sm2 : Same F1 F2 := sm.trans g2.f
        cases e2 : g ρ1 with
        | next ρ2 => simp only [e2] at o'; exact fun σ4 F4 H4 S4 sm4 => ⟨ρ2, F4, S4, sm2.trans sm4, o'.mono (g2.f.trans sm4)⟩
        | cont ρ2 => simp only [e2] at o'; exact fun σ4 F4 H4 S4 sm4 => ⟨ρ2, F4, S4, sm2.trans sm4, o'.mono (g2.f.trans sm4)⟩
        | brk ρ2 => simp only [e2] at o'; exact fun σ4 F4 H4 S4 sm4 => o' σ4 F4 H4 S4 (g2.f.trans sm4)
        | ret d => simp only [e2] at o'; exact o'
        | exn x ρ2 => simp only [e2] at o'; exact fun σ4 F4 H4 cls dd S4 sm4 => o' σ4 F4 H4 cls dd S4 (g2.f.trans sm4)
        | stuck => simp only [e2] at o'; exact o'.elim
      | exn x => rw [e1] at o'; exact o'.elim
      | stuck => rw [e1] at o'; exact o'.elim
    · have e : i = ds.length := by omega
      subst e
      rw [List.drop_length] at o'
      exact .inl ⟨it.stop _ F' H' (Nat.le_refl _) sm S'.g.fh, o' σ' F' H' S' (Same.refl _)⟩

/-- while -/
def whN (t : En → Res Bool) (body : SDen) : Nat → En → Option SRes
  | 0, _ => none
  | n + 1, ρ => match t ρ with
    | .ok true => match body ρ with
      | .next ρ' => whN t body n ρ'
      | .cont ρ' => whN t body n ρ'
      | .brk ρ' => some (.next ρ')
      | .ret d => some (.ret d)
      | .exn x ρ' => some (.exn x ρ')
      | .stuck => some .stuck
    | .ok false => some (.next ρ)
    | .exn x => some (.exn x ρ)
    | .stuck => some .stuck
open Classical in
noncomputable def whD (t : En → Res Bool) (body : SDen) (ρ : En) : SRes := if h : ∃ r n, whN t body n ρ = some r then h.choose else .stuck
theorem sj_while {q : Expr} {body : List Stmt} {t : En → Res Bool} {g : SDen} (hp : PassesOwn (model X.prog X.w) X.A X.env X.xe) (ht : TJ X c q t) (hb : BJ X c body g) : SJ X c (.While q body [] pos) (whD t g) := by
  intro ρ σ F H D S o
  unfold whD at o
  split at o
  · rename_i h
    obtain ⟨n, hn⟩ := h.choose_spec
    generalize h.choose = r at o hn
    refine wps_of (ps_while hp (pt_wp q) (pss_wp body)) ⟨fun m σ' H' => ∃ ρ' F', Sim X.K c.F0 c.H0 F' H' ρ' σ' ∧ Same F F' ∧ whN t g m ρ' = some r, ⟨n, ρ, F, S, Same.refl _, hn⟩, ?_⟩
    rintro m σ' H' ⟨ρ', F', S', sm, e⟩
    cases m with
    | zero => cases e
    | succ m =>
      unfold whN at e
      refine ht ρ' σ' F' H' _ S' ?_
      cases e1 : t ρ' with
      | ok b =>
        intro F1 H1 v g1 rv
        subst rv
        have S1 := S'.grow g1
        have sm1 := sm.trans g1.f
        cases v with
        | false =>
          rw [e1] at e
          cases e
          rw [if_neg Bool.false_ne_true]
          exact o σ' F1 H1 S1 sm1
        | true =>
          rw [e1] at e
          rw [if_pos rfl]
          refine ⟨fun σ2 H2 => ∃ ρ2 F2, Sim X.K c.F0 c.H0 F2 H2 ρ2 σ2 ∧ Same F F2 ∧ whN t g m ρ2 = some r, fun σ2 H2 h => ⟨m, Nat.lt_succ_self _, h⟩, ?_⟩
          refine hb ρ' σ' F1 H1 _ S1 ?_
          cases e2 : g ρ' with
          | next ρ2 => simp only [e2] at e; exact fun σ4 F4 H4 S4 sm4 => ⟨ρ2, F4, S4, sm1.trans sm4, e⟩
          | cont ρ2 => simp only [e2] at e; exact fun σ4 F4 H4 S4 sm4 => ⟨ρ2, F4, S4, sm1.trans sm4, e⟩
          | brk ρ2 => simp only [e2] at e; cases e; exact fun σ4 F4 H4 S4 sm4 => o σ4 F4 H4 S4 (sm1.trans sm4)
          | ret d => simp only [e2] at e; cases e; exact o
          | exn x ρ2 => simp only [e2] at e; cases e; exact fun σ4 F4 H4 cls dd S4 sm4 => o σ4 F4 H4 cls dd S4 (sm1.trans sm4)
          | stuck => simp only [e2] at e; cases e; exact o.elim
      | exn x =>
        rw [e1] at e
        cases e
        exact fun F1 H1 cls dd g1 xr => o σ' F1 H1 cls dd (S'.grow g1) (sm.trans g1.f) xr
      | stuck =>
        rw [e1] at e
        cases e
        exact o.elim
  · exact o.elim

/-! ### defs -/
def runB (g : SDen) (n : Nat) (ds : List D) : Res D := match g (ds.map (fun d => some (.frz d)) ++ List.replicate (n - ds.length) none) with
  | .next _ => .ok .non
  | .ret d => .ok d
  | .exn x _ => .exn x
  | _ => .stuck
theorem start_sim {F H : Hp} {N : List Str} {vs : List V} {ds : List D} (s : Same F H) (r : Reps K F vs ds) : Sim K F H F H (ds.map (fun d => some (.frz d)) ++ List.replicate (N.length - ds.length) none) (L2.start N vs) where
  g := Grow.refl s
  len := by unfold L2.start; rw [List.length_append, List.length_append, List.length_map, List.length_map, List.length_replicate, List.length_replicate, r.length]
  frz := fun i d h => by
    by_cases hi : i < ds.length
    · rw [List.getElem?_append_left (by simpa using hi), List.getElem?_map] at h
      obtain ⟨e, e1, e2⟩ := Option.map_eq_some_iff.mp h
      cases e2
      obtain ⟨v, k1, k2⟩ := r.get e1
      refine ⟨v, ?_, k2⟩
      unfold L2.start
      rw [List.getElem?_append_left (by rw [List.length_map, r.length]; exact hi), List.getElem?_map, k1]
      rfl
    · rw [List.getElem?_append_right (by simpa using hi), List.getElem?_replicate] at h
      split at h <;> cases h
  own := fun i es h => by
    by_cases hi : i < ds.length
    · rw [List.getElem?_append_left (by simpa using hi), List.getElem?_map] at h
      obtain ⟨e, e1, e2⟩ := Option.map_eq_some_iff.mp h
      cases e2
    · rw [List.getElem?_append_right (by simpa using hi), List.getElem?_replicate] at h
      split at h <;> cases h
  dis := fun i j es fs a hn h => by
    by_cases hi : i < ds.length
    · rw [List.getElem?_append_left (by simpa using hi), List.getElem?_map] at h
      obtain ⟨e, e1, e2⟩ := Option.map_eq_some_iff.mp h
      cases e2
    · rw [List.getElem?_append_right (by simpa using hi), List.getElem?_replicate] at h
      split at h <;> cases h
/-- THE RULE for a def: by its body's denotation -/
theorem fun_ok {P : Program} {w : World} {mg : Str → Option Value} {base : Heap} {x qual : Str} {st : Stmt} {f : Addr} {fd : FuncData} {N ps : List Str} {k : Nat} {g : SDen} (Fn : Fun K x qual st f fd) (Sc : FnScope N ps (defScope st))
    (hbody : ∀ (cdv : Value) (A : Around) (outer : List PySem.Env) (s : Shared) (H F : Hp) (E : XK), Room k (A.deeper (envOfC qual (defScope st) s.heap.objs.size f cdv)) →
      BJ (cxOf (L2.CX P w) P w K mg base N qual (defScope st) f cdv A outer s H E) ⟨F, H, fun cls d _ H => E cls d H⟩ (defBody st) g) :
    FnOk P w K mg base (L2.CX P w) (k + 1) f fd ps (spOf K mg ps.length (runB g N.length)) := by
  refine Fn.okX Sc (fun vs H Q E h => h.1) fun cdv A outer s H vs Q E hr h => ?_
  obtain ⟨hl, F, ds, sm, r, h⟩ := h
  refine ⟨fun D σ H => WpB _ (defBody st) D σ H, pss_wp _, ?_⟩
  refine hbody cdv A outer s H F E hr _ _ F H _ (start_sim sm r) ?_
  unfold runB at h
  cases e : g (ds.map (fun d => some (.frz d)) ++ List.replicate (N.length - ds.length) none) with
  | next ρ' => rw [e] at h; exact fun σ' F' H' S _ => h F' H' .non S.g .non
  | ret d => rw [e] at h; exact h
  | exn x ρ' => rw [e] at h; exact fun σ' F' H' cls dd S _ xr => h F' H' cls dd S.g xr
  | brk ρ' => rw [e] at h; exact h.elim
  | cont ρ' => rw [e] at h; exact h.elim
  | stuck => rw [e] at h; exact h.elim
end
end FV

set_option maxHeartbeats 4000000
/-! FV5: built-in calls, isinstance, comprehensions, enumerate, zip, raise. -/
namespace FV
open PySem PySem.Spec PyProof.Rows L2
section
variable {X : Cx} {c : Cc} {K : PySem.W.Frag} {F H : Hp} {pos : Pos} {tg : Expr}

/-! ### len, abs, min, max, int, list, tuple, all, any, sum, str -/
def lenD : List D → Res D
  | [.str z] => if z.length ≤ sizeLine then .ok (.int z.length) else .stuck
  | [d] => match d.items with
    | some ds => .ok (.int ds.length)
    | none => .stuck
  | _ => .stuck
theorem len_nx : NoX1 lenD := fun ds x => by unfold lenD; (repeat' split) <;> (intro h; cases h)
theorem len_ok : CallD X (.builtin "len") lenD := by
  intro ds
  refine ⟨_, call_len, fun vs F H Q s r0 o => ?_⟩
  unfold lenD at o
  split at o
  · split at o
    · obtain ⟨v, rfl, r⟩ := rds_one r0
      rw [rd_str r]
      exact ⟨_, _, rfl, ⟨by assumption, rfl⟩, o.here s (.int _)⟩
    · exact o.elim
  · split at o
    · rename_i d _ ds e
      obtain ⟨v, rfl, r⟩ := rds_one r0
      obtain ⟨a, vs, rfl, h1, h2, h3⟩ := rd_items s r e
      have l := h3.length
      rcases h1 with ⟨h1, _⟩ | ⟨h1, _⟩
      · exact ⟨_, vs.length, rfl, .inl ⟨vs, h1, rfl⟩, by rw [l]; exact o.here s (.int _)⟩
      · exact ⟨_, vs.length, rfl, .inr ⟨vs, h1, rfl⟩, by rw [l]; exact o.here s (.int _)⟩
    · exact o.elim
  · exact o.elim
def absD : List D → Res D
  | [.int i] => .ok (.int (if i < 0 then -i else i))
  | _ => .stuck
theorem abs_nx : NoX1 absD := fun ds x => by unfold absD; (repeat' split) <;> (intro h; cases h)
theorem abs_ok : CallD X (.builtin "abs") absD := by
  intro ds
  refine ⟨_, call_abs, fun vs F H Q s r0 o => ?_⟩
  unfold absD at o
  split at o
  · obtain ⟨v, rfl, r⟩ := rds_one r0
    rw [rd_int r]
    exact ⟨_, rfl, o.here s (.int _)⟩
  · exact o.elim
def max2D : List D → Res D
  | [.int i, .int j] => .ok (.int (if j > i then j else i))
  | _ => .stuck
theorem max2_nx : NoX1 max2D := fun ds x => by unfold max2D; (repeat' split) <;> (intro h; cases h)
theorem max2_ok (hc : X.calm = true) : CallD X (.builtin "max") max2D := by
  intro ds
  refine ⟨_, call_max2 hc, fun vs F H Q s r0 o => ?_⟩
  unfold max2D at o
  split at o
  · obtain ⟨v, u, rfl, r, r2⟩ := rds_two r0
    rw [rd_int r, rd_int r2]
    exact ⟨_, _, rfl, o.here s (.int _)⟩
  · exact o.elim
def min2D : List D → Res D
  | [.int i, .int j] => .ok (.int (if j < i then j else i))
  | _ => .stuck
theorem min2_nx : NoX1 min2D := fun ds x => by unfold min2D; (repeat' split) <;> (intro h; cases h)
theorem min2_ok (hc : X.calm = true) : CallD X (.builtin "min") min2D := by
  intro ds
  refine ⟨_, call_min2 hc, fun vs F H Q s r0 o => ?_⟩
  unfold min2D at o
  split at o
  · obtain ⟨v, u, rfl, r, r2⟩ := rds_two r0
    rw [rd_int r, rd_int r2]
    exact ⟨_, _, rfl, o.here s (.int _)⟩
  · exact o.elim
def int1D : List D → Res D
  | [.int i] => .ok (.int i)
  | [.bl b] => .ok (.int (if b then 1 else 0))
  | _ => .stuck
theorem int1_nx : NoX1 int1D := fun ds x => by unfold int1D; (repeat' split) <;> (intro h; cases h)
theorem int1_ok : CallD X (.type "int") int1D := by
  intro ds
  refine ⟨_, call_int1, fun vs F H Q s r0 o => ?_⟩
  unfold int1D at o
  split at o
  · obtain ⟨v, rfl, r⟩ := rds_one r0
    rw [rd_int r]
    exact .inl ⟨_, rfl, o.here s (.int _)⟩
  · obtain ⟨v, rfl, r⟩ := rds_one r0
    rw [rd_bl r]
    exact .inr ⟨_, rfl, o.here s (.int _)⟩
  · exact o.elim
def listD : List D → Res D
  | [d] => match d.items with
    | some ds => .ok (.lst ds)
    | none => .stuck
  | _ => .stuck
theorem list_nx : NoX1 listD := fun ds x => by unfold listD; (repeat' split) <;> (intro h; cases h)
theorem list_ok : CallD X (.type "list") listD := by
  intro ds
  refine ⟨_, call_list_of, fun vs F H Q s r0 o => ?_⟩
  unfold listD at o
  split at o
  · split at o
    · rename_i d ds e
      obtain ⟨v, rfl, r⟩ := rds_one r0
      obtain ⟨a, vs, rfl, h1, h2, h3⟩ := rd_items s r e
      rcases h1 with ⟨h1, _⟩ | ⟨h1, _⟩
      · exact ⟨a, vs, rfl, .inl h1, fun p hp => o.newL s h2 h3 p hp⟩
      · exact ⟨a, vs, rfl, .inr h1, fun p hp => o.newL s h2 h3 p hp⟩
    · exact o.elim
  · exact o.elim
def tupleD : List D → Res D
  | [d] => match d.items with
    | some ds => .ok (.tup ds)
    | none => .stuck
  | _ => .stuck
theorem tuple_nx : NoX1 tupleD := fun ds x => by unfold tupleD; (repeat' split) <;> (intro h; cases h)
theorem tuple_ok : CallD X (.type "tuple") tupleD := by
  intro ds
  refine ⟨_, call_tuple_of, fun vs F H Q s r0 o => ?_⟩
  unfold tupleD at o
  split at o
  · split at o
    · rename_i d ds e
      obtain ⟨v, rfl, r⟩ := rds_one r0
      obtain ⟨a, vs, rfl, h1, h2, h3⟩ := rd_items s r e
      rcases h1 with ⟨h1, _⟩ | ⟨h1, e2⟩
      · exact ⟨a, vs, rfl, .inl ⟨h1, fun p hp => o.newT s h2 h3 p hp⟩⟩
      · subst e2
        obtain ⟨a', vs', e3, k1, k2, k3, k4⟩ := rd_tup s r
        cases e3
        exact ⟨a, vs', rfl, .inr ⟨k2, o.here s (.tup k1 k3 k4)⟩⟩
    · exact o.elim
  · exact o.elim
def boolsOf : List D → Option (List Bool)
  | [] => some []
  | .bl b :: ds => (boolsOf ds).map (b :: ·)
  | _ :: _ => none
theorem bools_rel : ∀ {ds : List D} {vs : List V} {bs : List Bool}, Reps K F vs ds → boolsOf ds = some bs → vs = bs.map V.bl
  | [], _, _, r, e => by cases r; cases e; rfl
  | .bl b :: ds, _, _, r, e => by
    cases r with
    | cons r t =>
      cases r
      unfold boolsOf at e
      obtain ⟨cs, e1, e2⟩ := Option.map_eq_some_iff.mp e
      subst e2
      rw [bools_rel t e1]; rfl
  | .non :: _, _, _, _, e => by cases e
  | .int _ :: _, _, _, _, e => by cases e
  | .str _ :: _, _, _, _, e => by cases e
  | .tup _ :: _, _, _, _, e => by cases e
  | .lst _ :: _, _, _, _, e => by cases e
  | .klst _ :: _, _, _, _, e => by cases e
  | .exn _ :: _, _, _, _, e => by cases e
def allD : List D → Res D
  | [.lst ds] => match boolsOf ds with
    | some bs => .ok (.bl (bs.all id))
    | none => .stuck
  | _ => .stuck
def anyD : List D → Res D
  | [.lst ds] => match boolsOf ds with
    | some bs => .ok (.bl (bs.any id))
    | none => .stuck
  | _ => .stuck
theorem all_nx : NoX1 allD := fun ds x => by unfold allD; (repeat' split) <;> (intro h; cases h)
theorem any_nx : NoX1 anyD := fun ds x => by unfold anyD; (repeat' split) <;> (intro h; cases h)
theorem all_ok (hc : X.calm = true) : CallD X (.builtin "all") allD := by
  intro ds
  refine ⟨_, cr_all hc, fun vs F H Q s r0 o => ?_⟩
  unfold allD at o
  split at o
  · split at o
    · rename_i ds bs e
      obtain ⟨v, rfl, r⟩ := rds_one r0
      obtain ⟨a, vs, rfl, h1, h2, h3⟩ := rd_lst s r
      have q := bools_rel h3 e
      subst q
      exact ⟨a, bs, rfl, SqL.of h1, o.here s (.bl _)⟩
    · exact o.elim
  · exact o.elim
theorem any_ok (hc : X.calm = true) : CallD X (.builtin "any") anyD := by
  intro ds
  refine ⟨_, cr_any hc, fun vs F H Q s r0 o => ?_⟩
  unfold anyD at o
  split at o
  · split at o
    · rename_i ds bs e
      obtain ⟨v, rfl, r⟩ := rds_one r0
      obtain ⟨a, vs, rfl, h1, h2, h3⟩ := rd_lst s r
      have q := bools_rel h3 e
      subst q
      exact ⟨a, bs, rfl, SqL.of h1, o.here s (.bl _)⟩
    · exact o.elim
  · exact o.elim
def intsOf : List D → Option (List Int)
  | [] => some []
  | .int b :: ds => (intsOf ds).map (b :: ·)
  | _ :: _ => none
theorem ints_rel : ∀ {ds : List D} {vs : List V} {bs : List Int}, Reps K F vs ds → intsOf ds = some bs → vs = bs.map V.int
  | [], _, _, r, e => by cases r; cases e; rfl
  | .int b :: ds, _, _, r, e => by
    cases r with
    | cons r t =>
      cases r
      unfold intsOf at e
      obtain ⟨cs, e1, e2⟩ := Option.map_eq_some_iff.mp e
      subst e2
      rw [ints_rel t e1]; rfl
  | .non :: _, _, _, _, e => by cases e
  | .bl _ :: _, _, _, _, e => by cases e
  | .str _ :: _, _, _, _, e => by cases e
  | .tup _ :: _, _, _, _, e => by cases e
  | .lst _ :: _, _, _, _, e => by cases e
  | .klst _ :: _, _, _, _, e => by cases e
  | .exn _ :: _, _, _, _, e => by cases e
def sumD : List D → Res D
  | [.lst ds] => match intsOf ds with
    | some bs => .ok (.int bs.sum)
    | none => .stuck
  | _ => .stuck
theorem sum_nx : NoX1 sumD := fun ds x => by unfold sumD; (repeat' split) <;> (intro h; cases h)
theorem sum_ok (hc : X.calm = true) : CallD X (.builtin "sum") sumD := by
  intro ds
  refine ⟨_, cr_sum hc, fun vs F H Q s r0 o => ?_⟩
  unfold sumD at o
  split at o
  · split at o
    · rename_i ds bs e
      obtain ⟨v, rfl, r⟩ := rds_one r0
      obtain ⟨a, vs, rfl, h1, h2, h3⟩ := rd_lst s r
      have q := ints_rel h3 e
      subst q
      exact ⟨a, bs, rfl, SqL.of h1, o.here s (.int _)⟩
    · exact o.elim
  · exact o.elim
def strD : List D → Res D
  | [.int i] => if i.natAbs.log2 < 1920 then .ok (.str (toString i)) else .stuck
  | _ => .stuck
theorem str_nx : NoX1 strD := fun ds x => by unfold strD; (repeat' split) <;> (intro h; cases h)
theorem str_ok : CallD X (.type "str") strD := by
  intro ds
  refine ⟨_, call_str_int, fun vs F H Q s r0 o => ?_⟩
  unfold strD at o
  split at o
  · split at o
    · obtain ⟨v, rfl, r⟩ := rds_one r0
      rw [rd_int r]
      exact ⟨_, rfl, by assumption, o.here s (.str _)⟩
    · exact o.elim
  · exact o.elim
/-- list(xs), a list of the def's own -/
theorem eo_list {x : Str} {p : Pos} {e : Expr} {f : Den} (hm : X.mg x = none) (ha : ER X c e f) (hg : Gl X x := by rfl) (hv : bootBuiltins x = some (.type "list") := by decide +kernel)
    (hn : x ≠ "__name__" := by decide) (hdb : (x == ("__debug__" : Str)) = false := by decide) (he : starEach [e] X.env = (false, eval e X.env) :: starEach [] X.env := by rfl) (hpl : (backTo pos (starEach [] X.env)).any (·.1) = false := by rfl) :
    EO X c (.Call (.Name x p) [e] [] pos) (fun ρ => (f ρ).bind fun d => listD [d]) := by
  intro ρ σ F H Q S o
  refine wp_of (pe_callTy call_list_of hg hm hv (pa_cons (pe_wp e) pa_nil he) hn hdb he hpl) (ha ρ σ F H _ S (o.seq fun d F1 H1 v _ g1 r1 o1 => ?_))
  unfold listD at o1
  split at o1
  · rename_i d' e1
    cases e1
    split at o1
    · rename_i ds e
      obtain ⟨a, vs, rfl, h1, h2, h3⟩ := rd_items g1.fh r1 e
      have fin : ∀ l, H1 l = none → Q (.ref l) (upd H1 l (.lst vs)) := fun l hl => by
        have gg := (Grow.refl g1.fh).allocOwn (p := l) (o := .lst vs) hl
        have fp : F1 l = none := by
          cases q : F1 l with
          | none => rfl
          | some u => rw [g1.fh l u q] at hl; cases hl
        exact o1 _ _ _ gg ⟨l, vs, ds, rfl, rfl, upd_same, fp, g1.h.free hl, h2, h3⟩
      rcases h1 with ⟨h1, _⟩ | ⟨h1, _⟩
      · exact ⟨a, vs, rfl, .inl h1, fin⟩
      · exact ⟨a, vs, rfl, .inr h1, fin⟩
    · exact o1.elim
  · rename_i n; exact absurd rfl (n _)
/-- a + b of lists, a list of the def's own -/
def catD : D → D → Res D
  | .lst xs, .lst ys => if xs.length + ys.length ≤ sizeLine then .ok (.lst (xs ++ ys)) else .stuck
  | _, _ => .stuck
theorem eo_cat {a b : Expr} {fa fb : Den} (ha : ER X c a fa) (hb : ER X c b fb) : EO X c (.BinOp a .Add b pos) (dBin catD fa fb) := by
  intro ρ σ F H Q S o
  refine wp_of (pe_op op_cat (pe_wp a) (pe_wp b)) (ha ρ σ F H _ S (o.seq fun d1 F1 H1 v _ g1 r1 o1 => ?_))
  refine hb ρ σ F1 H1 _ (S.grow g1) (o1.seq fun d2 F2 H2 u _ g2 r2 o2 => ?_)
  unfold catD at o2
  split at o2
  · split at o2
    · rename_i xs ys z
      obtain ⟨p, vs, rfl, h1, z1, q1⟩ := rd_lst g1.fh r1
      obtain ⟨q, ws, rfl, h2, z2, q2⟩ := rd_lst g2.fh r2
      have l1 := q1.length
      have l2 := q2.length
      refine ⟨p, q, vs, ws, rfl, rfl, g2.h _ _ h1, h2, by omega, fun l hl => ?_⟩
      have gg := (Grow.refl g2.fh).allocOwn (p := l) (o := .lst (vs ++ ws)) hl
      have fp : F2 l = none := by
        cases q : F2 l with
        | none => rfl
        | some u => rw [g2.fh l u q] at hl; cases hl
      exact o2 _ _ _ gg ⟨l, vs ++ ws, _, rfl, rfl, upd_same, fp, g1.h.free (g2.h.free hl), by rw [List.length_append]; omega, (q1.mono g2.f).append q2⟩
    · exact o2.elim
  · exact o2.elim

/-! ### isinstance -/
def tyName : D → Option String
  | .non => some "NoneType"
  | .bl _ => some "bool"
  | .int _ => some "int"
  | .str _ => some "str"
  | .tup _ => some "tuple"
  | .lst _ => some "list"
  | .klst _ => some "list"
  | .exn _ => none
def isSub (a b : String) : Bool := a == b || (a == "bool" && b == "int")
def tyList : List String := ["NoneType", "bool", "int", "str", "tuple", "list"]
def clsList : List String := ["int", "bool", "tuple", "list", "str", "dict"]
theorem kit_all : (tyList.all fun a => clsList.all fun b => kitB a b == some (isSub a b)) = true := by decide +kernel
theorem kit_one {a b : String} (ha : a ∈ tyList) (hb : b ∈ clsList) : PySem.W.kitOne K (.type a) (.type b) = some (isSub a b) := by
  have h := List.all_eq_true.mp (List.all_eq_true.mp kit_all a ha) b hb
  exact kit_ty (beq_iff_eq.mp h)
theorem ty_rel {v : V} {d : D} {t : String} (s : Same F H) (r : Rd' K F H v d) (e : tyName d = some t) : TyX K H v (.type t) ∧ t ∈ tyList := by
  have tupT : ∀ {a : Addr} {xs : List V}, SqT K H a xs → TyX K H (.ref a) (.type "tuple") := fun h => by
    rcases h with (h | ⟨o, h⟩) | ⟨o, its, n, h1, h2, _⟩
    · exact .base (.tup h)
    · exact .fTuple h
    · exact .kTuple h1 h2
  have lstT : ∀ {a : Addr} {xs : List V}, SqL K H a xs → TyX K H (.ref a) (.type "list") := fun h => by
    rcases h with (h | ⟨o, h⟩) | ⟨o, its, n, h1, h2, _⟩
    · exact .base (.lst h)
    · exact .base (.frz h)
    · exact .kList h1 h2
  cases d with
  | non => rw [rd_non r]; cases e; exact ⟨.base .non, by decide⟩
  | bl b => rw [rd_bl r]; cases e; exact ⟨.base (.bl b), by decide⟩
  | int i => rw [rd_int r]; cases e; exact ⟨.base (.int i), by decide⟩
  | str x => rw [rd_str r]; cases e; exact ⟨.base (.str x), by decide⟩
  | tup ds => cases e; obtain ⟨a, vs, rfl, _, h, _⟩ := rd_tup s r; exact ⟨tupT h, by decide⟩
  | lst ds => cases e; obtain ⟨a, vs, rfl, h, _⟩ := rd_lst s r; exact ⟨lstT (SqL.of h), by decide⟩
  | klst ds => cases e; obtain ⟨a, vs, rfl, h, _⟩ := rd_klst s r; exact ⟨lstT h, by decide⟩
  | exn _ => cases e
def isiD (T : String) (d : D) : Res D := match tyName d with
  | some t => .ok (.bl (isSub t T))
  | none => .stuck
/-- isinstance(e, T), T a built-in type -/
theorem ej_isi (T : String) {e : Expr} {f : Den} {p p2 : Pos} {x : Str} (he : ER X c e f) (hm : X.mg "isinstance" = none) (hm2 : X.mg x = none) (hT : T ∈ clsList := by decide) (hg : Gl X "isinstance" := by rfl) (hg2 : Gl X x := by rfl)
    (hv : bootBuiltins "isinstance" = some (.builtin "isinstance") := by decide +kernel) (hv2 : bootBuiltins x = some (.type T) := by decide +kernel) (hn2 : x ≠ "__name__" := by decide) (hd2 : (x == ("__debug__" : Str)) = false := by decide)
    (s1 : starEach [e, .Name x p2] X.env = (false, eval e X.env) :: starEach [.Name x p2] X.env := by rfl) (s2 : starEach [.Name x p2] X.env = (false, eval (.Name x p2) X.env) :: starEach [] X.env := by rfl)
    (hpl : (backTo pos (starEach [.Name x p2] X.env)).any (·.1) = false := by rfl) : EJ X c (.Call (.Name "isinstance" p) [e, .Name x p2] [] pos) (dUn (isiD T) f) := by
  intro ρ σ F H Q S o
  refine wp_of (pe_callB call_isi hg hm hv (pa_cons (pe_wp e) (pa_cons (pe_bltn (v := .ty T) hg2 hm2 hv2 rfl hn2 hd2) pa_nil s2) s1) (by decide) (by decide) s1 hpl) (he ρ σ F H _ S (o.seq fun d F1 H1 v _ g1 r1 o1 => ?_))
  unfold isiD at o1
  split at o1
  · rename_i t e1
    obtain ⟨h1, h2⟩ := ty_rel g1.fh r1 e1
    exact ⟨v, .ty T, _, _, _, rfl, .ty T, h1, kit_one h2 hT, o1 F1 H1 _ (Grow.refl g1.fh) (.bl _)⟩
  · exact o1.elim
def isi2D (T U : String) (d : D) : Res D := match tyName d with
  | some t => .ok (.bl (isSub t T || isSub t U))
  | none => .stuck
/-- isinstance(e, (T, U)) -/
theorem ej_isi2 (T U : String) {e : Expr} {f : Den} {p p2 p3 p4 : Pos} {k : Nat} {x y : Str} (he : ER X c e f) (hm : X.mg "isinstance" = none) (hm2 : X.mg x = none) (hm3 : X.mg y = none) (hT : T ∈ clsList := by decide) (hU : U ∈ clsList := by decide) (hg : Gl X "isinstance" := by rfl) (hg2 : Gl X x := by rfl) (hg3 : Gl X y := by rfl)
    (hv : bootBuiltins "isinstance" = some (.builtin "isinstance") := by decide +kernel) (hv2 : bootBuiltins x = some (.type T) := by decide +kernel) (hn2 : x ≠ "__name__" := by decide) (hd2 : (x == ("__debug__" : Str)) = false := by decide)
    (hv3 : bootBuiltins y = some (.type U) := by decide +kernel) (hn3 : y ≠ "__name__" := by decide) (hd3 : (y == ("__debug__" : Str)) = false := by decide)
    (s1 : starEach [e, .Tuple [.Name x p2, .Name y p3] k p4] X.env = (false, eval e X.env) :: starEach [.Tuple [.Name x p2, .Name y p3] k p4] X.env := by rfl)
    (s2 : starEach [.Tuple [.Name x p2, .Name y p3] k p4] X.env = (false, eval (.Tuple [.Name x p2, .Name y p3] k p4) X.env) :: starEach [] X.env := by rfl)
    (s3 : starEach [.Name x p2, .Name y p3] X.env = (false, eval (.Name x p2) X.env) :: starEach [.Name y p3] X.env := by rfl) (s4 : starEach [.Name y p3] X.env = (false, eval (.Name y p3) X.env) :: starEach [] X.env := by rfl)
    (hpl : (backTo pos (starEach [.Tuple [.Name x p2, .Name y p3] k p4] X.env)).any (·.1) = false := by rfl) : EJ X c (.Call (.Name "isinstance" p) [e, .Tuple [.Name x p2, .Name y p3] k p4] [] pos) (dUn (isi2D T U) f) := by
  intro ρ σ F H Q S o
  refine wp_of (pe_callB call_isiT hg hm hv (pa_cons (pe_wp e) (pa_cons (pe_tup (pa_cons (pe_bltn (v := .ty T) hg2 hm2 hv2 rfl hn2 hd2) (pa_cons (pe_bltn (v := .ty U) hg3 hm3 hv3 rfl hn3 hd3) pa_nil s4) s3)) pa_nil s2) s1) (by decide) (by decide) s1 hpl) (he ρ σ F H _ S (o.seq fun d F1 H1 v _ g1 r1 o1 => ?_))
  unfold isi2D at o1
  split at o1
  · rename_i t e1
    obtain ⟨h1, h2⟩ := ty_rel g1.fh r1 e1
    refine ⟨by show 2 ≤ sizeLine; decide, fun q hq => ?_⟩
    have gg := (Grow.refl g1.fh).alloc (p := q) (o := .tup [.ty T, .ty U]) hq
    have h1' : TyX X.K (upd H1 q (.tup [.ty T, .ty U])) v (.type t) := (ty_rel gg.fh (r1.grow gg) e1).1
    refine ⟨v, q, [.ty T, .ty U], _, [.type T, .type U], isSub t T || isSub t U, rfl, upd_same, .cons (.ty T) (.cons (.ty U) .nil), h1', kitAny_cons (kit_one h2 hT) (fun e2 => kitAny_cons (kit_one h2 hU) (fun e3 => ?_) (fun e3 => ?_)) (fun e2 => ?_), o1 _ _ _ gg (.bl _)⟩
    · rw [e2, e3]; rfl
    · rw [e2, e3]; rfl
    · rw [e2]; rfl
  · exact o1.elim
theorem kitAny_nil' {t : Value} : PySem.W.kitAny K t [] = some false := rfl

/-! ### comprehensions -/
abbrev Cc.no (c : Cc) : Cc := { c with W := fun _ _ _ _ => False }
def wipeE (ρ : En) : List Nat → En
  | [] => ρ
  | v :: vs => (wipeE ρ vs).set v none
theorem Sim.wipe {F0 H0 : Hp} {ρ : En} {σ : L2.St} (S : Sim K F0 H0 F H ρ σ) : ∀ vs : List Nat, Sim K F0 H0 F H (wipeE ρ vs) (L2.wipe σ vs)
  | [] => S
  | v :: vs => by unfold wipeE L2.wipe; exact (Sim.wipe S vs).wipe1 v
theorem wipe_get {σ : L2.St} : ∀ {vs : List Nat} {i : Nat}, (L2.wipe σ vs)[i]? = if i ∈ vs then (if i < σ.length then some none else none) else σ[i]?
  | [], i => by simp [L2.wipe]
  | v :: vs, i => by
    unfold L2.wipe
    by_cases e : v = i
    · subst e
      by_cases z : v < σ.length
      · rw [List.getElem?_set_self (by rw [wipe_length]; exact z)]; simp [z]
      · rw [List.getElem?_eq_none (by rw [List.length_set, wipe_length]; omega)]; simp [z]
    · rw [List.getElem?_set_ne e, wipe_get]
      have : (i ∈ v :: vs) ↔ i ∈ vs := by simp [Ne.symm e]
      simp only [this]
theorem wipe_same {σ τ : L2.St} {vs : List Nat} (hl : σ.length = τ.length) (h : ∀ i, i ∉ vs → σ[i]? = τ[i]?) : L2.wipe σ vs = L2.wipe τ vs := by
  apply List.ext_getElem?
  intro i
  rw [wipe_get, wipe_get, hl]
  by_cases e : i ∈ vs
  · rw [if_pos e, if_pos e]
  · rw [if_neg e, if_neg e]; exact h i e
theorem setsV_out : ∀ {is : List Nat} {ws : List V} {σ : L2.St} {i : Nat}, i ∉ is → (setsV is ws σ)[i]? = σ[i]?
  | [], _, _, _, _ => by unfold setsV; rfl
  | _ :: _, [], _, _, _ => by unfold setsV; rfl
  | j :: is, w :: ws, σ, i, h => by
    unfold setsV
    rw [setsV_out (fun z => h (List.mem_cons_of_mem _ z)), List.getElem?_set_ne (fun e => h (by simp [e]))]
theorem setsV_len : ∀ {is : List Nat} {ws : List V} {σ : L2.St}, (setsV is ws σ).length = σ.length
  | [], _, _ => by unfold setsV; rfl
  | _ :: _, [], _ => by unfold setsV; rfl
  | j :: is, w :: ws, σ => by unfold setsV; rw [setsV_len, List.length_set]
theorem wipe_asg {σ : L2.St} {vs : List Nat} {T : Tg} {v : V} {w : List V} (h : ∀ i ∈ slotsOf T, i ∈ vs) : L2.wipe (asgV T v w (L2.wipe σ vs)) vs = L2.wipe σ vs := by
  cases T with
  | nm i =>
    refine wipe_same (by show ((L2.wipe σ vs).set i (some v)).length = _; rw [List.length_set, wipe_length]) fun j hj => ?_
    have ne : i ≠ j := fun e => hj (e ▸ h i (by simp [slotsOf]))
    show ((L2.wipe σ vs).set i (some v))[j]? = _
    rw [List.getElem?_set_ne ne, wipe_get, if_neg hj]
  | tp is =>
    refine wipe_same (by show (setsV is w (L2.wipe σ vs)).length = _; rw [setsV_len, wipe_length]) fun j hj => ?_
    show (setsV is w (L2.wipe σ vs))[j]? = _
    have hj2 : j ∉ is := fun z => hj (h j z)
    rw [setsV_out hj2, wipe_get, if_neg hj]
def TsJ (X : Cx) (c : Cc) (ifs : List Expr) (t : En → Res Bool) : Prop := ∀ ρ σ F H Q, Sim X.K c.F0 c.H0 F H ρ σ → Out X c σ F H (fun _ _ (v : Bool) d => v = d) (t ρ) Q →
  ∀ (pins : List (Addr × Obj)) (s : Shared), Inv X pins σ H s → wpAny (model X.prog X.w) X.A (forIn ifs true fun c r => if r = true then do let ok ← isTrue c X.env (eval c X.env); pure (ForInStep.yield ok) else pure (ForInStep.yield r)) (TP X pins σ Q) X.xe s
def tYesB : En → Res Bool := fun _ => .ok true
theorem ts_nil : TsJ X c [] tYesB := fun ρ σ F H Q S o pins s I => pts_nil.run pins s σ H Q I (o F H true (Grow.refl S.g.fh) rfl)
theorem ts_one {e : Expr} {t : En → Res Bool} (h : TJ X c e t) : TsJ X c [e] t := fun ρ σ F H Q S o pins s I => (pts_one (pt_wp e)).run pins s σ H Q I (h ρ σ F H Q S o)
def compD (T : Tg) (t : En → Res Bool) (g : Den) : List D → En → Res (List D)
  | [], _ => .ok []
  | d :: ds, ρ => (asg T d ρ).bind fun ρ1 => (t ρ1).bind fun b => if b = true then (g ρ1).bind fun y => (compD T t g ds ρ).bind fun ys => .ok (y :: ys) else compD T t g ds ρ
def compR (r : Res (List D)) : Res D := match r with
  | .ok ys => .ok (.lst ys)
  | _ => .stuck
def dComp (f : DenI) (vs : List Nat) (T : Tg) (t : En → Res Bool) (g : Den) : Den := fun ρ => (f ρ).bind fun ds => if ds.length ≤ sizeLine then compR (compD T t g ds (wipeE ρ vs)) else .stuck
theorem bind_ok {α β : Type} {r : Res α} {k : α → Res β} {b : β} (h : r.bind k = .ok b) : ∃ a, r = .ok a ∧ k a = .ok b := by
  cases r with
  | ok a => exact ⟨a, rfl, h⟩
  | exn x => cases h
  | stuck => cases h

/-- the readings of a block's parts, whatever the block's frame -/
abbrev Blk (X : Cx) (scope : Scope) (s : Shared) (H : Hp) (C : Addr) (cl : List (Str × Addr)) (fp : List Addr) : Cx := X.blk s H scope (compEnvC scope cl C X.env) fp
def gB (X : Cx) (scope : Scope) (tg : Expr) : TG := fun v σ H Q => ∀ s H' C cl fp, WpG (Blk X scope s H' C cl fp) tg v σ H Q
def tB (X : Cx) (scope : Scope) (ifs : List Expr) : TT := fun σ H Q => ∀ s H' C cl fp, ∀ (pins : List (Addr × Obj)) (s1 : Shared), Inv (Blk X scope s H' C cl fp) pins σ H s1 → wpAny (model X.prog X.w) X.A (forIn ifs true fun c r => if r = true then do let ok ← isTrue c (compEnvC scope cl C X.env) (eval c (compEnvC scope cl C X.env)); pure (ForInStep.yield ok) else pure (ForInStep.yield r)) (TP (Blk X scope s H' C cl fp) pins σ Q) (fun _ _ => False) s1
def eB (X : Cx) (scope : Scope) (elt : Expr) : TE := fun σ H Q => ∀ s H' C cl fp, Wp (Blk X scope s H' C cl fp) elt σ H Q
theorem pg_b {scope : Scope} (tg : Expr) : ∀ (s : Shared) (H : Hp) (C : Addr) (cl : List (Str × Addr)) (fp : List Addr), PG (X.blk s H scope (compEnvC scope cl C X.env) fp) tg (gB X scope tg) := fun s H C cl fp => ⟨fun pins s1 σ _ v u Q I r h => h s _ C cl fp pins s1 u I r⟩
theorem pt_b {scope : Scope} (ifs : List Expr) : ∀ (s : Shared) (H : Hp) (C : Addr) (cl : List (Str × Addr)) (fp : List Addr), PTs (X.blk s H scope (compEnvC scope cl C X.env) fp) ifs (tB X scope ifs) := fun s H C cl fp => ⟨fun pins s1 σ _ Q I h => h s _ C cl fp pins s1 I⟩
theorem pe_b {scope : Scope} (elt : Expr) : ∀ (s : Shared) (H : Hp) (C : Addr) (cl : List (Str × Addr)) (fp : List Addr), PE (X.blk s H scope (compEnvC scope cl C X.env) fp) elt (eB X scope elt) := fun s H C cl fp => ⟨fun pins s1 σ _ Q I h => h s _ C cl fp pins s1 I⟩
theorem comp_core {elt tg : Expr} {ifs : List Expr} {scope : Scope} {vs : List Nat} {wi : TI} {f : DenI} {T : Tg} {t : En → Res Bool} {g : Den} {ρ : En} {σ : L2.St} {Q : VK}
    (qwi : ∀ ρ σ F H R, Sim X.K c.F0 c.H0 F H ρ σ → Out X c σ F H (fun F' H' (J : It) ds => IterOk X.K J (fun F1 H1 => Same F' F1 ∧ Same H' H1) ds) (f ρ) R → wi σ H R)
    (hg : ∀ s H C cl fp, GJ (Blk X scope s H C cl fp) tg T) (ht : ∀ s H C cl fp, TsJ (Blk X scope s H C cl fp) c.no ifs t) (he : ∀ s H C cl fp, EJ (Blk X scope s H C cl fp) c.no elt g) (hsl : ∀ i ∈ slotsOf T, i ∈ vs)
    (S : Sim X.K c.F0 c.H0 F H ρ σ) (o : Out X c σ F H (fun F' H' v d => Fresh X.K H F' H' v d) (dComp f vs T t g ρ) Q) :
    tLc wi (gB X scope tg) (tB X scope ifs) (eB X scope elt) vs σ H Q := by
  refine qwi ρ σ F H _ S (o.seq fun ds F1 H1 J _ g1 it o1 => ?_)
  intro A hA
  by_cases hz : ds.length ≤ sizeLine
  · rw [if_pos hz] at o1
    unfold compR at o1
    split at o1
    · rename_i ys ey
      have fA : F1 A = none := by
        cases q : F1 A with
        | none => rfl
        | some u => rw [g1.fh A u q] at hA; cases hA
      refine ⟨fun i m H' => m = ds.length - i ∧ i ≤ ds.length ∧ ∃ F' acc es rest, Grow F1 H1 F' H' ∧ H' A = some (.lst acc) ∧ F' A = none ∧ Reps X.K F' acc es ∧ acc.length ≤ i ∧ compD T t g (ds.drop i) (wipeE ρ vs) = .ok rest ∧ es ++ rest = ys,
        ⟨ds.length, by simp, Nat.zero_le _, F1, [], [], ys, (Grow.refl g1.fh).allocOwn hA, upd_same, fA, .nil, Nat.le_refl _, by simpa using ey, rfl⟩, ?_⟩
      rintro i m H' ⟨rfl, hi, F', acc, es, rest, g', hAc, hAf, hr, hl, ec, eys⟩
      have okH : Same F1 F' ∧ Same H1 H' := ⟨g'.f, g'.h⟩
      by_cases hlt : i < ds.length
      · refine .inr ⟨it.go i F' H' hlt okH g'.fh, fun H2 => ∃ F2 acc es rest, Grow F1 H1 F2 H2 ∧ H2 A = some (.lst acc) ∧ F2 A = none ∧ Reps X.K F2 acc es ∧ acc.length ≤ i + 1 ∧ compD T t g (ds.drop (i + 1)) (wipeE ρ vs) = .ok rest ∧ es ++ rest = ys,
          fun H2 h => ⟨ds.length - (i + 1), by omega, rfl, hlt, h⟩, fun x H2 y => ?_⟩
        have ed : ds[i]? = some ds[i] := by simp [hlt]
        obtain ⟨F2, g2, r2⟩ := it.yld i ds[i] F' H' x H2 ed okH g'.fh y
        rw [List.drop_eq_getElem_cons hlt] at ec
        unfold compD at ec
        obtain ⟨ρ1, e1, ec⟩ := bind_ok ec
        obtain ⟨b, e2, ec⟩ := bind_ok ec
        have gg := g'.trans g2
        have Sw : Sim X.K c.F0 c.H0 F2 H2 (wipeE ρ vs) (L2.wipe σ vs) := ((S.grow g1).grow gg).wipe vs
        intro s0 H0' C cl fp
        refine gj_asg (c := c) (hg s0 H0' C cl fp) Sw r2 e1 fun σ' S' hw => ⟨?_, ?_⟩
        · obtain ⟨w, rfl⟩ := hw
          exact wipe_asg hsl
        · intro s0 H0' C cl fp
          refine ht s0 H0' C cl fp ρ1 σ' F2 H2 _ S' ?_
          rw [e2]
          intro F3 H3 v g3 hv
          subst hv
          have S3 := S'.grow g3
          have A3 : H3 A = some (.lst acc) := g3.h _ _ (g2.h _ _ hAc)
          have nA : H' A ≠ none := by rw [hAc]; exact fun z => nomatch z
          have f2 : F2 A = none := g2.new A nA hAf
          have f3 : F3 A = none := g3.new A (Same.ne g2.h nA) f2
          cases v with
          | false =>
            rw [if_neg Bool.false_ne_true] at ec ⊢
            exact ⟨F3, acc, es, rest, gg.trans g3, A3, f3, hr.mono (g2.f.trans g3.f), by omega, ec, eys⟩
          | true =>
            rw [if_pos rfl] at ec ⊢
            obtain ⟨yv, e3, ec⟩ := bind_ok ec
            obtain ⟨rest', e4, ec⟩ := bind_ok ec
            cases ec
            intro s0 H0' C cl fp
            refine he s0 H0' C cl fp ρ1 σ' F3 H3 _ S3 ?_
            rw [e3]
            intro F4 H4 v4 g4 r4
            have A4 : H4 A = some (.lst acc) := g4.h _ _ A3
            have f4 : F4 A = none := g4.new A (by rw [A3]; exact fun z => nomatch z) f3
            refine ⟨acc, A4, by omega, F4, acc ++ [v4], es ++ [yv], rest', ?_, upd_same, f4, (hr.mono ((g2.f.trans g3.f).trans g4.f)).append (.cons r4 .nil), by rw [List.length_append, List.length_singleton]; omega, e4, by rw [List.append_assoc]; exact eys⟩
            have g5 := (gg.trans g3).trans g4
            refine ⟨g5.f, fun b o q => ?_, fun b o q => ?_, g5.new⟩
            · rw [upd_ne (ne_of_none q hA)]; exact g5.h _ _ q
            · rw [upd_ne (ne_of_none q f4)]; exact g5.fh _ _ q
      · have e : i = ds.length := by omega
        subst e
        rw [List.drop_length] at ec
        cases ec
        rw [List.append_nil] at eys
        subst eys
        refine .inl ⟨it.stop _ F' H' (Nat.le_refl _) okH g'.fh, o1 F' H' _ g' ⟨A, acc, es, rfl, rfl, hAc, hAf, g1.h.free hA, by omega, hr⟩⟩
    · exact o1.elim
  · rw [if_neg hz] at o1; exact o1.elim
theorem eo_comp {elt tg iter : Expr} {ifs : List Expr} {scope : Scope} {own : List (Str × Nat)} {f : DenI} {T : Tg} {t : En → Res Bool} {g : Den} (hc : X.calm = true) (hN : X.N.Nodup) (hi : IC X c tg iter f) (ok : BlkOk X.N X.env.scope scope own)
    (hg : ∀ s H C cl fp, GJ (Blk X scope s H C cl fp) tg T) (ht : ∀ s H C cl fp, TsJ (Blk X scope s H C cl fp) c.no ifs t) (he : ∀ s H C cl fp, EJ (Blk X scope s H C cl fp) c.no elt g) (hsl : ∀ i ∈ slotsOf T, i ∈ own.map (·.2))
    (hs : ∀ x, foldedSetIterable iter X.env x = pure x := by intro _; rfl) : EO X c (.ListComp elt [⟨tg, iter, ifs, 0⟩] scope pos) (dComp f (own.map (·.2)) T t g) := by
  obtain ⟨wi, pwi, qwi⟩ := hi.ok
  intro ρ σ F H Q S o
  exact wp_of (pe_lc hc hN pwi ok (pg_b tg) (pt_b ifs) (pe_b elt) hs)
    (comp_core qwi hg ht he hsl S o)
/-- name = [..] on one line -/
theorem sj_setC (i : Nat) {y : Str} {py spos : Pos} {elt tg iter : Expr} {ifs : List Expr} {scope : Scope} {own : List (Str × Nat)} {f : DenI} {T : Tg} {t : En → Res Bool} {g : Den} (hc : X.calm = true) (hN : X.N.Nodup) (hi : IC X c tg iter f) (ok : BlkOk X.N X.env.scope scope own)
    (hg : ∀ s H C cl fp, GJ (Blk X scope s H C cl fp) tg T) (ht : ∀ s H C cl fp, TsJ (Blk X scope s H C cl fp) c.no ifs t) (he : ∀ s H C cl fp, EJ (Blk X scope s H C cl fp) c.no elt g) (hsl : ∀ i ∈ slotsOf T, i ∈ own.map (·.2))
    (hsw : swapsWith (.ListComp elt [⟨tg, iter, ifs, 0⟩] scope pos) (some (.Name y py)) spos.line X.env = pure true) (hy : X.N[i]? = some y := by rfl) (hyl : X.env.scope.names.lookup y = some .local := by rfl)
    (hs : ∀ x, foldedSetIterable iter X.env x = pure x := by intro _; rfl) : SJ X c (.Assign [.Name y py] (.ListComp elt [⟨tg, iter, ifs, 0⟩] scope pos) spos) (sSetO i (dComp f (own.map (·.2)) T t g)) := by
  obtain ⟨wi, pwi, qwi⟩ := hi.ok
  intro ρ σ F H D S o
  refine wps_of (ps_setLc hc hN hy hyl hsw pwi ok (pg_b tg) (pt_b ifs) (pe_b elt) hs) ?_
  exact comp_core (Q := fun x H1 => gName i x σ H1 D.nx) qwi hg ht he hsl S (lift_out S o fun d F' H' v _ g r o' => setO_core S g r o')

/-! ### enumerate(list), zip -/
def enumL (ds : List D) : List D := ds.zipIdx.map fun p => .tup [.int (p.2 : Int), p.1]
theorem enumL_get {ds : List D} {i : Nat} {d : D} (h : (enumL ds)[i]? = some d) : ∃ e, ds[i]? = some e ∧ d = .tup [.int (i : Int), e] := by
  unfold enumL at h
  rw [List.getElem?_map] at h
  obtain ⟨p, e1, rfl⟩ := Option.map_eq_some_iff.mp h
  rw [List.getElem?_zipIdx] at e1
  obtain ⟨q, e2, e3⟩ := Option.map_eq_some_iff.mp e1
  cases e3
  exact ⟨q, e2, by simp⟩
theorem enumL_len {ds : List D} : (enumL ds).length = ds.length := by unfold enumL; simp
theorem iter_enum {a : Addr} {vs : List V} {ds : List D} {ok : Hp → Hp → Prop} (r : Reps K F vs ds) (hok : ∀ F1 H1, ok F1 H1 → Same F1 H1 → Same F F1 ∧ SqL K H1 a vs) : IterOk K (Ite K a) ok (enumL ds) where
  go := fun i F1 H1 hi h s => by
    rw [enumL_len] at hi
    obtain ⟨k1, k2⟩ := hok F1 H1 h s
    exact ⟨vs, vs[i]'(by rw [r.length]; exact hi), k2, by simp [r.length, hi]⟩
  yld := fun i d F1 H1 x H2 e h s y => by
    obtain ⟨k1, k2⟩ := hok F1 H1 h s
    obtain ⟨p, v, rfl, hp, rfl, y⟩ := y
    obtain ⟨d', e1, rfl⟩ := enumL_get e
    obtain ⟨v', h1, h2⟩ := r.get e1
    have := y vs k2
    rw [h1] at this; cases this
    have gg := (Grow.refl s).alloc (p := p) (o := .tup [.int (i : Nat), v]) hp
    exact ⟨_, gg, .tup (SqT.of upd_same) (by show 2 ≤ sizeLine; decide) (.cons (.int _) (.cons (h2.mono (k1.trans gg.f)) .nil))⟩
  stop := fun i F1 H1 hi h s => by
    rw [enumL_len] at hi
    obtain ⟨k1, k2⟩ := hok F1 H1 h s
    exact ⟨vs, k2, by rw [r.length]; exact hi⟩
def lstItems : D → Option (List D)
  | .lst ds => some ds
  | .klst ds => some ds
  | _ => none
def enumR : List D → Res (List D)
  | [d] => match lstItems d with
    | some ds => .ok (enumL ds)
    | none => .stuck
  | _ => .stuck
def iEnumD (fs : DenA) : DenI := fun ρ => (fs ρ).bind enumR
theorem rd_lstItems {v : V} {d : D} {ds : List D} (s : Same F H) (h : Rd' K F H v d) (e : lstItems d = some ds) : ∃ a vs, v = .ref a ∧ SqL K H a vs ∧ vs.length ≤ sizeLine ∧ Reps K F vs ds := by
  cases d with
  | lst es => cases e; obtain ⟨a, vs, h1, h2, h3, h4⟩ := rd_lst s h; exact ⟨a, vs, h1, SqL.of h2, h3, h4⟩
  | klst es => cases e; obtain ⟨a, vs, h1, h2, h3, h4⟩ := rd_klst s h; exact ⟨a, vs, h1, h2, h3, h4⟩
  | _ => cases e
theorem enumR_shape {es ds : List D} (h : enumR es = .ok ds) : ∃ d l, es = [d] ∧ lstItems d = some l ∧ ds = enumL l := by
  unfold enumR at h
  split at h
  · split at h
    · cases h; exact ⟨_, _, rfl, by assumption, rfl⟩
    · cases h
  · cases h
theorem enumR_nx (es : List D) (x : Str) : enumR es ≠ .exn x := by unfold enumR; (repeat' split) <;> (intro h; cases h)
theorem ic_enum {e : Expr} {fs : DenA} {p tpos : Pos} {elts : List Expr} {kk : Nat} (hm : X.mg "enumerate" = none) (ha : AR X c [e] fs) (hg : Gl X "enumerate" := by rfl) (hs : starEach [e] X.env = [(false, eval e X.env)] := by rfl) :
    IC X c (.Tuple elts kk tpos) (.Call (.Name "enumerate" p) [e] [] pos) (iEnumD fs) := by
  refine ⟨_, pi_enum hg hm (pa_wp _) hs, fun ρ σ F H R S o => ha ρ σ F H _ S (o.seq fun es F1 H1 vs e0 g1 r1 o1 => ?_)⟩
  cases q : enumR es with
  | ok ds =>
    rw [q] at o1
    obtain ⟨d, l, rfl, e1, rfl⟩ := enumR_shape q
    obtain ⟨v, rfl, r⟩ := rds_one r1
    obtain ⟨a, vs, rfl, h1, h2, h3⟩ := rd_lstItems g1.fh r e1
    exact ⟨a, vs, rfl, h1, o1 F1 H1 _ (Grow.refl g1.fh) (iter_enum h3 fun F2 H2 s s2 => ⟨s.1, s.2.seq h1⟩)⟩
  | exn x => exact absurd q (enumR_nx _ _)
  | stuck => rw [q] at o1; exact o1.elim
theorem rep_lstItems {v : V} {d : D} {ds : List D} (h : Rep K F v d) (e : lstItems d = some ds) : ∃ a vs, v = .ref a ∧ SqL K F a vs ∧ vs.length ≤ sizeLine ∧ Reps K F vs ds := by
  cases d with
  | lst es => cases e; cases h with | lst h1 h2 h3 => exact ⟨_, _, rfl, SqL.of h1, h2, h3⟩
  | klst es => cases e; cases h with | klst h1 h2 h3 => exact ⟨_, _, rfl, h1, h2, h3⟩
  | _ => cases e
theorem reps_one {vs : List V} {d : D} (h : Reps K F vs [d]) : ∃ v, vs = [v] ∧ Rep K F v d := by
  cases h with
  | cons r t => cases t; exact ⟨_, rfl, r⟩
theorem reps_two {vs : List V} {d e : D} (h : Reps K F vs [d, e]) : ∃ v u, vs = [v, u] ∧ Rep K F v d ∧ Rep K F u e := by
  cases h with
  | cons r t => cases t with | cons r2 t => cases t; exact ⟨_, _, rfl, r, r2⟩
theorem ij_enum {e : Expr} {fs : DenA} {p tpos : Pos} {elts : List Expr} {kk : Nat} (hm : X.mg "enumerate" = none) (ha : AJ X c [e] fs) (hg : Gl X "enumerate" := by rfl) (hs : starEach [e] X.env = [(false, eval e X.env)] := by rfl) :
    IJ X c (.Tuple elts kk tpos) (.Call (.Name "enumerate" p) [e] [] pos) (iEnumD fs) := by
  refine ⟨_, pi_enum hg hm (pa_wp _) hs, fun ρ σ F H R S o => ha ρ σ F H _ S (o.seq fun es F1 H1 vs e0 g1 r1 o1 => ?_)⟩
  cases q : enumR es with
  | ok ds =>
    rw [q] at o1
    obtain ⟨d, l, rfl, e1, rfl⟩ := enumR_shape q
    obtain ⟨v, rfl, r⟩ := reps_one r1
    obtain ⟨a, vs, rfl, h1, h2, h3⟩ := rep_lstItems r e1
    exact ⟨a, vs, rfl, g1.fh.seq h1, o1 F1 H1 _ (Grow.refl g1.fh) (iter_enum h3 fun F2 H2 s s2 => ⟨s, (s.trans s2).seq h1⟩)⟩
  | exn x => exact absurd q (enumR_nx _ _)
  | stuck => rw [q] at o1; exact o1.elim
/-- zip of two lists, of two tuples -/
def zipL (ds es : List D) : List D := (ds.zip es).map fun p => .tup [p.1, p.2]
theorem zipL_get {ds es : List D} {i : Nat} {d : D} (h : (zipL ds es)[i]? = some d) : ∃ e f, ds[i]? = some e ∧ es[i]? = some f ∧ d = .tup [e, f] := by
  unfold zipL at h
  rw [List.getElem?_map] at h
  obtain ⟨p, e1, rfl⟩ := Option.map_eq_some_iff.mp h
  obtain ⟨h1, h2⟩ := List.getElem?_zip_eq_some.mp e1
  exact ⟨_, _, h1, h2, rfl⟩
theorem zipL_len {ds es : List D} : (zipL ds es).length = min ds.length es.length := by unfold zipL; simp
theorem iter_zip {a b : Addr} {vs ws : List V} {ds es : List D} {ok : Hp → Hp → Prop} (r : Reps K F vs ds) (r' : Reps K F ws es) (hok : ∀ F1 H1, ok F1 H1 → Same F1 H1 → Same F F1 ∧ SqL K H1 a vs ∧ SqL K H1 b ws) : IterOk K (Itz K a b) ok (zipL ds es) where
  go := fun i F1 H1 hi h s => by
    rw [zipL_len] at hi
    obtain ⟨k1, k2, k3⟩ := hok F1 H1 h s
    have l1 := r.length
    have l2 := r'.length
    exact ⟨vs, ws, vs[i]'(by omega), ws[i]'(by omega), k2, k3, by simp, by simp⟩
  yld := fun i d F1 H1 x H2 e h s y => by
    obtain ⟨k1, k2, k3⟩ := hok F1 H1 h s
    obtain ⟨p, v, u, rfl, hp, rfl, y, y'⟩ := y
    obtain ⟨d1, d2, e1, e2, rfl⟩ := zipL_get e
    obtain ⟨v', h1, h2⟩ := r.get e1
    obtain ⟨u', h3, h4⟩ := r'.get e2
    have q1 := y vs k2
    have q2 := y' ws k3
    rw [h1] at q1; cases q1
    rw [h3] at q2; cases q2
    have gg := (Grow.refl s).alloc (p := p) (o := .tup [v, u]) hp
    exact ⟨_, gg, .tup (SqT.of upd_same) (by show 2 ≤ sizeLine; decide) (.cons (h2.mono (k1.trans gg.f)) (.cons (h4.mono (k1.trans gg.f)) .nil))⟩
  stop := fun i F1 H1 hi h s => by
    rw [zipL_len] at hi
    obtain ⟨k1, k2, k3⟩ := hok F1 H1 h s
    have l1 := r.length
    have l2 := r'.length
    exact ⟨vs, ws, k2, k3, by omega⟩
theorem iter_zipT {a b : Addr} {vs ws : List V} {ds es : List D} {ok : Hp → Hp → Prop} (r : Reps K F vs ds) (r' : Reps K F ws es) (hok : ∀ F1 H1, ok F1 H1 → Same F1 H1 → Same F F1 ∧ SqT K H1 a vs ∧ SqT K H1 b ws) : IterOk K (RZ.ItzT K a b) ok (zipL ds es) where
  go := fun i F1 H1 hi h s => by
    rw [zipL_len] at hi
    obtain ⟨k1, k2, k3⟩ := hok F1 H1 h s
    have l1 := r.length
    have l2 := r'.length
    exact ⟨vs, ws, vs[i]'(by omega), ws[i]'(by omega), k2, k3, by simp, by simp⟩
  yld := fun i d F1 H1 x H2 e h s y => by
    obtain ⟨k1, k2, k3⟩ := hok F1 H1 h s
    obtain ⟨p, v, u, rfl, hp, rfl, y, y'⟩ := y
    obtain ⟨d1, d2, e1, e2, rfl⟩ := zipL_get e
    obtain ⟨v', h1, h2⟩ := r.get e1
    obtain ⟨u', h3, h4⟩ := r'.get e2
    have q1 := y vs k2
    have q2 := y' ws k3
    rw [h1] at q1; cases q1
    rw [h3] at q2; cases q2
    have gg := (Grow.refl s).alloc (p := p) (o := .tup [v, u]) hp
    exact ⟨_, gg, .tup (SqT.of upd_same) (by show 2 ≤ sizeLine; decide) (.cons (h2.mono (k1.trans gg.f)) (.cons (h4.mono (k1.trans gg.f)) .nil))⟩
  stop := fun i F1 H1 hi h s => by
    rw [zipL_len] at hi
    obtain ⟨k1, k2, k3⟩ := hok F1 H1 h s
    have l1 := r.length
    have l2 := r'.length
    exact ⟨vs, ws, k2, k3, by omega⟩
def zipR : List D → Res (List D)
  | [.tup ds, .tup es] => .ok (zipL ds es)
  | [d, e] => match lstItems d, lstItems e with
    | some ds, some es => .ok (zipL ds es)
    | _, _ => .stuck
  | _ => .stuck
def iZipD (fs : DenA) : DenI := fun ρ => (fs ρ).bind zipR
theorem zipR_shape {es ds : List D} (h : zipR es = .ok ds) : (∃ a b, es = [.tup a, .tup b] ∧ ds = zipL a b) ∨ ∃ d e a b, es = [d, e] ∧ lstItems d = some a ∧ lstItems e = some b ∧ ds = zipL a b := by
  unfold zipR at h
  split at h
  · cases h; exact .inl ⟨_, _, rfl, rfl⟩
  · split at h
    · cases h; exact .inr ⟨_, _, _, _, rfl, by assumption, by assumption, rfl⟩
    · cases h
  · cases h
theorem zipR_nx (es : List D) (x : Str) : zipR es ≠ .exn x := by unfold zipR; (repeat' split) <;> (intro h; cases h)
theorem ic_zip {e e2 : Expr} {fs : DenA} {p tpos : Pos} {elts : List Expr} {kk : Nat} (hm : X.mg "zip" = none) (ha : AR X c [e, e2] fs) (hg : Gl X "zip" := by rfl) (hs : starEach [e, e2] X.env = (false, eval e X.env) :: starEach [e2] X.env := by rfl) (hpl : (backTo pos (starEach [e2] X.env)).any (·.1) = false := by rfl) :
    IC X c (.Tuple elts kk tpos) (.Call (.Name "zip" p) [e, e2] [] pos) (iZipD fs) := by
  refine ⟨_, RZ.pi_zipA hg hm (pa_wp _) hs hpl, fun ρ σ F H R S o => ha ρ σ F H _ S (o.seq fun es F1 H1 vs e0 g1 r1 o1 => ?_)⟩
  cases q : zipR es with
  | ok ds =>
    rw [q] at o1
    rcases zipR_shape q with ⟨x, y, rfl, rfl⟩ | ⟨d, e', x, y, rfl, e1, e3, rfl⟩
    · obtain ⟨v, u, rfl, r, r'⟩ := rds_two r1
      obtain ⟨a, vs, rfl, _, h1, h2, h3⟩ := rd_tup g1.fh r
      obtain ⟨b, ws, rfl, _, k1, k2, k3⟩ := rd_tup g1.fh r'
      exact ⟨a, b, vs, ws, rfl, .inr ⟨h1, k1, o1 F1 H1 _ (Grow.refl g1.fh) (iter_zipT h3 k3 fun F2 H2 s s2 => ⟨s.1, sqT_mono s.2 h1, sqT_mono s.2 k1⟩)⟩⟩
    · obtain ⟨v, u, rfl, r, r'⟩ := rds_two r1
      obtain ⟨a, vs, rfl, h1, h2, h3⟩ := rd_lstItems g1.fh r e1
      obtain ⟨b, ws, rfl, k1, k2, k3⟩ := rd_lstItems g1.fh r' e3
      exact ⟨a, b, vs, ws, rfl, .inl ⟨h1, k1, o1 F1 H1 _ (Grow.refl g1.fh) (iter_zip h3 k3 fun F2 H2 s s2 => ⟨s.1, s.2.seq h1, s.2.seq k1⟩)⟩⟩
  | exn x => exact absurd q (zipR_nx _ _)
  | stuck => rw [q] at o1; exact o1.elim
theorem ij_zip {e e2 : Expr} {fs : DenA} {p tpos : Pos} {elts : List Expr} {kk : Nat} (hm : X.mg "zip" = none) (ha : AJ X c [e, e2] fs) (hg : Gl X "zip" := by rfl) (hs : starEach [e, e2] X.env = (false, eval e X.env) :: starEach [e2] X.env := by rfl) (hpl : (backTo pos (starEach [e2] X.env)).any (·.1) = false := by rfl) :
    IJ X c (.Tuple elts kk tpos) (.Call (.Name "zip" p) [e, e2] [] pos) (iZipD fs) := by
  refine ⟨_, RZ.pi_zipA hg hm (pa_wp _) hs hpl, fun ρ σ F H R S o => ha ρ σ F H _ S (o.seq fun es F1 H1 vs e0 g1 r1 o1 => ?_)⟩
  cases q : zipR es with
  | ok ds =>
    rw [q] at o1
    rcases zipR_shape q with ⟨x, y, rfl, rfl⟩ | ⟨d, e', x, y, rfl, e1, e3, rfl⟩
    · obtain ⟨v, u, rfl, r, r'⟩ := reps_two r1
      cases r with
      | tup h1 h2 h3 =>
        cases r' with
        | tup k1 k2 k3 =>
          exact ⟨_, _, _, _, rfl, .inr ⟨sqT_mono g1.fh h1, sqT_mono g1.fh k1, o1 F1 H1 _ (Grow.refl g1.fh) (iter_zipT h3 k3 fun F2 H2 s s2 => ⟨s, sqT_mono (s.trans s2) h1, sqT_mono (s.trans s2) k1⟩)⟩⟩
    · obtain ⟨v, u, rfl, r, r'⟩ := reps_two r1
      obtain ⟨a, vs, rfl, h1, h2, h3⟩ := rep_lstItems r e1
      obtain ⟨b, ws, rfl, k1, k2, k3⟩ := rep_lstItems r' e3
      exact ⟨a, b, vs, ws, rfl, .inl ⟨g1.fh.seq h1, g1.fh.seq k1, o1 F1 H1 _ (Grow.refl g1.fh) (iter_zip h3 k3 fun F2 H2 s s2 => ⟨s, (s.trans s2).seq h1, (s.trans s2).seq k1⟩)⟩⟩
  | exn x => exact absurd q (zipR_nx _ _)
  | stuck => rw [q] at o1; exact o1.elim
end
end FV

set_option maxHeartbeats 4000000
/-! FV6: a def of the text, the law's end. -/
namespace FV
open PySem PySem.Spec PyProof.Rows L2

/-- a def of the text stands behind the top -/
structure At (K : PySem.W.Frag) (mg : Str → Option Value) (x : Str) (st : Stmt) : Prop where
  ex : ∃ f fd, Fun K x x st f fd ∧ mg x = some (.ref f)
theorem at_mk {K : PySem.W.Frag} {h : Heap} {mg : Str → Option Value} (X : K.In h) (G : h.Ns mainGlobals mg) {x : Str} {st : Stmt} {f : Addr} {oc : Value} {od an : Option Addr} {osl : Array (Option Value)} {kV doc pm cdv ct : Value}
    (a : PySem.W.nsIn K mainGlobals x = some (some (.ref f))) (l : K.lookup f = some ⟨oc, od, .func (PySem.W.fnOf x x (defArgs st) (defBody st) (defScope st) .none kV doc pm an cdv ct), osl⟩)
    (c : PySem.W.codeIn K cdv x = true) (k : PySem.W.keepIn K (.ref f) = true) : At K mg x st := ⟨⟨f, _, fun_mk (st := st) l c k, PySem.W.mg_of X G a⟩⟩
def BindOk (x : Str) (st : Stmt) (ps : List Str) : Prop := ∀ (kV doc pm : Value) (an : Option Addr) (cdv ct : Value) (us : List Value), us.length = ps.length → bindArgs (PySem.W.fnOf x x (defArgs st) (defBody st) (defScope st) .none kV doc pm an cdv ct) ⟨us, []⟩ = pure (ps.zip us)
section
variable {P : Program} {w : World} {K : PySem.W.Frag} {mg : Str → Option Value} {base : Heap}
theorem fnd_of {k n : Nat} {x : Str} {st : Stmt} {N ps : List Str} {g : SDen} (A : At K mg x st) (Sc : FnScope N ps (defScope st)) (hb : BindOk x st ps) (hn : ps.length = n)
    (hbody : ∀ (f : Addr) (cdv : Value) (A : Around) (outer : List PySem.Env) (s : Shared) (H F : Hp) (E : XK), Room k (A.deeper (envOfC x (defScope st) s.heap.objs.size f cdv)) →
      BJ (cxOf (L2.CX P w) P w K mg base N x (defScope st) f cdv A outer s H E) ⟨F, H, fun cls d _ H => E cls d H⟩ (defBody st) g) : FnD P w K mg base (k + 1) x n (runB g N.length) := by
  obtain ⟨f, fd, Fn, hm⟩ := A.ex
  subst hn
  exact ⟨f, fd, ps, fun_ok Fn Sc (hbody f), hm, Fn.kp, Fn.binds hb⟩
theorem cx_takes {N : List Str} {x : Str} {sc : Scope} {f : Addr} {cdv : Value} {A : Around} {outer : List PySem.Env} {s : Shared} {H : Hp} {E : XK} : Takes (cxOf (L2.CX P w) P w K mg base N x sc f cdv A outer s H E) (fun cls d _ H => E cls d H) := takes_of rfl rfl rfl rfl
theorem cx_passes {N : List Str} {x : Str} {sc : Scope} {f : Addr} {cdv : Value} {A : Around} {outer : List PySem.Env} {s : Shared} {H : Hp} {E : XK} : PassesOwn (model P w) (cxOf (L2.CX P w) P w K mg base N x sc f cdv A outer s H E).A (cxOf (L2.CX P w) P w K mg base N x sc f cdv A outer s H E).env (cxOf (L2.CX P w) P w K mg base N x sc f cdv A outer s H E).xe := PassesOwn.leaving
theorem room_u {k : Nat} {A : Around} (hr : Room k A) : A.units + 64 < cLine := hr.units
theorem room_u5 {k : Nat} {A : Around} (hr : Room k A) : A.units + 65 < cLine := by have := hr.un; omega
theorem no_cx {P : Program} {w : World} {l : List PySem.Env} {H : Hp} {s s' : Shared} {e : Value} (h : L2.CX P w l H s (fun _ _ _ => False) e s') : False := by
  obtain ⟨_, _, _, _, _, _, _, _, _, _, _, _, z⟩ := h
  exact z
/-- what the law's def is asked -/
def spLaw (K : PySem.W.Frag) (n : Nat) : Sp := fun vs H Q _ => ∃ (a : Addr) (ns : List Int), vs = [.ref a] ∧ ns.length ≤ n ∧ SqL K H a (ns.map V.int) ∧ ∀ H', Q (.bl true) H'
theorem law_of {k n : Nat} {x p : Str} {st : Stmt} {N : List Str} {g : SDen} {fa : Addr} (A : At K mg x st) (hfa : mg x = some (.ref fa)) (Sc : FnScope N [p] (defScope st)) (hb : BindOk x st [p]) (hz : n ≤ sizeLine)
    (hbody : ∀ (base : Heap) (f : Addr) (cdv : Value) (A : Around) (outer : List PySem.Env) (s : Shared) (H F : Hp) (E : XK), Room k (A.deeper (envOfC x (defScope st) s.heap.objs.size f cdv)) →
      BJ (cxOf (L2.CX P w) P w K mg base N x (defScope st) f cdv A outer s H E) ⟨F, H, fun cls d _ H => E cls d H⟩ (defBody st) g)
    (h : ∀ ns : List Int, ns.length ≤ n → runB g N.length [.klst (ns.map D.int)] = .ok (.bl true)) :
    ∃ fd : FuncData, (∀ (s : Shared) (u : Value), BindsTo s fd ⟨[u], []⟩ [(p, u)]) ∧ ∀ base : Heap, K.In base → base.Ns mainGlobals mg → FnOk P w K mg base (L2.CX P w) (k + 1) fa fd [p] (spLaw K n) := by
  obtain ⟨f, fd, Fn, hm⟩ := A.ex
  rw [hm] at hfa
  obtain rfl : f = fa := by cases hfa; rfl
  obtain ⟨oc, od, kV, doc, pm, an, cdv, ct, osl, e, lk, hcd⟩ := Fn.ex
  refine ⟨fd, fun s u => .of_eq (by rw [e]; exact hb kV doc pm an cdv ct [u] rfl), fun base _ _ => ?_⟩
  refine (fun_ok Fn Sc (hbody base _)).imp fun vs H Q E ⟨a, ns, e, hl, hs, q⟩ => ?_
  subst e
  refine ⟨rfl, H, [.klst (ns.map D.int)], Same.refl H, .cons (.klst hs (by rw [List.length_map]; omega) .ints) .nil, ?_⟩
  rw [h ns hl]
  intro F' H' v _ r
  cases r
  exact q H'
end
end FV

set_option maxHeartbeats 4000000
/-! FV7: the denotations evaluated (simp rows), facts of ints, parts. -/
namespace FV
open PySem L2
/-! ### simp rows -/
@[simp] theorem bind_ok' {α β : Type} {a : α} {k : α → Res β} : (Res.ok a).bind k = k a := rfl
@[simp] theorem bind_exn' {α β : Type} {x : Str} {k : α → Res β} : (Res.exn x : Res α).bind k = .exn x := rfl
@[simp] theorem bind_stuck' {α β : Type} {k : α → Res β} : (Res.stuck : Res α).bind k = .stuck := rfl
@[simp] theorem lift_ok {α : Type} {a : α} {ρ : En} {k : α → SRes} : lift (.ok a) ρ k = k a := rfl
@[simp] theorem lift_exn {α : Type} {x : Str} {ρ : En} {k : α → SRes} : lift (.exn x) ρ k = .exn x ρ := rfl
@[simp] theorem dBin_ev {g : D → D → Res D} {a b : Den} {ρ : En} : dBin g a b ρ = (a ρ).bind fun x => (b ρ).bind fun y => g x y := rfl
@[simp] theorem dUn_ev {g : D → Res D} {a : Den} {ρ : En} : dUn g a ρ = (a ρ).bind g := rfl
@[simp] theorem dC_ev {d : D} {ρ : En} : dC d ρ = .ok d := rfl
@[simp] theorem dVar_0 {d : D} {ρ : En} : dVar 0 (some (.frz d) :: ρ) = .ok d := rfl
@[simp] theorem dVar_s {i : Nat} {x : Option Sl} {ρ : En} : dVar (i + 1) (x :: ρ) = dVar i ρ := by simp [dVar]
@[simp] theorem dVarR_0 {d : D} {ρ : En} : dVarR 0 (some (.frz d) :: ρ) = .ok d := rfl
@[simp] theorem dVarR_0o {ds : List D} {ρ : En} : dVarR 0 (some (.own ds) :: ρ) = .ok (.lst ds) := rfl
@[simp] theorem dVarR_s {i : Nat} {x : Option Sl} {ρ : En} : dVarR (i + 1) (x :: ρ) = dVarR i ρ := by simp [dVarR]
@[simp] theorem aNil_ev {ρ : En} : aNil ρ = .ok [] := rfl
@[simp] theorem aCons_ev {f : Den} {g : DenA} {ρ : En} : aCons f g ρ = (f ρ).bind fun d => (g ρ).bind fun ds => .ok (d :: ds) := rfl
@[simp] theorem dTup_ev {g : DenA} {ρ : En} : dTup g ρ = (g ρ).bind fun ds => if ds.length ≤ 1000 then .ok (.tup ds) else .stuck := rfl
@[simp] theorem dLst_ev {g : DenA} {ρ : En} : dLst g ρ = (g ρ).bind fun ds => if ds.length ≤ 1000 then .ok (.lst ds) else .stuck := rfl
@[simp] theorem dCall_ev {g : List D → Res D} {fs : DenA} {ρ : En} : dCall g fs ρ = (fs ρ).bind g := rfl
@[simp] theorem tVal_ev {f : Den} {ρ : En} : tVal f ρ = (f ρ).bind asB := rfl
@[simp] theorem asB_ev {b : Bool} : asB (.bl b) = .ok b := rfl
@[simp] theorem tNotB_ev {t : En → Res Bool} {ρ : En} : tNotB t ρ = (t ρ).bind fun b => .ok (!b) := rfl
@[simp] theorem tAndB_ev {t u : En → Res Bool} {ρ : En} : tAndB t u ρ = (t ρ).bind fun b => if b = true then u ρ else .ok false := rfl
@[simp] theorem tOrB_ev {t u : En → Res Bool} {ρ : En} : tOrB t u ρ = (t ρ).bind fun b => if b = true then .ok true else u ρ := rfl
@[simp] theorem tYesB_ev {ρ : En} : tYesB ρ = .ok true := rfl
@[simp] theorem dAnd_ev {f g : Den} {ρ : En} : dAnd f g ρ = (f ρ).bind fun a => (asB a).bind fun b => if b = true then g ρ else .ok (.bl false) := rfl
@[simp] theorem dOr_ev {f g : Den} {ρ : En} : dOr f g ρ = (f ρ).bind fun a => (asB a).bind fun b => if b = true then .ok (.bl true) else g ρ := rfl
@[simp] theorem dIf_ev {t : En → Res Bool} {f g : Den} {ρ : En} : dIf t f g ρ = (t ρ).bind fun b => if b = true then f ρ else g ρ := rfl
@[simp] theorem notD_ev {b : Bool} : notD (.bl b) = .ok (.bl (!b)) := rfl
@[simp] theorem negD_ev {i : Int} : negD (.int i) = .ok (.int (-i)) := rfl
@[simp] theorem sSet_ev {i : Nat} {f : Den} {ρ : En} : sSet i f ρ = lift (f ρ) ρ fun d => .next (ρ.set i (some (.frz d))) := rfl
@[simp] theorem sSetO_ev {i : Nat} {f : Den} {ρ : En} : sSetO i f ρ = lift (f ρ) ρ (setO ρ i) := rfl
@[simp] theorem setO_ev {i : Nat} {ds : List D} {ρ : En} : setO ρ i (.lst ds) = .next (ρ.set i (some (.own ds))) := rfl
@[simp] theorem sExpr_ev {f : Den} {ρ : En} : sExpr f ρ = lift (f ρ) ρ fun _ => .next ρ := rfl
@[simp] theorem sRet_ev {f : Den} {ρ : En} : sRet f ρ = lift (f ρ) ρ fun d => .ret d := rfl
@[simp] theorem sPass_ev {ρ : En} : sPass ρ = .next ρ := rfl
@[simp] theorem sCont_ev {ρ : En} : sCont ρ = .cont ρ := rfl
@[simp] theorem sBrk_ev {ρ : En} : sBrk ρ = .brk ρ := rfl
@[simp] theorem sRetN_ev {ρ : En} : sRetN ρ = .ret .non := rfl
@[simp] theorem bNil_ev {ρ : En} : bNil ρ = .next ρ := rfl
@[simp] theorem bSeq_ev {g h : SDen} {ρ : En} : bSeq g h ρ = match g ρ with | .next ρ' => h ρ' | r => r := rfl
@[simp] theorem sIf_ev {t : En → Res Bool} {g h : SDen} {ρ : En} : sIf t g h ρ = lift (t ρ) ρ fun b => if b = true then g ρ else h ρ := by
  unfold sIf
  cases t ρ with
  | ok b => cases b <;> rfl
  | exn x => rfl
  | stuck => rfl
@[simp] theorem sAsg_ev {T : Tg} {f : Den} {ρ : En} : sAsg T f ρ = lift (f ρ) ρ fun d => match asg T d ρ with | .ok ρ' => .next ρ' | _ => .stuck := rfl
@[simp] theorem sPar_ev {i j : Nat} {f g : Den} {ρ : En} : sPar i j f g ρ = lift (f ρ) ρ fun a => lift (g ρ) ρ fun b => .next ((ρ.set i (some (.frz a))).set j (some (.frz b))) := rfl
@[simp] theorem sFor_ev {f : DenI} {T : Tg} {g : SDen} {ρ : En} : sFor f T g ρ = lift (f ρ) ρ fun ds => forD T g ds ρ := by
  unfold sFor; cases f ρ <;> rfl
@[simp] theorem asg_nm {i : Nat} {d : D} {ρ : En} : asg (.nm i) d ρ = .ok (ρ.set i (some (.frz d))) := rfl
@[simp] theorem asg_tp {is : List Nat} {ds : List D} {ρ : En} : asg (.tp is) (.tup ds) ρ = if ds.length = is.length then .ok (sets is ds ρ) else .stuck := rfl
@[simp] theorem sets_cons {i : Nat} {is : List Nat} {d : D} {ds : List D} {ρ : En} : sets (i :: is) (d :: ds) ρ = sets is ds (ρ.set i (some (.frz d))) := rfl
@[simp] theorem sets_nil {ds : List D} {ρ : En} : sets [] ds ρ = ρ := by cases ds <;> rfl
@[simp] theorem iSeq_ev {f : Den} {ρ : En} : iSeq f ρ = (f ρ).bind itemsR := rfl
@[simp] theorem itemsR_tup {ds : List D} : itemsR (.tup ds) = .ok ds := rfl
@[simp] theorem itemsR_lst {ds : List D} : itemsR (.lst ds) = .ok ds := rfl
@[simp] theorem itemsR_klst {ds : List D} : itemsR (.klst ds) = .ok ds := rfl
@[simp] theorem iRng_ev {fs : DenA} {ρ : En} : iRng fs ρ = (fs ρ).bind rng1 := rfl
@[simp] theorem iEnumD_ev {fs : DenA} {ρ : En} : iEnumD fs ρ = (fs ρ).bind enumR := rfl
@[simp] theorem enumR_lst {ds : List D} : enumR [.lst ds] = .ok (enumL ds) := rfl
@[simp] theorem enumR_klst {ds : List D} : enumR [.klst ds] = .ok (enumL ds) := rfl
@[simp] theorem iZipD_ev {fs : DenA} {ρ : En} : iZipD fs ρ = (fs ρ).bind zipR := rfl
@[simp] theorem zipR_tup {ds es : List D} : zipR [.tup ds, .tup es] = .ok (zipL ds es) := rfl
@[simp] theorem zipR_lst {ds es : List D} : zipR [.lst ds, .lst es] = .ok (zipL ds es) := rfl
@[simp] theorem addD_int {i j : Int} : addD (.int i) (.int j) = .ok (.int (i + j)) := rfl
@[simp] theorem subD_int {i j : Int} : subD (.int i) (.int j) = .ok (.int (i - j)) := rfl
@[simp] theorem ltD_int {i j : Int} : ltD (.int i) (.int j) = .ok (.bl (decide (i < j))) := rfl
@[simp] theorem leD_int {i j : Int} : leD (.int i) (.int j) = .ok (.bl (decide (i ≤ j))) := rfl
@[simp] theorem gtD_int {i j : Int} : gtD (.int i) (.int j) = .ok (.bl (decide (j < i))) := rfl
@[simp] theorem geD_int {i j : Int} : geD (.int i) (.int j) = .ok (.bl (decide (j ≤ i))) := rfl
@[simp] theorem lenD_tup {ds : List D} : lenD [.tup ds] = .ok (.int ds.length) := rfl
@[simp] theorem lenD_lst {ds : List D} : lenD [.lst ds] = .ok (.int ds.length) := rfl
@[simp] theorem lenD_klst {ds : List D} : lenD [.klst ds] = .ok (.int ds.length) := rfl
@[simp] theorem max2D_int {i j : Int} : max2D [.int i, .int j] = .ok (.int (if j > i then j else i)) := rfl
@[simp] theorem min2D_int {i j : Int} : min2D [.int i, .int j] = .ok (.int (if j < i then j else i)) := rfl
@[simp] theorem absD_int {i : Int} : absD [.int i] = .ok (.int (if i < 0 then -i else i)) := rfl
@[simp] theorem int1D_int {i : Int} : int1D [.int i] = .ok (.int i) := rfl
@[simp] theorem int1D_bl {b : Bool} : int1D [.bl b] = .ok (.int (if b then 1 else 0)) := rfl
@[simp] theorem tyName_1 : tyName .non = some "NoneType" := rfl
@[simp] theorem tyName_2 {b : Bool} : tyName (.bl b) = some "bool" := rfl
@[simp] theorem tyName_3 {i : Int} : tyName (.int i) = some "int" := rfl
@[simp] theorem tyName_4 {x : Str} : tyName (.str x) = some "str" := rfl
@[simp] theorem tyName_5 {ds : List D} : tyName (.tup ds) = some "tuple" := rfl
@[simp] theorem tyName_6 {ds : List D} : tyName (.lst ds) = some "list" := rfl
@[simp] theorem tyName_7 {ds : List D} : tyName (.klst ds) = some "list" := rfl
theorem isiD_ev {T t : String} {d : D} (h : tyName d = some t) : isiD T d = .ok (.bl (isSub t T)) := by unfold isiD; rw [h]
@[simp] theorem ixD_tup {ds : List D} {i : Int} : ixD (.tup ds) (.int i) = match atI ds i with | some e => .ok e | none => .stuck := rfl
@[simp] theorem ixD_lst {ds : List D} {i : Int} : ixD (.lst ds) (.int i) = match atI ds i with | some e => .ok e | none => .stuck := rfl
@[simp] theorem ixD_klst {ds : List D} {i : Int} : ixD (.klst ds) (.int i) = match atI ds i with | some e => .ok e | none => .stuck := rfl
theorem atI_lt {ds : List D} {i : Int} {d : D} (h0 : 0 ≤ i) (h : ds[i.toNat]? = some d) : atI ds i = some d := by
  have e := atI_nat (xs := ds) (j := i.toNat) (v := d) h
  rw [show ((i.toNat : Nat) : Int) = i by omega] at e
  exact e
theorem runB_ret {g : SDen} {n : Nat} {ds : List D} {d : D} (h : g (ds.map (fun d => some (.frz d)) ++ List.replicate (n - ds.length) none) = .ret d) : runB g n ds = .ok d := by unfold runB; rw [h]

/-! ### numbers -/
theorem mulOk_r {i j : Int} (h1 : -18446744073709551616 < j) (h2 : j < 18446744073709551616) : MulOk i j := .inl (.inr ⟨h1, h2⟩)
theorem mulOk_l {i j : Int} (h1 : -18446744073709551616 < i) (h2 : i < 18446744073709551616) : MulOk i j := .inl (.inl ⟨h1, h2⟩)
/-- below 2 ^ n either way -/
def Sm (n : Nat) (i : Int) : Prop := i.natAbs < 2 ^ n
theorem mulOk_w {i j : Int} {a b : Nat} (ha : Sm a i) (hb : Sm b j) (h0 : 0 < a) (h1 : 0 < b) (h : a + b ≤ 1000000) : MulOk i j := .inr (wide_mul ha hb h0 h1 h)
theorem sm_mul {i j : Int} {a b : Nat} (ha : Sm a i) (hb : Sm b j) : Sm (a + b) (i * j) := wide_lt ha hb
theorem sm_add {i j : Int} {a : Nat} (ha : Sm a i) (hb : Sm a j) : Sm (a + 1) (i + j) := by unfold Sm at *; rw [Nat.pow_succ]; omega
theorem sm_sub {i j : Int} {a : Nat} (ha : Sm a i) (hb : Sm a j) : Sm (a + 1) (i - j) := by unfold Sm at *; rw [Nat.pow_succ]; omega
theorem sm_neg {i : Int} {a : Nat} (ha : Sm a i) : Sm a (-i) := by unfold Sm at *; rw [Int.natAbs_neg]; exact ha
theorem sm_mono {i : Int} {a b : Nat} (ha : Sm a i) (h : a ≤ b) : Sm b i := Nat.lt_of_lt_of_le ha (Nat.pow_le_pow_right (by decide) h)
theorem sm_zero {a : Nat} : Sm a 0 := Nat.two_pow_pos a
theorem sm_one {a : Nat} (h : a ≠ 0) : Sm a 1 := Nat.one_lt_two_pow h
theorem divOk_of {j : Int} {b : Nat} (h : j ≠ 0) (hb : Sm b j) (h0 : 0 < b) (h9 : b ≤ 9000) : DivOk j := ⟨h, Nat.lt_of_lt_of_le (PySem.Flt.log2_lt_of h0 hb) h9⟩
theorem mulD_int {i j : Int} (h : MulOk i j) : mulD (.int i) (.int j) = .ok (.int (i * j)) := if_pos h
theorem fdivD_int {i j : Int} (h : DivOk j) : fdivD (.int i) (.int j) = .ok (.int (i.fdiv j)) := if_pos h
theorem modD_int {i j : Int} (h : 0 < j) : modD (.int i) (.int j) = .ok (.int (i % j)) := if_pos h
theorem powD_int {i j : Int} (h : PowOk i j) : powD (.int i) (.int j) = .ok (.int (i ^ j.toNat)) := if_pos h
end FV

set_option maxHeartbeats 4000000
/-! FV8: loops by their turns; the greatest divisor; fractions. -/
namespace FV
/-! ### loops -/
/-- a for whose turns go on -/
theorem forD_inv {T : Tg} {body : SDen} (I : Nat → En → Prop) : ∀ (ds : List D) (k : Nat) (ρ : En), I k ρ → (∀ i d ρ, ds[i]? = some d → I (k + i) ρ → ∃ ρ1 ρ2, asg T d ρ = .ok ρ1 ∧ (body ρ1 = .next ρ2 ∨ body ρ1 = .cont ρ2) ∧ I (k + i + 1) ρ2) → ∃ ρ', forD T body ds ρ = .next ρ' ∧ I (k + ds.length) ρ'
  | [], k, ρ, h0, _ => ⟨ρ, rfl, h0⟩
  | d :: ds, k, ρ, h0, hs => by
    obtain ⟨ρ1, ρ2, e1, e2, h2⟩ := hs 0 d ρ rfl h0
    obtain ⟨ρ', e3, h3⟩ := forD_inv I ds (k + 1) ρ2 h2 fun i d ρ hd hi => by
      have := hs (i + 1) d ρ (by simpa using hd) (by rw [show k + (i + 1) = k + 1 + i by omega]; exact hi)
      rw [show k + (i + 1) + 1 = k + 1 + i + 1 by omega] at this
      exact this
    refine ⟨ρ', ?_, by rw [List.length_cons, show k + (ds.length + 1) = k + 1 + ds.length by omega]; exact h3⟩
    unfold forD
    rw [e1]
    rcases e2 with e2 | e2 <;> simp only [e2] <;> exact e3
/-- a for as a fold: the state s is told by R -/
theorem forD_fold {α : Type} {T : Tg} {body : SDen} (R : α → En) (f : α → D → α) : ∀ (ds : List D) (s : α), (∀ s d, d ∈ ds → ∃ ρ1, asg T d (R s) = .ok ρ1 ∧ (body ρ1 = .next (R (f s d)) ∨ body ρ1 = .cont (R (f s d)))) → forD T body ds (R s) = .next (R (ds.foldl f s))
  | [], s, _ => rfl
  | d :: ds, s, hs => by
    obtain ⟨ρ1, e1, e2⟩ := hs s d (by simp)
    unfold forD
    rw [e1]
    have ih := forD_fold R f ds (f s d) fun s d hd => hs s d (List.mem_cons_of_mem _ hd)
    rcases e2 with e2 | e2 <;> simp only [e2] <;> exact ih
theorem whN_mono {t : En → Res Bool} {g : SDen} : ∀ {n : Nat} {ρ : En} {r : SRes}, whN t g n ρ = some r → ∀ m, n ≤ m → whN t g m ρ = some r
  | 0, _, _, h, _, _ => by cases h
  | n + 1, ρ, r, h, m, hm => by
    obtain ⟨k, rfl⟩ : ∃ k, m = k + 1 := ⟨m - 1, by omega⟩
    unfold whN at h ⊢
    cases e1 : t ρ with
    | ok b =>
      rw [e1] at h
      cases b with
      | false => exact h
      | true =>
        cases e2 : g ρ with
        | next ρ' => simp only [e2] at h ⊢; exact whN_mono h k (by omega)
        | cont ρ' => simp only [e2] at h ⊢; exact whN_mono h k (by omega)
        | brk ρ' => simp only [e2] at h ⊢; exact h
        | ret d => simp only [e2] at h ⊢; exact h
        | exn x ρ' => simp only [e2] at h ⊢; exact h
        | stuck => simp only [e2] at h ⊢; exact h
    | exn x => rw [e1] at h; exact h
    | stuck => rw [e1] at h; exact h
theorem whD_of {t : En → Res Bool} {g : SDen} {n : Nat} {ρ : En} {r : SRes} (h : whN t g n ρ = some r) : whD t g ρ = r := by
  have hx : ∃ r n, whN t g n ρ = some r := ⟨r, n, h⟩
  unfold whD
  rw [dif_pos hx]
  obtain ⟨m, hm⟩ := hx.choose_spec
  have h1 := whN_mono hm (max n m) (by omega)
  have h2 := whN_mono h (max n m) (by omega)
  rw [h1] at h2
  exact Option.some.inj h2
theorem whD_done {t : En → Res Bool} {g : SDen} {ρ : En} (h : t ρ = .ok false) : whD t g ρ = .next ρ := whD_of (n := 1) (by unfold whN; rw [h])
theorem whD_turn {t : En → Res Bool} {g : SDen} {ρ ρ' : En} (h : t ρ = .ok true) (hg : g ρ = .next ρ') {r : SRes} (hr : ∃ n, whN t g n ρ' = some r) : whD t g ρ = r := by
  obtain ⟨n, hn⟩ := hr
  exact whD_of (n := n + 1) (by unfold whN; rw [h]; simp only [hg]; exact hn)
theorem whN_turn {t : En → Res Bool} {g : SDen} {ρ ρ' : En} {n : Nat} {r : SRes} (h : t ρ = .ok true) (hg : g ρ = .next ρ') (hr : whN t g n ρ' = some r) : whN t g (n + 1) ρ = some r := by
  unfold whN; rw [h]; simp only [hg]; exact hr
theorem whN_done {t : En → Res Bool} {g : SDen} {ρ : En} (h : t ρ = .ok false) : whN t g 1 ρ = some (.next ρ) := by unfold whN; rw [h]
/-- a while by a measure and its one-turn function -/
theorem whN_meas {α : Type} {t : En → Res Bool} {g : SDen} (R : α → En) (p : α → Bool) (f : α → α) (μ : α → Nat) (fin : α → α) (I : α → Prop)
    (ht : ∀ s, I s → t (R s) = .ok (p s)) (hg : ∀ s, I s → p s = true → g (R s) = .next (R (f s))) (hI : ∀ s, I s → p s = true → I (f s)) (hm : ∀ s, I s → p s = true → μ (f s) < μ s)
    (f1 : ∀ s, I s → p s = true → fin (f s) = fin s) (f0 : ∀ s, I s → p s = false → fin s = s) : ∀ (n : Nat) (s : α), I s → μ s ≤ n → ∃ m, whN t g m (R s) = some (.next (R (fin s))) := by
  intro n
  induction n with
  | zero =>
    intro s hs hn
    cases e : p s with
    | true => have := hm s hs e; omega
    | false => exact ⟨1, by rw [f0 s hs e]; exact whN_done (by rw [ht s hs, e])⟩
  | succ n ih =>
    intro s hs hn
    cases e : p s with
    | true =>
      obtain ⟨m, h⟩ := ih (f s) (hI s hs e) (by have := hm s hs e; omega)
      rw [f1 s hs e] at h
      exact ⟨m + 1, whN_turn (by rw [ht s hs, e]) (hg s hs e) h⟩
    | false => exact ⟨1, by rw [f0 s hs e]; exact whN_done (by rw [ht s hs, e])⟩
/-- the greatest divisor -/
theorem gcd_loop {t : En → Res Bool} {g : SDen} (R : Nat → Nat → En) (ht : ∀ a b, t (R a b) = .ok (decide (0 < b))) (hg : ∀ a b, 0 < b → g (R a b) = .next (R b (a % b))) (a b : Nat) : whD t g (R a b) = .next (R (Nat.gcd a b) 0) := by
  obtain ⟨m, h⟩ := whN_meas (α := Nat × Nat) (t := t) (g := g) (fun s => R s.1 s.2) (fun s => decide (0 < s.2)) (fun s => (s.2, s.1 % s.2)) (fun s => s.2) (fun s => (Nat.gcd s.1 s.2, 0)) (fun _ => True)
    (fun s _ => ht _ _) (fun s _ h => hg _ _ (of_decide_eq_true h)) (fun _ _ _ => trivial) (fun s _ h => Nat.mod_lt _ (of_decide_eq_true h))
    (fun s _ h => by
      show (Nat.gcd s.2 (s.1 % s.2), 0) = (Nat.gcd s.1 s.2, 0)
      rw [Nat.gcd_comm s.2, ← Nat.gcd_rec, Nat.gcd_comm])
    (fun s _ h => by
      have h0 : s.2 = 0 := by have := of_decide_eq_false h; omega
      obtain ⟨x, y⟩ := s
      subst h0
      simp) b (a, b) trivial (Nat.le_refl _)
  exact whD_of h

/-! ### fractions: a pair in lowest terms is a number of Rat -/
def pt (q : Rat) : D := .tup [.int q.num, .int (q.den : Int)]
theorem red_pos (u v : Int) (hv : 0 < v) : u.fdiv ((Nat.gcd u.natAbs v.natAbs : Nat) : Int) = (Rat.divInt u v).num ∧ v.fdiv ((Nat.gcd u.natAbs v.natAbs : Nat) : Int) = ((Rat.divInt u v).den : Int) := by
  have hg : 0 < Nat.gcd u.natAbs v.natAbs := Nat.gcd_pos_of_pos_right _ (by omega)
  have e : Int.gcd v u = Nat.gcd u.natAbs v.natAbs := Nat.gcd_comm _ _
  have hs : v.sign = 1 := Int.sign_eq_one_of_pos hv
  rw [Rat.num_divInt, Rat.den_divInt, if_neg (by omega), e, hs, Int.one_mul]
  rw [Int.fdiv_eq_ediv_of_nonneg _ (by omega), Int.fdiv_eq_ediv_of_nonneg _ (by omega)]
  refine ⟨rfl, ?_⟩
  rw [Int.natCast_ediv]
  congr 1
  omega
theorem red_neg (u v : Int) (hv : v < 0) : u.fdiv (-((Nat.gcd u.natAbs v.natAbs : Nat) : Int)) = (Rat.divInt u v).num ∧ v.fdiv (-((Nat.gcd u.natAbs v.natAbs : Nat) : Int)) = ((Rat.divInt u v).den : Int) := by
  have h := red_pos (-u) (-v) (by omega)
  rw [Int.natAbs_neg, Int.natAbs_neg, Rat.neg_divInt_neg] at h
  refine ⟨?_, ?_⟩
  · rw [← h.1]
    rw [← Int.neg_fdiv_neg]
    simp
  · rw [← h.2]
    rw [← Int.neg_fdiv_neg]
    simp
theorem den_le (u v : Int) (hv : v ≠ 0) : (Rat.divInt u v).den ≤ v.natAbs := by
  rw [Rat.den_divInt, if_neg hv]
  exact Nat.div_le_self _ _
theorem num_le (u v : Int) : (Rat.divInt u v).num.natAbs ≤ u.natAbs := by
  rw [Rat.num_divInt]
  have h1 : (v.sign * u / ((Int.gcd v u : Nat) : Int)).natAbs ≤ (v.sign * u).natAbs := Int.natAbs_ediv_le_natAbs _ _
  have h2 : (v.sign * u).natAbs ≤ u.natAbs := by
    rw [Int.natAbs_mul, Int.natAbs_sign]
    split
    · omega
    · omega
  omega
/-- a fraction whose parts have less than n bits -/
def SmQ (n : Nat) (q : Rat) : Prop := Sm n q.num ∧ Sm n (q.den : Int)
theorem smQ_low {u v : Int} {n : Nat} (hu : Sm n u) (hv : Sm n v) (h : v ≠ 0) : SmQ n (Rat.divInt u v) := by
  have a1 := num_le u v
  have a2 := den_le u v h
  refine ⟨Nat.lt_of_le_of_lt a1 hu, ?_⟩
  unfold Sm
  rw [Int.natAbs_natCast]
  exact Nat.lt_of_le_of_lt a2 hv
theorem smQ_mono {q : Rat} {a b : Nat} (h : SmQ a q) (hab : a ≤ b) : SmQ b q := ⟨sm_mono h.1 hab, sm_mono h.2 hab⟩
theorem smQ_neg {q : Rat} {a : Nat} (h : SmQ a q) : SmQ a (-q) := ⟨by rw [Rat.neg_num]; exact sm_neg h.1, by rw [Rat.neg_den]; exact h.2⟩
theorem rng1_nat {n : Nat} (h : n < 1000000000) : rng1 [.int (n : Int)] = .ok (rangeL 0 n) := by
  have e : rng1 [.int (n : Int)] = if -(2 ^ 62) ≤ (n : Int) ∧ (n : Int) < 2 ^ 62 then .ok (rangeL 0 (n : Int).toNat) else .stuck := rfl
  rw [e, if_pos ⟨by omega, by omega⟩, Int.toNat_natCast]
theorem rangeL_get {lo : Int} {n i : Nat} {d : D} (h : (rangeL lo n)[i]? = some d) : i < n ∧ d = .int (lo + (i : Int)) := by
  unfold rangeL at h
  rw [List.getElem?_map] at h
  obtain ⟨j, e1, rfl⟩ := Option.map_eq_some_iff.mp h
  have hi := (List.getElem?_eq_some_iff.mp e1).1
  rw [List.length_range] at hi
  rw [List.getElem?_range hi] at e1
  cases e1
  exact ⟨hi, rfl⟩
theorem range0_get {n i : Nat} {d : D} (h : (rangeL 0 n)[i]? = some d) : i < n ∧ d = .int (i : Int) := by
  obtain ⟨h1, h2⟩ := rangeL_get h
  rw [Int.zero_add] at h2
  exact ⟨h1, h2⟩
theorem atI_nn {α : Type} {xs : List α} (n : Nat) : L2.atI xs (n : Int) = xs[n]? := by
  unfold L2.atI L2.ixN
  rw [if_pos (by omega)]
  by_cases h : (n : Int) < xs.length
  · rw [if_pos h]; simp
  · rw [if_neg h]; simp; omega
@[simp] theorem atI_zero {α : Type} {xs : List α} : L2.atI xs 0 = xs[0]? := atI_nn 0
@[simp] theorem atI_one {α : Type} {xs : List α} : L2.atI xs 1 = xs[1]? := atI_nn 1
@[simp] theorem atI_ofNat {α : Type} {xs : List α} {n : Nat} : L2.atI xs (no_index (OfNat.ofNat n : Int)) = xs[n]? := atI_nn n
@[simp] theorem atI_cast {α : Type} {xs : List α} {n : Nat} : L2.atI xs (n : Int) = xs[n]? := atI_nn n
@[simp] theorem ix_pt0 {q : Rat} : ixD (pt q) (.int 0) = .ok (.int q.num) := rfl
@[simp] theorem ix_pt1 {q : Rat} : ixD (pt q) (.int 1) = .ok (.int (q.den : Int)) := rfl
end FV

set_option maxHeartbeats 4000000
/-! FV9: == of plain data is being the same. -/
namespace FV
open PySem PySem.PyData
/-- data without ints (b) or without truths (not b), n deep -/
inductive Pl (b : Bool) : Nat → D → Prop
  | non {n : Nat} : Pl b n .non
  | str {n : Nat} {x : Str} (h : strOk x = true) : Pl b n (.str x)
  | int {n : Nat} {i : Int} (h : b = false) : Pl b n (.int i)
  | bl {n : Nat} {v : Bool} (h : b = true) : Pl b n (.bl v)
  | tup {n : Nat} {ds : List D} (h : ∀ d, d ∈ ds → Pl b n d) : Pl b (n + 1) (.tup ds)
  | lst {n : Nat} {ds : List D} (h : ∀ d, d ∈ ds → Pl b n d) : Pl b (n + 1) (.lst ds)
theorem toPs_of {n : Nat} : ∀ {ds : List D}, (∀ d, d ∈ ds → ∃ p, toP d = some p ∧ canLay0 p = true ∧ depth p ≤ n) → ∃ ps, toPs ds = some ps ∧ canLayAll0 ps = true ∧ depthAll ps ≤ n
  | [], _ => ⟨[], by simp [toPs], by simp [canLayAll0], by simp [depthAll]⟩
  | d :: ds, h => by
    obtain ⟨p, h1, h2, h3⟩ := h d (by simp)
    obtain ⟨ps, k1, k2, k3⟩ := toPs_of (ds := ds) fun e he => h e (List.mem_cons_of_mem _ he)
    refine ⟨p :: ps, by simp [toPs, h1, k1], by simp [canLayAll0, h2, k2], ?_⟩
    simp only [depthAll]
    omega
theorem Pl.toP {b : Bool} {n : Nat} {d : D} (h : Pl b n d) : ∃ p, toP d = some p ∧ canLay0 p = true ∧ depth p ≤ n := by
  induction h with
  | non => exact ⟨.none, by simp [FV.toP], by simp [canLay0], by simp [depth]⟩
  | @str n x h => exact ⟨.str x, by simp [FV.toP], by simpa [canLay0] using h, by simp [depth]⟩
  | @int n i h => exact ⟨.int i, by simp [FV.toP], by simp [canLay0], by simp [depth]⟩
  | @bl n v h => exact ⟨.bool v, by simp [FV.toP], by simp [canLay0], by simp [depth]⟩
  | tup h ih =>
    obtain ⟨ps, k1, k2, k3⟩ := toPs_of ih
    exact ⟨.tuple ps, by simp [FV.toP, k1], by simpa [canLay0] using k2, by simpa [depth] using k3⟩
  | lst h ih =>
    obtain ⟨ps, k1, k2, k3⟩ := toPs_of ih
    exact ⟨.list ps, by simp [FV.toP, k1], by simpa [canLay0] using k2, by simpa [depth] using k3⟩
theorem toPs_cons {d : D} {ds : List D} {ps : List PyData} (h : toPs (d :: ds) = some ps) : ∃ p qs, toP d = some p ∧ toPs ds = some qs ∧ ps = p :: qs := by
  simp only [toPs] at h
  split at h
  · cases h; exact ⟨_, _, by assumption, by assumption, rfl⟩
  · cases h
theorem toPs_nil {ps : List PyData} (h : toPs [] = some ps) : ps = [] := by simp [toPs] at h; first | exact h | exact h.symm
theorem eqvAll_of {m : Nat} {b : Bool} : ∀ {ds es : List D} {ps qs : List PyData}, (∀ d, d ∈ ds → ∀ (m : Nat) (e : D) (p q : PyData), Pl b m e → toP d = some p → toP e = some q → (eqv p q = true ↔ d = e)) → (∀ e, e ∈ es → Pl b m e) → toPs ds = some ps → toPs es = some qs → (eqvAll ps qs = true ↔ ds = es)
  | [], [], ps, qs, _, _, h1, h2 => by rw [toPs_nil h1, toPs_nil h2]; simp [eqvAll]
  | [], e :: es, ps, qs, _, _, h1, h2 => by
    obtain ⟨q, qs', _, _, rfl⟩ := toPs_cons h2
    rw [toPs_nil h1]; simp [eqvAll]
  | d :: ds, [], ps, qs, _, _, h1, h2 => by
    obtain ⟨q, qs', _, _, rfl⟩ := toPs_cons h1
    rw [toPs_nil h2]; simp [eqvAll]
  | d :: ds, e :: es, ps, qs, hd, he, h1, h2 => by
    obtain ⟨p, ps', p1, p2, rfl⟩ := toPs_cons h1
    obtain ⟨q, qs', q1, q2, rfl⟩ := toPs_cons h2
    have a := hd d (by simp) m e p q (he e (by simp)) p1 q1
    have c := eqvAll_of (ds := ds) (es := es) (fun d hd' => hd d (List.mem_cons_of_mem _ hd')) (fun e he' => he e (List.mem_cons_of_mem _ he')) p2 q2
    simp only [eqvAll, Bool.and_eq_true, a, c, List.cons.injEq]
theorem Pl.eqv_iff {b : Bool} {n : Nat} {d : D} (h : Pl b n d) : ∀ (m : Nat) (e : D) (p q : PyData), Pl b m e → FV.toP d = some p → FV.toP e = some q → (eqv p q = true ↔ d = e) := by
  induction h with
  | non =>
    intro m e p q he h1 h2
    simp only [FV.toP] at h1; cases h1
    cases he with
    | non => simp only [FV.toP] at h2; cases h2; simp [eqv]
    | str _ => simp only [FV.toP] at h2; cases h2; simp [eqv]
    | int _ => simp only [FV.toP] at h2; cases h2; simp [eqv]
    | bl _ => simp only [FV.toP] at h2; cases h2; simp [eqv]
    | tup _ => simp only [FV.toP] at h2; obtain ⟨qs, _, rfl⟩ := Option.map_eq_some_iff.mp h2; simp [eqv]
    | lst _ => simp only [FV.toP] at h2; obtain ⟨qs, _, rfl⟩ := Option.map_eq_some_iff.mp h2; simp [eqv]
  | str hs =>
    intro m e p q he h1 h2
    simp only [FV.toP] at h1; cases h1
    cases he with
    | non => simp only [FV.toP] at h2; cases h2; simp [eqv]
    | str _ => simp only [FV.toP] at h2; cases h2; simp [eqv]
    | int _ => simp only [FV.toP] at h2; cases h2; simp [eqv]
    | bl _ => simp only [FV.toP] at h2; cases h2; simp [eqv]
    | tup _ => simp only [FV.toP] at h2; obtain ⟨qs, _, rfl⟩ := Option.map_eq_some_iff.mp h2; simp [eqv]
    | lst _ => simp only [FV.toP] at h2; obtain ⟨qs, _, rfl⟩ := Option.map_eq_some_iff.mp h2; simp [eqv]
  | int hb =>
    intro m e p q he h1 h2
    simp only [FV.toP] at h1; cases h1
    cases he with
    | non => simp only [FV.toP] at h2; cases h2; simp [eqv]
    | str _ => simp only [FV.toP] at h2; cases h2; simp [eqv]
    | int _ => simp only [FV.toP] at h2; cases h2; simp [eqv]
    | bl hb' => rw [hb] at hb'; cases hb'
    | tup _ => simp only [FV.toP] at h2; obtain ⟨qs, _, rfl⟩ := Option.map_eq_some_iff.mp h2; simp [eqv]
    | lst _ => simp only [FV.toP] at h2; obtain ⟨qs, _, rfl⟩ := Option.map_eq_some_iff.mp h2; simp [eqv]
  | bl hb =>
    intro m e p q he h1 h2
    simp only [FV.toP] at h1; cases h1
    cases he with
    | non => simp only [FV.toP] at h2; cases h2; simp [eqv]
    | str _ => simp only [FV.toP] at h2; cases h2; simp [eqv]
    | int hb' => rw [hb] at hb'; cases hb'
    | bl _ => simp only [FV.toP] at h2; cases h2; simp [eqv]
    | tup _ => simp only [FV.toP] at h2; obtain ⟨qs, _, rfl⟩ := Option.map_eq_some_iff.mp h2; simp [eqv]
    | lst _ => simp only [FV.toP] at h2; obtain ⟨qs, _, rfl⟩ := Option.map_eq_some_iff.mp h2; simp [eqv]
  | tup hs ih =>
    intro m e p q he h1 h2
    simp only [FV.toP] at h1
    obtain ⟨ps, p1, rfl⟩ := Option.map_eq_some_iff.mp h1
    cases he with
    | non => simp only [FV.toP] at h2; cases h2; simp [eqv]
    | str _ => simp only [FV.toP] at h2; cases h2; simp [eqv]
    | int _ => simp only [FV.toP] at h2; cases h2; simp [eqv]
    | bl _ => simp only [FV.toP] at h2; cases h2; simp [eqv]
    | tup hq =>
      simp only [FV.toP] at h2
      obtain ⟨qs, q1, rfl⟩ := Option.map_eq_some_iff.mp h2
      simp only [eqv, D.tup.injEq]
      exact eqvAll_of ih hq p1 q1
    | lst _ => simp only [FV.toP] at h2; obtain ⟨qs, _, rfl⟩ := Option.map_eq_some_iff.mp h2; simp [eqv]
  | lst hs ih =>
    intro m e p q he h1 h2
    simp only [FV.toP] at h1
    obtain ⟨ps, p1, rfl⟩ := Option.map_eq_some_iff.mp h1
    cases he with
    | non => simp only [FV.toP] at h2; cases h2; simp [eqv]
    | str _ => simp only [FV.toP] at h2; cases h2; simp [eqv]
    | int _ => simp only [FV.toP] at h2; cases h2; simp [eqv]
    | bl _ => simp only [FV.toP] at h2; cases h2; simp [eqv]
    | tup _ => simp only [FV.toP] at h2; obtain ⟨qs, _, rfl⟩ := Option.map_eq_some_iff.mp h2; simp [eqv]
    | lst hq =>
      simp only [FV.toP] at h2
      obtain ⟨qs, q1, rfl⟩ := Option.map_eq_some_iff.mp h2
      simp only [eqv, D.lst.injEq]
      exact eqvAll_of ih hq p1 q1
theorem eqB_pl {b : Bool} {n m : Nat} {d e : D} (h1 : Pl b n d) (h2 : Pl b m e) (hn : n ≤ 64) (hm : m ≤ 64) : ∃ v : Bool, eqB d e = some v ∧ (v = true ↔ d = e) := by
  obtain ⟨p, p1, p2, p3⟩ := h1.toP
  obtain ⟨q, q1, q2, q3⟩ := h2.toP
  refine ⟨PyData.eqv p q, ?_, h1.eqv_iff m e p q h2 p1 q1⟩
  unfold eqB
  rw [p1, q1]
  have s1 : SeqAt.shaped p = true := by unfold SeqAt.shaped; rw [p2, decide_eq_true (Nat.le_trans p3 hn)]; rfl
  have s2 : SeqAt.shaped q = true := by unfold SeqAt.shaped; rw [q2, decide_eq_true (Nat.le_trans q3 hm)]; rfl
  exact if_pos ⟨s1, s2⟩
open Classical in
theorem eqD_pl {b : Bool} {n m : Nat} {d e : D} (h1 : Pl b n d) (h2 : Pl b m e) (hn : n ≤ 64) (hm : m ≤ 64) : eqD d e = .ok (.bl (decide (d = e))) := by
  obtain ⟨v, e1, e2⟩ := eqB_pl h1 h2 hn hm
  unfold eqD
  rw [e1]
  by_cases z : d = e
  · rw [decide_eq_true z, e2.mpr z]
  · have : v = false := by cases v with | true => exact absurd (e2.mp rfl) z | false => rfl
    rw [decide_eq_false z, this]
open Classical in
theorem neD_pl {b : Bool} {n m : Nat} {d e : D} (h1 : Pl b n d) (h2 : Pl b m e) (hn : n ≤ 64) (hm : m ≤ 64) : neD d e = .ok (.bl (!decide (d = e))) := by
  obtain ⟨v, e1, e2⟩ := eqB_pl h1 h2 hn hm
  unfold neD
  rw [e1]
  by_cases z : d = e
  · rw [decide_eq_true z, e2.mpr z]
  · have : v = false := by cases v with | true => exact absurd (e2.mp rfl) z | false => rfl
    rw [decide_eq_false z, this]
theorem pl_pt (q : Rat) : Pl false 1 (pt q) := .tup fun d h => by
  rcases List.mem_cons.mp h with rfl | h
  · exact .int rfl
  · rcases List.mem_cons.mp h with rfl | h
    · exact .int rfl
    · cases h
theorem pt_inj {p q : Rat} (h : pt p = pt q) : p = q := by
  unfold pt at h
  simp only [D.tup.injEq, List.cons.injEq, D.int.injEq, and_true] at h
  exact Rat.ext h.1 (by omega)
theorem eqD_int {i j : Int} : eqD (.int i) (.int j) = .ok (.bl (decide (i = j))) := by
  rw [eqD_pl (b := false) (n := 0) (m := 0) (.int rfl) (.int rfl) (by omega) (by omega)]
  simp only [D.int.injEq]
theorem neD_int {i j : Int} : neD (.int i) (.int j) = .ok (.bl (!decide (i = j))) := by
  rw [neD_pl (b := false) (n := 0) (m := 0) (.int rfl) (.int rfl) (by omega) (by omega)]
  simp only [D.int.injEq]
theorem eqD_bl {i j : Bool} : eqD (.bl i) (.bl j) = .ok (.bl (decide (i = j))) := by
  rw [eqD_pl (b := true) (n := 0) (m := 0) (.bl rfl) (.bl rfl) (by omega) (by omega)]
  simp only [D.bl.injEq]
theorem neD_bl {i j : Bool} : neD (.bl i) (.bl j) = .ok (.bl (!decide (i = j))) := by
  rw [neD_pl (b := true) (n := 0) (m := 0) (.bl rfl) (.bl rfl) (by omega) (by omega)]
  simp only [D.bl.injEq]
theorem eqD_pt {p q : Rat} : eqD (pt p) (pt q) = .ok (.bl (decide (p = q))) := by
  rw [eqD_pl (pl_pt p) (pl_pt q) (by omega) (by omega)]
  by_cases h : p = q
  · subst h; simp
  · rw [decide_eq_false h, @decide_eq_false _ (Classical.propDecidable _) fun z => h (pt_inj z)]
theorem neD_pt {p q : Rat} : neD (pt p) (pt q) = .ok (.bl (!decide (p = q))) := by
  rw [neD_pl (pl_pt p) (pl_pt q) (by omega) (by omega)]
  by_cases h : p = q
  · subst h; simp
  · rw [decide_eq_false h, @decide_eq_false _ (Classical.propDecidable _) fun z => h (pt_inj z)]
end FV

/-! ## the walk of the linked text (printed by gen.py) -/
namespace Walk
open PySem PySem.Spec PyProof.Rows L2 FV
set_option maxHeartbeats 4000000
noncomputable section
def topS (i : Nat) : Stmt := PySem.Challenge.pw_levyhouse_k03_orders.main.body.getD i (.Pass ⟨0, 0, 0, 0⟩)
abbrev st_below : Stmt := topS 1
abbrev N_below : List Str := ["one", "other"]
abbrev st_greatest : Stmt := topS 2
abbrev N_greatest : List Str := ["one", "other"]
abbrev st_least : Stmt := topS 3
abbrev N_least : List Str := ["one", "other"]
abbrev st__law_mixed : Stmt := topS 5
abbrev N__law_mixed : List Str := ["_law_cell", "_law_k", "_law_number_here"]
abbrev st__law_cell_at : Stmt := topS 6
abbrev N__law_cell_at : List Str := ["_law_script", "_law_k"]
abbrev st__law_number : Stmt := topS 7
abbrev N__law_number : List Str := ["_law_cell", "_law_k", "_law_size", "_law_found", "_law_j"]
abbrev st__law_pair : Stmt := topS 8
abbrev N__law_pair : List Str := ["_law_cell", "_law_k", "_law_size", "_law_up", "_law_under"]
abbrev st__law_lowest : Stmt := topS 9
abbrev N__law_lowest : List Str := ["_law_up", "_law_under", "_law_one", "_law_other"]
abbrev st__law_part : Stmt := topS 10
abbrev N__law_part : List Str := ["_law_cell", "_law_k", "_law_up", "_law_under"]
abbrev st__law_is : Stmt := topS 11
abbrev N__law_is : List Str := ["_law_found", "_law_due", "_law_number_here"]
abbrev st__law_two : Stmt := topS 12
abbrev N__law_two : List Str := ["_law_cell", "_law_one", "_law_other", "_law_near"]
abbrev st__law_right : Stmt := topS 13
abbrev N__law_right : List Str := ["_law_one", "_law_other", "_law_less", "_law_found", "_law_due"]
abbrev st_law : Stmt := topS 14
abbrev N_law : List Str := ["_law_script", "_law_k", "_law_one", "_law_other"]
def s_below : SDen :=
  (sRet (dBin ltD (dBin mulD (dBin ixD (dVarR 0) (dC (.int 0))) (dBin ixD (dVarR 1) (dC (.int 1)))) (dBin mulD (dBin ixD (dVarR 1) (dC (.int 0))) (dBin ixD (dVarR 0) (dC (.int 1))))))
def d_below : List D → Res D := runB s_below 2
def s_greatest : SDen :=
  (sRet (dIf (tVal (dCall d_below (aCons (dVar 0) (aCons (dVar 1) aNil)))) (dVar 1) (dVar 0)))
def d_greatest : List D → Res D := runB s_greatest 2
def s_least : SDen :=
  (sRet (dIf (tVal (dCall d_below (aCons (dVar 1) (aCons (dVar 0) aNil)))) (dVar 1) (dVar 0)))
def d_least : List D → Res D := runB s_least 2
def s__law_mixed : SDen :=
  (bSeq (sSet 2 (dBin modD (dBin mulD (dBin addD (dVarR 0) (dBin mulD (dC (.int 7919)) (dVarR 1))) (dC (.int 48271))) (dC (.int 2147483647))))
  (sRet (dBin modD (dBin mulD (dVarR 2) (dBin addD (dBin addD (dVarR 2) (dBin mulD (dC (.int 2)) (dVarR 1))) (dC (.int 1)))) (dC (.int 2147483629)))))
def d__law_mixed : List D → Res D := runB s__law_mixed 3
def s__law_cell_at : SDen :=
  (bSeq (sIf (tVal (dBin ltD (dVarR 1) (dCall lenD (aCons (dVarR 0) aNil))))
  (sRet (dCall d__law_mixed (aCons (dBin ixD (dVarR 0) (dVarR 1)) (aCons (dVar 1) aNil))))
  bNil)
  (sRet (dCall d__law_mixed (aCons (dVar 1) (aCons (dC (.int 3)) aNil)))))
def d__law_cell_at : List D → Res D := runB s__law_cell_at 2
def s__law_number : SDen :=
  (bSeq (sSet 3 (dC (.int 0)))
  (bSeq (sFor (iRng (aCons (dC (.int 8)) aNil)) (.nm 4)
  (sSet 3 (dBin addD (dBin mulD (dVarR 3) (dC (.int 2147483629))) (dCall d__law_mixed (aCons (dVar 0) (aCons (dBin addD (dVarR 1) (dVarR 4)) aNil))))))
  (sRet (dBin modD (dVarR 3) (dVarR 2)))))
def d__law_number : List D → Res D := runB s__law_number 5
def s__law_pair : SDen :=
  (bSeq (sSet 2 (dBin ixD (dLst (aCons (dC (.int 10)) (aCons (dC (.int 1000)) (aCons (dBin powD (dC (.int 10)) (dC (.int 18))) (aCons (dBin powD (dC (.int 10)) (dC (.int 60))) aNil))))) (dBin modD (dCall d__law_mixed (aCons (dVar 0) (aCons (dVar 1) aNil))) (dC (.int 4)))))
  (bSeq (sSet 3 (dBin subD (dCall d__law_number (aCons (dVar 0) (aCons (dBin addD (dVarR 1) (dC (.int 1))) (aCons (dBin addD (dBin mulD (dC (.int 2)) (dVarR 2)) (dC (.int 1))) aNil)))) (dVarR 2)))
  (bSeq (sSet 4 (dBin addD (dC (.int 1)) (dCall d__law_number (aCons (dVar 0) (aCons (dBin addD (dVarR 1) (dC (.int 11))) (aCons (dBin ixD (dLst (aCons (dC (.int 1)) (aCons (dC (.int 12)) (aCons (dVar 2) aNil)))) (dBin modD (dCall d__law_mixed (aCons (dVar 0) (aCons (dBin addD (dVarR 1) (dC (.int 21))) aNil))) (dC (.int 3)))) aNil))))))
  (sRet (dTup (aCons (dVar 3) (aCons (dVar 4) aNil)))))))
def d__law_pair : List D → Res D := runB s__law_pair 5
def s__law_lowest : SDen :=
  (bSeq (sSet 2 (dCall absD (aCons (dVarR 0) aNil)))
  (bSeq (sSet 3 (dCall absD (aCons (dVarR 1) aNil)))
  (bSeq (whD (tVal (dBin gtD (dVarR 3) (dC (.int 0))))
  (sPar 2 3 (dVar 3) (dBin modD (dVarR 2) (dVarR 3))))
  (bSeq (sIf (tVal (dBin ltD (dVarR 1) (dC (.int 0))))
  (sSet 2 (dUn negD (dVarR 2)))
  bNil)
  (sRet (dTup (aCons (dBin fdivD (dVarR 0) (dVarR 2)) (aCons (dBin fdivD (dVarR 1) (dVarR 2)) aNil))))))))
def d__law_lowest : List D → Res D := runB s__law_lowest 4
def s__law_part : SDen :=
  (bSeq (sAsg (.tp [2, 3]) (dCall d__law_pair (aCons (dVar 0) (aCons (dVar 1) aNil))))
  (sRet (dCall d__law_lowest (aCons (dVar 2) (aCons (dVar 3) aNil)))))
def d__law_part : List D → Res D := runB s__law_part 4
def s__law_is : SDen :=
  (bSeq (sIf (tOrB (tNotB (tVal (dUn (isiD "tuple") (dVarR 0)))) (tVal (dBin neD (dCall lenD (aCons (dVarR 0) aNil)) (dC (.int 2)))))
  (sRet (dC (.bl false)))
  bNil)
  (bSeq (sFor (iSeq (dVar 0)) (.nm 2)
  (sIf (tOrB (tNotB (tVal (dUn (isiD "int") (dVarR 2)))) (tVal (dUn (isiD "bool") (dVarR 2))))
    (sRet (dC (.bl false)))
    bNil))
  (sRet (dBin eqD (dVarR 0) (dVarR 1)))))
def d__law_is : List D → Res D := runB s__law_is 3
def s__law_two : SDen :=
  (bSeq (sSet 1 (dCall d__law_part (aCons (dVar 0) (aCons (dC (.int 1)) aNil))))
  (bSeq (sSet 2 (dCall d__law_part (aCons (dVar 0) (aCons (dC (.int 60)) aNil))))
  (bSeq (sSet 3 (dCall d__law_lowest (aCons (dBin addD (dBin mulD (dBin ixD (dVarR 1) (dC (.int 0))) (dBin powD (dC (.int 10)) (dC (.int 60)))) (dBin ixD (dVarR 1) (dC (.int 1)))) (aCons (dBin mulD (dBin ixD (dVarR 1) (dC (.int 1))) (dBin powD (dC (.int 10)) (dC (.int 60)))) aNil))))
  (sRet (dTup (aCons (dVar 1) (aCons (dBin ixD (dLst (aCons (dVar 2) (aCons (dVar 2) (aCons (dVar 2) (aCons (dVar 1) (aCons (dTup (aCons (dC (.int 0)) (aCons (dC (.int 1)) aNil))) (aCons (dVar 3) (aCons (dTup (aCons (dUn negD (dBin ixD (dVarR 1) (dC (.int 0)))) (aCons (dBin ixD (dVarR 1) (dC (.int 1))) aNil))) (aCons (dTup (aCons (dC (.int 1)) (aCons (dC (.int 1)) aNil))) aNil))))))))) (dBin modD (dVarR 0) (dC (.int 8)))) aNil)))))))
def d__law_two : List D → Res D := runB s__law_two 4
def s__law_right : SDen :=
  (bSeq (sSet 2 (dBin ltD (dBin mulD (dBin ixD (dVarR 0) (dC (.int 0))) (dBin ixD (dVarR 1) (dC (.int 1)))) (dBin mulD (dBin ixD (dVarR 1) (dC (.int 0))) (dBin ixD (dVarR 0) (dC (.int 1))))))
  (bSeq (sSet 3 (dCall d_below (aCons (dVar 0) (aCons (dVar 1) aNil))))
  (bSeq (sIf (tOrB (tNotB (tVal (dUn (isiD "bool") (dVarR 3)))) (tVal (dBin neD (dVarR 3) (dVarR 2))))
  (sRet (dC (.bl false)))
  bNil)
  (bSeq (sSet 4 (dBin ixD (dLst (aCons (dTup (aCons (dVar 0) (aCons (dVar 1) aNil))) (aCons (dTup (aCons (dVar 1) (aCons (dVar 0) aNil))) aNil))) (dCall int1D (aCons (dVarR 2) aNil))))
  (sRet (dAnd (dCall d__law_is (aCons (dCall d_greatest (aCons (dVar 0) (aCons (dVar 1) aNil))) (aCons (dBin ixD (dVarR 4) (dC (.int 0))) aNil))) (dCall d__law_is (aCons (dCall d_least (aCons (dVar 0) (aCons (dVar 1) aNil))) (aCons (dBin ixD (dVarR 4) (dC (.int 1))) aNil)))))))))
def d__law_right : List D → Res D := runB s__law_right 5
def s_law : SDen :=
  (bSeq (sFor (iRng (aCons (dCall max2D (aCons (dC (.int 1)) (aCons (dCall min2D (aCons (dCall lenD (aCons (dVarR 0) aNil)) (aCons (dC (.int 40)) aNil))) aNil))) aNil)) (.nm 1)
  (bSeq (sAsg (.tp [2, 3]) (dCall d__law_two (aCons (dCall d__law_cell_at (aCons (dVar 0) (aCons (dVar 1) aNil))) aNil)))
    (sIf (tOrB (tNotB (tVal (dCall d__law_right (aCons (dVar 2) (aCons (dVar 3) aNil))))) (tNotB (tVal (dCall d__law_right (aCons (dVar 3) (aCons (dVar 2) aNil))))))
    (sRet (dC (.bl false)))
    bNil)))
  (sRet (dC (.bl true))))
def d_law : List D → Res D := runB s_law 4
structure Txt (K : PySem.W.Frag) (mg : Str → Option Value) : Prop where
  a_below : At K mg "below" st_below
  a_greatest : At K mg "greatest" st_greatest
  a_least : At K mg "least" st_least
  a__law_mixed : At K mg "_law_mixed" st__law_mixed
  a__law_cell_at : At K mg "_law_cell_at" st__law_cell_at
  a__law_number : At K mg "_law_number" st__law_number
  a__law_pair : At K mg "_law_pair" st__law_pair
  a__law_lowest : At K mg "_law_lowest" st__law_lowest
  a__law_part : At K mg "_law_part" st__law_part
  a__law_is : At K mg "_law_is" st__law_is
  a__law_two : At K mg "_law_two" st__law_two
  a__law_right : At K mg "_law_right" st__law_right
  a_law : At K mg "law" st_law
  z_abs : mg "abs" = none
  z_bool : mg "bool" = none
  z_int : mg "int" = none
  z_isinstance : mg "isinstance" = none
  z_len : mg "len" = none
  z_max : mg "max" = none
  z_min : mg "min" = none
  z_range : mg "range" = none
  z_tuple : mg "tuple" = none
section
variable {P : Program} {w : World} {K : PySem.W.Frag} {mg : Str → Option Value} {base : Heap}
theorem sc_below : FnScope N_below ["one", "other"] (defScope st_below) := ⟨rfl, rfl, rfl, by decide +kernel, rfl, by decide +kernel, by decide +kernel⟩
theorem b_below : BindOk "below" st_below ["one", "other"] := fun _ _ _ _ _ _ us hl => match us, hl with | [_, _], _ => rfl
theorem ok_below (T : Txt K mg) : FnD P w K mg base 1 "below" 2 d_below := fnd_of T.a_below sc_below b_below rfl fun f cdv A outer s H F E hr => have hN := sc_below.nd; have tk := cx_takes (P := P) (w := w) (K := K) (mg := mg) (base := base) (N := N_below) (x := "below") (sc := defScope st_below) (f := f) (cdv := cdv) (A := A) (outer := outer) (s := s) (H := H) (E := E); have hp := cx_passes (P := P) (w := w) (K := K) (mg := mg) (base := base) (N := N_below) (x := "below") (sc := defScope st_below) (f := f) (cdv := cdv) (A := A) (outer := outer) (s := s) (H := H) (E := E);
  (bj_one (sj_ret (ej_cmp lt_op cmp_nx (ej_bin mul_op mul_nx (ej_ix (er_var 0) ej_int.er).er (ej_ix (er_var 1) ej_int.er).er).er (ej_bin mul_op mul_nx (ej_ix (er_var 1) ej_int.er).er (ej_ix (er_var 0) ej_int.er).er).er)))
theorem sc_greatest : FnScope N_greatest ["one", "other"] (defScope st_greatest) := ⟨rfl, rfl, rfl, by decide +kernel, rfl, by decide +kernel, by decide +kernel⟩
theorem b_greatest : BindOk "greatest" st_greatest ["one", "other"] := fun _ _ _ _ _ _ us hl => match us, hl with | [_, _], _ => rfl
theorem ok_greatest (T : Txt K mg) (h_below : FnD P w K mg base 1 "below" 2 d_below) : FnD P w K mg base 2 "greatest" 2 d_greatest := fnd_of T.a_greatest sc_greatest b_greatest rfl fun f cdv A outer s H F E hr => have hN := sc_greatest.nd; have tk := cx_takes (P := P) (w := w) (K := K) (mg := mg) (base := base) (N := N_greatest) (x := "greatest") (sc := defScope st_greatest) (f := f) (cdv := cdv) (A := A) (outer := outer) (s := s) (H := H) (E := E); have hp := cx_passes (P := P) (w := w) (K := K) (mg := mg) (base := base) (N := N_greatest) (x := "greatest") (sc := defScope st_greatest) (f := f) (cdv := cdv) (A := A) (outer := outer) (s := s) (H := H) (E := E);
  (bj_one (sj_ret (ej_if (tj_val (ej_call h_below (hr.mono (by decide)) tk (aj_cons (ej_var 0) (aj_cons (ej_var 1) aj_nil))).er) (ej_var 1) (ej_var 0))))
theorem sc_least : FnScope N_least ["one", "other"] (defScope st_least) := ⟨rfl, rfl, rfl, by decide +kernel, rfl, by decide +kernel, by decide +kernel⟩
theorem b_least : BindOk "least" st_least ["one", "other"] := fun _ _ _ _ _ _ us hl => match us, hl with | [_, _], _ => rfl
theorem ok_least (T : Txt K mg) (h_below : FnD P w K mg base 1 "below" 2 d_below) : FnD P w K mg base 2 "least" 2 d_least := fnd_of T.a_least sc_least b_least rfl fun f cdv A outer s H F E hr => have hN := sc_least.nd; have tk := cx_takes (P := P) (w := w) (K := K) (mg := mg) (base := base) (N := N_least) (x := "least") (sc := defScope st_least) (f := f) (cdv := cdv) (A := A) (outer := outer) (s := s) (H := H) (E := E); have hp := cx_passes (P := P) (w := w) (K := K) (mg := mg) (base := base) (N := N_least) (x := "least") (sc := defScope st_least) (f := f) (cdv := cdv) (A := A) (outer := outer) (s := s) (H := H) (E := E);
  (bj_one (sj_ret (ej_if (tj_val (ej_call h_below (hr.mono (by decide)) tk (aj_cons (ej_var 1) (aj_cons (ej_var 0) aj_nil))).er) (ej_var 1) (ej_var 0))))
theorem sc__law_mixed : FnScope N__law_mixed ["_law_cell", "_law_k"] (defScope st__law_mixed) := ⟨rfl, rfl, rfl, by decide +kernel, rfl, by decide +kernel, by decide +kernel⟩
theorem b__law_mixed : BindOk "_law_mixed" st__law_mixed ["_law_cell", "_law_k"] := fun _ _ _ _ _ _ us hl => match us, hl with | [_, _], _ => rfl
theorem ok__law_mixed (T : Txt K mg) : FnD P w K mg base 1 "_law_mixed" 2 d__law_mixed := fnd_of T.a__law_mixed sc__law_mixed b__law_mixed rfl fun f cdv A outer s H F E hr => have hN := sc__law_mixed.nd; have tk := cx_takes (P := P) (w := w) (K := K) (mg := mg) (base := base) (N := N__law_mixed) (x := "_law_mixed") (sc := defScope st__law_mixed) (f := f) (cdv := cdv) (A := A) (outer := outer) (s := s) (H := H) (E := E); have hp := cx_passes (P := P) (w := w) (K := K) (mg := mg) (base := base) (N := N__law_mixed) (x := "_law_mixed") (sc := defScope st__law_mixed) (f := f) (cdv := cdv) (A := A) (outer := outer) (s := s) (H := H) (E := E);
  (bj_cons (sj_set 2 (ej_bin mod_op mod_nx (ej_bin mul_op mul_nx (ej_bin add_op add_nx (er_var 0) (ej_bin mul_op mul_nx ej_int.er (er_var 1)).er).er ej_int.er).er ej_int.er) hN)
  (bj_one (sj_ret (ej_bin mod_op mod_nx (ej_bin mul_op mul_nx (er_var 2) (ej_bin add_op add_nx (ej_bin add_op add_nx (er_var 2) (ej_bin mul_op mul_nx ej_int.er (er_var 1)).er).er ej_int.er).er).er ej_int.er))))
theorem sc__law_cell_at : FnScope N__law_cell_at ["_law_script", "_law_k"] (defScope st__law_cell_at) := ⟨rfl, rfl, rfl, by decide +kernel, rfl, by decide +kernel, by decide +kernel⟩
theorem b__law_cell_at : BindOk "_law_cell_at" st__law_cell_at ["_law_script", "_law_k"] := fun _ _ _ _ _ _ us hl => match us, hl with | [_, _], _ => rfl
theorem ok__law_cell_at (T : Txt K mg) (h__law_mixed : FnD P w K mg base 1 "_law_mixed" 2 d__law_mixed) : FnD P w K mg base 2 "_law_cell_at" 2 d__law_cell_at := fnd_of T.a__law_cell_at sc__law_cell_at b__law_cell_at rfl fun f cdv A outer s H F E hr => have hN := sc__law_cell_at.nd; have tk := cx_takes (P := P) (w := w) (K := K) (mg := mg) (base := base) (N := N__law_cell_at) (x := "_law_cell_at") (sc := defScope st__law_cell_at) (f := f) (cdv := cdv) (A := A) (outer := outer) (s := s) (H := H) (E := E); have hp := cx_passes (P := P) (w := w) (K := K) (mg := mg) (base := base) (N := N__law_cell_at) (x := "_law_cell_at") (sc := defScope st__law_cell_at) (f := f) (cdv := cdv) (A := A) (outer := outer) (s := s) (H := H) (E := E);
  (bj_cons (sj_if (tj_cmp lt_op cmp_nx (er_var 1) (ej_callB len_ok len_nx T.z_len (ar_cons (er_var 0) ar_nil)).er)
  (bj_one (sj_ret (ej_call h__law_mixed (hr.mono (by decide)) tk (aj_cons (ej_ix (er_var 0) (er_var 1)) (aj_cons (ej_var 1) aj_nil)))))
  bj_nil)
  (bj_one (sj_ret (ej_call h__law_mixed (hr.mono (by decide)) tk (aj_cons (ej_var 1) (aj_cons ej_int aj_nil))))))
theorem sc__law_number : FnScope N__law_number ["_law_cell", "_law_k", "_law_size"] (defScope st__law_number) := ⟨rfl, rfl, rfl, by decide +kernel, rfl, by decide +kernel, by decide +kernel⟩
theorem b__law_number : BindOk "_law_number" st__law_number ["_law_cell", "_law_k", "_law_size"] := fun _ _ _ _ _ _ us hl => match us, hl with | [_, _, _], _ => rfl
theorem ok__law_number (T : Txt K mg) (h__law_mixed : FnD P w K mg base 1 "_law_mixed" 2 d__law_mixed) : FnD P w K mg base 2 "_law_number" 3 d__law_number := fnd_of T.a__law_number sc__law_number b__law_number rfl fun f cdv A outer s H F E hr => have hN := sc__law_number.nd; have tk := cx_takes (P := P) (w := w) (K := K) (mg := mg) (base := base) (N := N__law_number) (x := "_law_number") (sc := defScope st__law_number) (f := f) (cdv := cdv) (A := A) (outer := outer) (s := s) (H := H) (E := E); have hp := cx_passes (P := P) (w := w) (K := K) (mg := mg) (base := base) (N := N__law_number) (x := "_law_number") (sc := defScope st__law_number) (f := f) (cdv := cdv) (A := A) (outer := outer) (s := s) (H := H) (E := E);
  (bj_cons (sj_set 3 ej_int hN)
  (bj_cons (sj_for hp rfl (ij_range1 T.z_range (ar_cons ej_int.er ar_nil)) (gj_nm 4 hN)
  (bj_one (sj_set 3 (ej_bin add_op add_nx (ej_bin mul_op mul_nx (er_var 3) ej_int.er).er (ej_call h__law_mixed (hr.mono (by decide)) tk (aj_cons (ej_var 0) (aj_cons (ej_bin add_op add_nx (er_var 1) (er_var 4)) aj_nil))).er) hN)))
  (bj_one (sj_ret (ej_bin mod_op mod_nx (er_var 3) (er_var 2))))))
theorem sc__law_pair : FnScope N__law_pair ["_law_cell", "_law_k"] (defScope st__law_pair) := ⟨rfl, rfl, rfl, by decide +kernel, rfl, by decide +kernel, by decide +kernel⟩
theorem b__law_pair : BindOk "_law_pair" st__law_pair ["_law_cell", "_law_k"] := fun _ _ _ _ _ _ us hl => match us, hl with | [_, _], _ => rfl
theorem ok__law_pair (T : Txt K mg) (h__law_mixed : FnD P w K mg base 1 "_law_mixed" 2 d__law_mixed) (h__law_number : FnD P w K mg base 2 "_law_number" 3 d__law_number) : FnD P w K mg base 3 "_law_pair" 2 d__law_pair := fnd_of T.a__law_pair sc__law_pair b__law_pair rfl fun f cdv A outer s H F E hr => have hN := sc__law_pair.nd; have tk := cx_takes (P := P) (w := w) (K := K) (mg := mg) (base := base) (N := N__law_pair) (x := "_law_pair") (sc := defScope st__law_pair) (f := f) (cdv := cdv) (A := A) (outer := outer) (s := s) (H := H) (E := E); have hp := cx_passes (P := P) (w := w) (K := K) (mg := mg) (base := base) (N := N__law_pair) (x := "_law_pair") (sc := defScope st__law_pair) (f := f) (cdv := cdv) (A := A) (outer := outer) (s := s) (H := H) (E := E);
  (bj_cons (sj_set 2 (ej_ix (eo_lst (aj_cons ej_int (aj_cons ej_int (aj_cons (ej_bin pow_op pow_nx ej_int.er ej_int.er) (aj_cons (ej_bin pow_op pow_nx ej_int.er ej_int.er) aj_nil))))).ej.er (ej_bin mod_op mod_nx (ej_call h__law_mixed (hr.mono (by decide)) tk (aj_cons (ej_var 0) (aj_cons (ej_var 1) aj_nil))).er ej_int.er).er) hN)
  (bj_cons (sj_set 3 (ej_bin sub_op sub_nx (ej_call h__law_number (hr.mono (by decide)) tk (aj_cons (ej_var 0) (aj_cons (ej_bin add_op add_nx (er_var 1) ej_int.er) (aj_cons (ej_bin add_op add_nx (ej_bin mul_op mul_nx ej_int.er (er_var 2)).er ej_int.er) aj_nil)))).er (er_var 2)) hN)
  (bj_cons (sj_set 4 (ej_bin add_op add_nx ej_int.er (ej_call h__law_number (hr.mono (by decide)) tk (aj_cons (ej_var 0) (aj_cons (ej_bin add_op add_nx (er_var 1) ej_int.er) (aj_cons (ej_ix (eo_lst (aj_cons ej_int (aj_cons ej_int (aj_cons (ej_var 2) aj_nil)))).ej.er (ej_bin mod_op mod_nx (ej_call h__law_mixed (hr.mono (by decide)) tk (aj_cons (ej_var 0) (aj_cons (ej_bin add_op add_nx (er_var 1) ej_int.er) aj_nil))).er ej_int.er).er) aj_nil)))).er) hN)
  (bj_one (sj_ret (ej_tup (aj_cons (ej_var 3) (aj_cons (ej_var 4) aj_nil))))))))
theorem sc__law_lowest : FnScope N__law_lowest ["_law_up", "_law_under"] (defScope st__law_lowest) := ⟨rfl, rfl, rfl, by decide +kernel, rfl, by decide +kernel, by decide +kernel⟩
theorem b__law_lowest : BindOk "_law_lowest" st__law_lowest ["_law_up", "_law_under"] := fun _ _ _ _ _ _ us hl => match us, hl with | [_, _], _ => rfl
theorem ok__law_lowest (T : Txt K mg) : FnD P w K mg base 1 "_law_lowest" 2 d__law_lowest := fnd_of T.a__law_lowest sc__law_lowest b__law_lowest rfl fun f cdv A outer s H F E hr => have hN := sc__law_lowest.nd; have tk := cx_takes (P := P) (w := w) (K := K) (mg := mg) (base := base) (N := N__law_lowest) (x := "_law_lowest") (sc := defScope st__law_lowest) (f := f) (cdv := cdv) (A := A) (outer := outer) (s := s) (H := H) (E := E); have hp := cx_passes (P := P) (w := w) (K := K) (mg := mg) (base := base) (N := N__law_lowest) (x := "_law_lowest") (sc := defScope st__law_lowest) (f := f) (cdv := cdv) (A := A) (outer := outer) (s := s) (H := H) (E := E);
  (bj_cons (sj_set 2 (ej_callB abs_ok abs_nx T.z_abs (ar_cons (er_var 0) ar_nil)) hN)
  (bj_cons (sj_set 3 (ej_callB abs_ok abs_nx T.z_abs (ar_cons (er_var 1) ar_nil)) hN)
  (bj_cons (sj_while hp (tj_cmp gt_op cmp_nx (er_var 3) ej_int.er)
  (bj_one (sj_par 2 3 (ej_var 3) (ej_bin mod_op mod_nx (er_var 2) (er_var 3)) rfl hN)))
  (bj_cons (sj_if (tj_cmp lt_op cmp_nx (er_var 1) ej_int.er)
  (bj_one (sj_set 2 (ej_neg (er_var 2)) hN))
  bj_nil)
  (bj_one (sj_ret (ej_tup (aj_cons (ej_bin fdiv_op fdiv_nx (er_var 0) (er_var 2)) (aj_cons (ej_bin fdiv_op fdiv_nx (er_var 1) (er_var 2)) aj_nil)))))))))
theorem sc__law_part : FnScope N__law_part ["_law_cell", "_law_k"] (defScope st__law_part) := ⟨rfl, rfl, rfl, by decide +kernel, rfl, by decide +kernel, by decide +kernel⟩
theorem b__law_part : BindOk "_law_part" st__law_part ["_law_cell", "_law_k"] := fun _ _ _ _ _ _ us hl => match us, hl with | [_, _], _ => rfl
theorem ok__law_part (T : Txt K mg) (h__law_lowest : FnD P w K mg base 1 "_law_lowest" 2 d__law_lowest) (h__law_pair : FnD P w K mg base 3 "_law_pair" 2 d__law_pair) : FnD P w K mg base 4 "_law_part" 2 d__law_part := fnd_of T.a__law_part sc__law_part b__law_part rfl fun f cdv A outer s H F E hr => have hN := sc__law_part.nd; have tk := cx_takes (P := P) (w := w) (K := K) (mg := mg) (base := base) (N := N__law_part) (x := "_law_part") (sc := defScope st__law_part) (f := f) (cdv := cdv) (A := A) (outer := outer) (s := s) (H := H) (E := E); have hp := cx_passes (P := P) (w := w) (K := K) (mg := mg) (base := base) (N := N__law_part) (x := "_law_part") (sc := defScope st__law_part) (f := f) (cdv := cdv) (A := A) (outer := outer) (s := s) (H := H) (E := E);
  (bj_cons (sj_asg (ej_call h__law_pair (hr.mono (by decide)) tk (aj_cons (ej_var 0) (aj_cons (ej_var 1) aj_nil))) (gj_tp (gs_cons 2 (gs_cons 3 gs_nil hN) hN) rfl))
  (bj_one (sj_ret (ej_call h__law_lowest (hr.mono (by decide)) tk (aj_cons (ej_var 2) (aj_cons (ej_var 3) aj_nil))))))
theorem sc__law_is : FnScope N__law_is ["_law_found", "_law_due"] (defScope st__law_is) := ⟨rfl, rfl, rfl, by decide +kernel, rfl, by decide +kernel, by decide +kernel⟩
theorem b__law_is : BindOk "_law_is" st__law_is ["_law_found", "_law_due"] := fun _ _ _ _ _ _ us hl => match us, hl with | [_, _], _ => rfl
theorem ok__law_is (T : Txt K mg) : FnD P w K mg base 1 "_law_is" 2 d__law_is := fnd_of T.a__law_is sc__law_is b__law_is rfl fun f cdv A outer s H F E hr => have hN := sc__law_is.nd; have tk := cx_takes (P := P) (w := w) (K := K) (mg := mg) (base := base) (N := N__law_is) (x := "_law_is") (sc := defScope st__law_is) (f := f) (cdv := cdv) (A := A) (outer := outer) (s := s) (H := H) (E := E); have hp := cx_passes (P := P) (w := w) (K := K) (mg := mg) (base := base) (N := N__law_is) (x := "_law_is") (sc := defScope st__law_is) (f := f) (cdv := cdv) (A := A) (outer := outer) (s := s) (H := H) (E := E);
  (bj_cons (sj_if (tw_tj (tw_or (tj_not (tj_val (ej_isi "tuple" (er_var 0) T.z_isinstance T.z_tuple).er)) (tw_or1 (tj_cmp (ne_op (room_u hr)) ne_nx (ej_callB len_ok len_nx T.z_len (ar_cons (er_var 0) ar_nil)).er ej_int.er))))
  (bj_one (sj_ret ej_bl))
  bj_nil)
  (bj_cons (sj_for hp rfl (ij_seq (ej_var 0)) (gj_nm 2 hN)
  (bj_one (sj_if (tw_tj (tw_or (tj_not (tj_val (ej_isi "int" (er_var 2) T.z_isinstance T.z_int).er)) (tw_or1 (tj_val (ej_isi "bool" (er_var 2) T.z_isinstance T.z_bool).er))))
    (bj_one (sj_ret ej_bl))
    bj_nil)))
  (bj_one (sj_ret (ej_cmp (eq_op (room_u hr)) eq_nx (er_var 0) (er_var 1))))))
theorem sc__law_two : FnScope N__law_two ["_law_cell"] (defScope st__law_two) := ⟨rfl, rfl, rfl, by decide +kernel, rfl, by decide +kernel, by decide +kernel⟩
theorem b__law_two : BindOk "_law_two" st__law_two ["_law_cell"] := fun _ _ _ _ _ _ us hl => match us, hl with | [_], _ => rfl
theorem ok__law_two (T : Txt K mg) (h__law_lowest : FnD P w K mg base 1 "_law_lowest" 2 d__law_lowest) (h__law_part : FnD P w K mg base 4 "_law_part" 2 d__law_part) : FnD P w K mg base 5 "_law_two" 1 d__law_two := fnd_of T.a__law_two sc__law_two b__law_two rfl fun f cdv A outer s H F E hr => have hN := sc__law_two.nd; have tk := cx_takes (P := P) (w := w) (K := K) (mg := mg) (base := base) (N := N__law_two) (x := "_law_two") (sc := defScope st__law_two) (f := f) (cdv := cdv) (A := A) (outer := outer) (s := s) (H := H) (E := E); have hp := cx_passes (P := P) (w := w) (K := K) (mg := mg) (base := base) (N := N__law_two) (x := "_law_two") (sc := defScope st__law_two) (f := f) (cdv := cdv) (A := A) (outer := outer) (s := s) (H := H) (E := E);
  (bj_cons (sj_set 1 (ej_call h__law_part (hr.mono (by decide)) tk (aj_cons (ej_var 0) (aj_cons ej_int aj_nil))) hN)
  (bj_cons (sj_set 2 (ej_call h__law_part (hr.mono (by decide)) tk (aj_cons (ej_var 0) (aj_cons ej_int aj_nil))) hN)
  (bj_cons (sj_set 3 (ej_call h__law_lowest (hr.mono (by decide)) tk (aj_cons (ej_bin add_op add_nx (ej_bin mul_op mul_nx (ej_ix (er_var 1) ej_int.er).er (ej_bin pow_op pow_nx ej_int.er ej_int.er).er).er (ej_ix (er_var 1) ej_int.er).er) (aj_cons (ej_bin mul_op mul_nx (ej_ix (er_var 1) ej_int.er).er (ej_bin pow_op pow_nx ej_int.er ej_int.er).er) aj_nil))) hN)
  (bj_one (sj_ret (ej_tup (aj_cons (ej_var 1) (aj_cons (ej_ix (eo_lst (aj_cons (ej_var 2) (aj_cons (ej_var 2) (aj_cons (ej_var 2) (aj_cons (ej_var 1) (aj_cons (ej_tup (aj_cons ej_int (aj_cons ej_int aj_nil))) (aj_cons (ej_var 3) (aj_cons (ej_tup (aj_cons (ej_neg (ej_ix (er_var 1) ej_int.er).er) (aj_cons (ej_ix (er_var 1) ej_int.er) aj_nil))) (aj_cons (ej_tup (aj_cons ej_int (aj_cons ej_int aj_nil))) aj_nil))))))))).ej.er (ej_bin mod_op mod_nx (er_var 0) ej_int.er).er) aj_nil))))))))
theorem sc__law_right : FnScope N__law_right ["_law_one", "_law_other"] (defScope st__law_right) := ⟨rfl, rfl, rfl, by decide +kernel, rfl, by decide +kernel, by decide +kernel⟩
theorem b__law_right : BindOk "_law_right" st__law_right ["_law_one", "_law_other"] := fun _ _ _ _ _ _ us hl => match us, hl with | [_, _], _ => rfl
theorem ok__law_right (T : Txt K mg) (h__law_is : FnD P w K mg base 1 "_law_is" 2 d__law_is) (h_below : FnD P w K mg base 1 "below" 2 d_below) (h_greatest : FnD P w K mg base 2 "greatest" 2 d_greatest) (h_least : FnD P w K mg base 2 "least" 2 d_least) : FnD P w K mg base 3 "_law_right" 2 d__law_right := fnd_of T.a__law_right sc__law_right b__law_right rfl fun f cdv A outer s H F E hr => have hN := sc__law_right.nd; have tk := cx_takes (P := P) (w := w) (K := K) (mg := mg) (base := base) (N := N__law_right) (x := "_law_right") (sc := defScope st__law_right) (f := f) (cdv := cdv) (A := A) (outer := outer) (s := s) (H := H) (E := E); have hp := cx_passes (P := P) (w := w) (K := K) (mg := mg) (base := base) (N := N__law_right) (x := "_law_right") (sc := defScope st__law_right) (f := f) (cdv := cdv) (A := A) (outer := outer) (s := s) (H := H) (E := E);
  (bj_cons (sj_set 2 (ej_cmp lt_op cmp_nx (ej_bin mul_op mul_nx (ej_ix (er_var 0) ej_int.er).er (ej_ix (er_var 1) ej_int.er).er).er (ej_bin mul_op mul_nx (ej_ix (er_var 1) ej_int.er).er (ej_ix (er_var 0) ej_int.er).er).er) hN)
  (bj_cons (sj_set 3 (ej_call h_below (hr.mono (by decide)) tk (aj_cons (ej_var 0) (aj_cons (ej_var 1) aj_nil))) hN)
  (bj_cons (sj_if (tw_tj (tw_or (tj_not (tj_val (ej_isi "bool" (er_var 3) T.z_isinstance T.z_bool).er)) (tw_or1 (tj_cmp (ne_op (room_u hr)) ne_nx (er_var 3) (er_var 2)))))
  (bj_one (sj_ret ej_bl))
  bj_nil)
  (bj_cons (sj_set 4 (ej_ix (eo_lst (aj_cons (ej_tup (aj_cons (ej_var 0) (aj_cons (ej_var 1) aj_nil))) (aj_cons (ej_tup (aj_cons (ej_var 1) (aj_cons (ej_var 0) aj_nil))) aj_nil))).ej.er (ej_callTy int1_ok int1_nx T.z_int (ar_cons (er_var 2) ar_nil)).er) hN)
  (bj_one (sj_ret (ej_and (ej_call h__law_is (hr.mono (by decide)) tk (aj_cons (ej_call h_greatest (hr.mono (by decide)) tk (aj_cons (ej_var 0) (aj_cons (ej_var 1) aj_nil))) (aj_cons (ej_ix (er_var 4) ej_int.er) aj_nil))).er (ej_one (ej_call h__law_is (hr.mono (by decide)) tk (aj_cons (ej_call h_least (hr.mono (by decide)) tk (aj_cons (ej_var 0) (aj_cons (ej_var 1) aj_nil))) (aj_cons (ej_ix (er_var 4) ej_int.er) aj_nil)))))))))))
theorem sc_law : FnScope N_law ["_law_script"] (defScope st_law) := ⟨rfl, rfl, rfl, by decide +kernel, rfl, by decide +kernel, by decide +kernel⟩
theorem b_law : BindOk "law" st_law ["_law_script"] := fun _ _ _ _ _ _ us hl => match us, hl with | [_], _ => rfl
theorem ok_law {fa : Addr} (T : Txt K mg) (hfa : mg "law" = some (.ref fa)) (h__law_cell_at : ∀ base : Heap, FnD P w K mg base 2 "_law_cell_at" 2 d__law_cell_at) (h__law_right : ∀ base : Heap, FnD P w K mg base 3 "_law_right" 2 d__law_right) (h__law_two : ∀ base : Heap, FnD P w K mg base 5 "_law_two" 1 d__law_two) (h : ∀ ns : List Int, ns.length ≤ 63 → d_law [.klst (ns.map D.int)] = .ok (.bl true)) :
    ∃ fd : FuncData, (∀ (s : Shared) (u : Value), BindsTo s fd ⟨[u], []⟩ [("_law_script", u)]) ∧ ∀ base : Heap, K.In base → base.Ns mainGlobals mg → FnOk P w K mg base (L2.CX P w) 6 fa fd ["_law_script"] (spLaw K 63) :=
  law_of T.a_law hfa sc_law b_law (by decide) (fun base f cdv A outer s H F E hr => have h__law_cell_at := h__law_cell_at base; have h__law_right := h__law_right base; have h__law_two := h__law_two base;  have hN := sc_law.nd; have tk := cx_takes (P := P) (w := w) (K := K) (mg := mg) (base := base) (N := N_law) (x := "law") (sc := defScope st_law) (f := f) (cdv := cdv) (A := A) (outer := outer) (s := s) (H := H) (E := E); have hp := cx_passes (P := P) (w := w) (K := K) (mg := mg) (base := base) (N := N_law) (x := "law") (sc := defScope st_law) (f := f) (cdv := cdv) (A := A) (outer := outer) (s := s) (H := H) (E := E);
  (bj_cons (sj_for hp rfl (ij_range1 T.z_range (ar_cons (ej_callB (max2_ok rfl) max2_nx T.z_max (ar_cons ej_int.er (ar_cons (ej_callB (min2_ok rfl) min2_nx T.z_min (ar_cons (ej_callB len_ok len_nx T.z_len (ar_cons (er_var 0) ar_nil)).er (ar_cons ej_int.er ar_nil))).er ar_nil))).er ar_nil)) (gj_nm 1 hN)
  (bj_cons (sj_asg (ej_call h__law_two (hr.mono (by decide)) tk (aj_cons (ej_call h__law_cell_at (hr.mono (by decide)) tk (aj_cons (ej_var 0) (aj_cons (ej_var 1) aj_nil))) aj_nil)) (gj_tp (gs_cons 2 (gs_cons 3 gs_nil hN) hN) rfl))
    (bj_one (sj_if (tw_tj (tw_or (tj_not (tj_val (ej_call h__law_right (hr.mono (by decide)) tk (aj_cons (ej_var 2) (aj_cons (ej_var 3) aj_nil))).er)) (tw_or1 (tj_not (tj_val (ej_call h__law_right (hr.mono (by decide)) tk (aj_cons (ej_var 3) (aj_cons (ej_var 2) aj_nil))).er)))))
    (bj_one (sj_ret ej_bl))
    bj_nil))))
  (bj_one (sj_ret ej_bl)))) h
theorem all_ok {fa : Addr} (T : Txt K mg) (hfa : mg "law" = some (.ref fa)) (h : ∀ ns : List Int, ns.length ≤ 63 → d_law [.klst (ns.map D.int)] = .ok (.bl true)) :
    ∃ fd : FuncData, (∀ (s : Shared) (u : Value), BindsTo s fd ⟨[u], []⟩ [("_law_script", u)]) ∧ ∀ base : Heap, K.In base → base.Ns mainGlobals mg → FnOk P w K mg base (L2.CX P w) 6 fa fd ["_law_script"] (spLaw K 63) := by
  have h_below := fun base : Heap => ok_below (P := P) (w := w) (base := base) T
  have h_greatest := fun base : Heap => ok_greatest (P := P) (w := w) (base := base) T (h_below base)
  have h_least := fun base : Heap => ok_least (P := P) (w := w) (base := base) T (h_below base)
  have h__law_mixed := fun base : Heap => ok__law_mixed (P := P) (w := w) (base := base) T
  have h__law_cell_at := fun base : Heap => ok__law_cell_at (P := P) (w := w) (base := base) T (h__law_mixed base)
  have h__law_number := fun base : Heap => ok__law_number (P := P) (w := w) (base := base) T (h__law_mixed base)
  have h__law_pair := fun base : Heap => ok__law_pair (P := P) (w := w) (base := base) T (h__law_mixed base) (h__law_number base)
  have h__law_lowest := fun base : Heap => ok__law_lowest (P := P) (w := w) (base := base) T
  have h__law_part := fun base : Heap => ok__law_part (P := P) (w := w) (base := base) T (h__law_lowest base) (h__law_pair base)
  have h__law_is := fun base : Heap => ok__law_is (P := P) (w := w) (base := base) T
  have h__law_two := fun base : Heap => ok__law_two (P := P) (w := w) (base := base) T (h__law_lowest base) (h__law_part base)
  have h__law_right := fun base : Heap => ok__law_right (P := P) (w := w) (base := base) T (h__law_is base) (h_below base) (h_greatest base) (h_least base)
  exact ok_law T hfa h__law_cell_at h__law_right h__law_two h
end
end
end Walk

namespace MathLaw
open FV Walk
open L2 (atI)
theorem mixed (c k : Int) (h0 : 0 ≤ k) (h1 : k < 1000000) : ∃ m : Int, d__law_mixed [.int c, .int k] = .ok (.int m) ∧ 0 ≤ m ∧ m < 2147483629 := by
  have e1 : MulOk 7919 k := mulOk_l (by omega) (by omega)
  have e2 : MulOk (c + 7919 * k) 48271 := mulOk_r (by omega) (by omega)
  have b1 := Int.emod_nonneg ((c + 7919 * k) * 48271) (show (2147483647 : Int) ≠ 0 by decide)
  have b2 := Int.emod_lt_of_pos ((c + 7919 * k) * 48271) (show (0 : Int) < 2147483647 by decide)
  have e3 : MulOk ((c + 7919 * k) * 48271 % 2147483647) ((c + 7919 * k) * 48271 % 2147483647 + 2 * k + 1) := mulOk_l (by omega) (by omega)
  have e4 : MulOk 2 k := mulOk_l (by omega) (by omega)
  refine ⟨((c + 7919 * k) * 48271 % 2147483647) * ((c + 7919 * k) * 48271 % 2147483647 + 2 * k + 1) % 2147483629, ?_, Int.emod_nonneg _ (by decide), Int.emod_lt_of_pos _ (by decide)⟩
  simp [d__law_mixed, s__law_mixed, runB, mulD_int e1, mulD_int e2, mulD_int e3, mulD_int e4, modD_int]

theorem number (c k z : Int) (h0 : 0 ≤ k) (h1 : k < 900000) (hz : 0 < z) : ∃ m : Int, d__law_number [.int c, .int k, .int z] = .ok (.int m) ∧ 0 ≤ m ∧ m < z := by
  obtain ⟨ρ', e, f, x, rfl⟩ := forD_inv (T := .nm 4) (body := (sSet 3 (dBin addD (dBin mulD (dVarR 3) (dC (.int 2147483629))) (dCall d__law_mixed (aCons (dVar 0) (aCons (dBin addD (dVarR 1) (dVarR 4)) aNil))))))
    (fun _ ρ => ∃ (f : Int) (x : Option Sl), ρ = [some (.frz (.int c)), some (.frz (.int k)), some (.frz (.int z)), some (.frz (.int f)), x]) (rangeL 0 8) 0
    [some (.frz (.int c)), some (.frz (.int k)), some (.frz (.int z)), some (.frz (.int 0)), none] ⟨0, none, rfl⟩ (by
      rintro i d ρ hd ⟨f, x, rfl⟩
      obtain ⟨hi, rfl⟩ := range0_get hd
      obtain ⟨m, hm, _, _⟩ := mixed c (k + (i : Int)) (by omega) (by omega)
      exact ⟨_, _, rfl, .inl (by simp [mulD_int (mulOk_r (i := f) (j := 2147483629) (by decide) (by decide)), hm]; exact ⟨rfl, rfl⟩), _, _, rfl⟩)
  refine ⟨f % z, ?_, Int.emod_nonneg _ (by omega), Int.emod_lt_of_pos _ hz⟩
  have e8 : rng1 [.int 8] = .ok (rangeL 0 8) := by simp [rng1]
  simp [d__law_number, s__law_number, runB, e8, e, modD_int hz]
theorem at4 (a b c d : D) (i : Int) (h0 : 0 ≤ i) (h1 : i < 4) : ∃ e, atI [a, b, c, d] i = some e ∧ (e = a ∨ e = b ∨ e = c ∨ e = d) := by
  have h : i = 0 ∨ i = 1 ∨ i = 2 ∨ i = 3 := by omega
  rcases h with rfl | rfl | rfl | rfl <;> exact ⟨_, rfl, by simp⟩
theorem at3 (a b c : D) (i : Int) (h0 : 0 ≤ i) (h1 : i < 3) : ∃ e, atI [a, b, c] i = some e ∧ (e = a ∨ e = b ∨ e = c) := by
  have h : i = 0 ∨ i = 1 ∨ i = 2 := by omega
  rcases h with rfl | rfl | rfl <;> exact ⟨_, rfl, by simp⟩
theorem pow18 : powD (.int 10) (.int 18) = .ok (.int 1000000000000000000) := by rw [powD_int (by unfold PowOk; decide)]; rfl
theorem pow60 : powD (.int 10) (.int 60) = .ok (.int 1000000000000000000000000000000000000000000000000000000000000) := by rw [powD_int (by unfold PowOk; decide)]; rfl
theorem pair (c k : Int) (h0 : 0 ≤ k) (h1 : k < 800000) : ∃ u v : Int, d__law_pair [.int c, .int k] = .ok (.tup [.int u, .int v]) ∧ Sm 200 u ∧ 0 < v ∧ Sm 200 v := by
  obtain ⟨m, hm, m0, m1⟩ := mixed c k h0 (by omega)
  obtain ⟨e, he, hz⟩ := at4 (.int 10) (.int 1000) (.int 1000000000000000000) (.int 1000000000000000000000000000000000000000000000000000000000000) (m % 4) (by omega) (by omega)
  obtain ⟨z, rfl, z0, z1⟩ : ∃ z : Int, e = .int z ∧ 0 < z ∧ z ≤ 1000000000000000000000000000000000000000000000000000000000000 := by
    rcases hz with rfl | rfl | rfl | rfl <;> exact ⟨_, rfl, by decide, by decide⟩
  obtain ⟨n, hn, n0, n1⟩ := number c (k + 1) (2 * z + 1) (by omega) (by omega) (by omega)
  obtain ⟨m2, hm2, m20, m21⟩ := mixed c (k + 21) (by omega) (by omega)
  obtain ⟨e2, he2, hz2⟩ := at3 (.int 1) (.int 12) (.int z) (m2 % 3) (by omega) (by omega)
  obtain ⟨y, rfl, y0, y1⟩ : ∃ y : Int, e2 = .int y ∧ 0 < y ∧ y ≤ 1000000000000000000000000000000000000000000000000000000000000 := by
    rcases hz2 with rfl | rfl | rfl
    · exact ⟨_, rfl, by decide, by decide⟩
    · exact ⟨_, rfl, by decide, by decide⟩
    · exact ⟨_, rfl, z0, z1⟩
  obtain ⟨n2, hn2, n20, n21⟩ := number c (k + 11) y (by omega) (by omega) (by omega)
  refine ⟨n - z, 1 + n2, ?_, by unfold Sm; omega, by omega, by unfold Sm; omega⟩
  have e3 : MulOk 2 z := mulOk_l (by omega) (by omega)
  simp [d__law_pair, s__law_pair, runB, hm, pow18, pow60, modD_int, he, mulD_int e3, hn, hm2, he2, hn2]

theorem lowest (u v : Int) (n : Nat) (hn : n ≤ 9000) (h0 : 0 < n) (hu : Sm n u) (hv : 0 < v) (hv2 : Sm n v) : d__law_lowest [.int u, .int v] = .ok (pt (Rat.divInt u v)) := by
  have hg : 0 < Nat.gcd u.natAbs v.natAbs := Nat.gcd_pos_of_pos_right _ (by omega)
  have hgl : Nat.gcd u.natAbs v.natAbs ≤ v.natAbs := Nat.gcd_le_right _ (by omega)
  have hd : DivOk ((Nat.gcd u.natAbs v.natAbs : Nat) : Int) := divOk_of (b := n) (by omega) (by unfold Sm at *; omega) h0 hn
  obtain ⟨r1, r2⟩ := red_pos u v hv
  have eu : (if u < 0 then -u else u) = (u.natAbs : Int) := by omega
  have ev : (if v < 0 then -v else v) = (v.natAbs : Int) := by omega
  have loop := gcd_loop (t := tVal (dBin gtD (dVarR 3) (dC (.int 0)))) (g := sPar 2 3 (dVar 3) (dBin modD (dVarR 2) (dVarR 3)))
    (fun a b => [some (.frz (.int u)), some (.frz (.int v)), some (.frz (.int (a : Int))), some (.frz (.int (b : Int)))])
    (fun a b => by simp) (fun a b hb => by simp [modD_int (show (0 : Int) < (b : Int) by omega)]) u.natAbs v.natAbs
  have hlt : ¬ v < 0 := by omega
  rw [show ((v.natAbs : Nat) : Int) = v by omega] at loop
  unfold pt
  simp [d__law_lowest, s__law_lowest, runB, eu, loop, hlt, fdivD_int hd, r1, r2]
theorem part (c k : Int) (h0 : 0 ≤ k) (h1 : k < 800000) : ∃ q : Rat, d__law_part [.int c, .int k] = .ok (pt q) ∧ Sm 200 q.num ∧ Sm 200 (q.den : Int) := by
  obtain ⟨u, v, hp, hu, hv, hv2⟩ := pair c k h0 h1
  have hl := lowest u v 200 (by decide) (by decide) hu hv hv2
  have a1 := num_le u v
  have a2 := den_le u v (by omega)
  refine ⟨Rat.divInt u v, ?_, by unfold Sm at *; omega, by unfold Sm at *; omega⟩
  simp [d__law_part, s__law_part, runB, hp, hl]
/-- what is told to be a part and the due one -/
theorem law_is (p q : Rat) : d__law_is [pt p, pt q] = .ok (.bl (decide (p = q))) := by
  have e := eqD_pt (p := p) (q := q)
  unfold pt at e ⊢
  have ne : neD (.int 2) (.int 2) = .ok (.bl false) := by rw [neD_int]; rfl
  simp [d__law_is, s__law_is, runB, isiD, isSub, forD, ne, e]
theorem below (p q : Rat) (n : Nat) (hn : n ≤ 100000) (h0 : 0 < n) (a1 : Sm n p.num) (a2 : Sm n (p.den : Int)) (b1 : Sm n q.num) (b2 : Sm n (q.den : Int)) : d_below [pt p, pt q] = .ok (.bl (decide (p < q))) := by
  have e1 := mulOk_w a1 b2 h0 h0 (by omega)
  have e2 := mulOk_w b1 a2 h0 h0 (by omega)
  simp [d_below, s_below, runB, mulD_int e1, mulD_int e2, Rat.lt_iff]
theorem two (c : Int) (hc : 0 ≤ c) : ∃ p q : Rat, d__law_two [.int c] = .ok (.tup [pt p, pt q]) ∧ SmQ 600 p ∧ SmQ 600 q := by
  obtain ⟨p, hp, p1, p2⟩ := part c 1 (by decide) (by decide)
  obtain ⟨q, hq, q1, q2⟩ := part c 60 (by decide) (by decide)
  have t1 : Sm 200 (1000000000000000000000000000000000000000000000000000000000000 : Int) := by unfold Sm; decide
  have m1 : MulOk p.num 1000000000000000000000000000000000000000000000000000000000000 := mulOk_w p1 t1 (by decide) (by decide) (by decide)
  have m2 : MulOk (p.den : Int) 1000000000000000000000000000000000000000000000000000000000000 := mulOk_w p2 t1 (by decide) (by decide) (by decide)
  have s1 : Sm 402 (p.num * 1000000000000000000000000000000000000000000000000000000000000 + p.den) := sm_mono (sm_add (sm_mul p1 t1) (sm_mono p2 (by decide))) (by decide)
  have s2 : Sm 402 ((p.den : Int) * 1000000000000000000000000000000000000000000000000000000000000) := sm_mono (sm_mul p2 t1) (by decide)
  have dp := p.den_pos
  have hl := lowest (p.num * 1000000000000000000000000000000000000000000000000000000000000 + p.den) ((p.den : Int) * 1000000000000000000000000000000000000000000000000000000000000) 402 (by decide) (by decide) s1 (by omega) s2
  have r0 := smQ_low s1 s2 (by omega)
  generalize Rat.divInt (p.num * 1000000000000000000000000000000000000000000000000000000000000 + p.den) ((p.den : Int) * 1000000000000000000000000000000000000000000000000000000000000) = r at hl r0
  have r1 : SmQ 600 r := smQ_mono r0 (by decide)
  have sp : SmQ 600 p := ⟨sm_mono p1 (by decide), sm_mono p2 (by decide)⟩
  have sq : SmQ 600 q := ⟨sm_mono q1 (by decide), sm_mono q2 (by decide)⟩
  have sn : SmQ 600 (-p) := smQ_neg sp
  have z0 : (D.tup [.int 0, .int 1]) = pt 0 := rfl
  have z1 : (D.tup [.int 1, .int 1]) = pt 1 := rfl
  have zn : (D.tup [.int (-p.num), .int (p.den : Int)]) = pt (-p) := by unfold pt; rw [Rat.neg_num, Rat.neg_den]
  have hx : ∃ e : Rat, atI [pt q, pt q, pt q, pt p, pt 0, pt r, pt (-p), pt 1] (c % 8) = some (pt e) ∧ SmQ 600 e := by
    have h : c % 8 = 0 ∨ c % 8 = 1 ∨ c % 8 = 2 ∨ c % 8 = 3 ∨ c % 8 = 4 ∨ c % 8 = 5 ∨ c % 8 = 6 ∨ c % 8 = 7 := by omega
    rcases h with h | h | h | h | h | h | h | h <;> rw [h]
    · exact ⟨q, rfl, sq⟩
    · exact ⟨q, rfl, sq⟩
    · exact ⟨q, rfl, sq⟩
    · exact ⟨p, rfl, sp⟩
    · exact ⟨0, rfl, sm_zero, sm_one (by decide)⟩
    · exact ⟨r, rfl, r1⟩
    · exact ⟨-p, rfl, sn⟩
    · exact ⟨1, rfl, sm_one (by decide), sm_one (by decide)⟩
  obtain ⟨e, he, se⟩ := hx
  refine ⟨p, e, ?_, sp, se⟩
  simp [d__law_two, s__law_two, runB, hp, hq, pow60, mulD_int m1, mulD_int m2, hl, modD_int, z0, z1, zn, he]
theorem right (p q : Rat) (hp : SmQ 600 p) (hq : SmQ 600 q) : d__law_right [pt p, pt q] = .ok (.bl true) := by
  have b1 := below p q 600 (by decide) (by decide) hp.1 hp.2 hq.1 hq.2
  have b2 := below q p 600 (by decide) (by decide) hq.1 hq.2 hp.1 hp.2
  have g1 : d_greatest [pt p, pt q] = .ok (pt (if p < q then q else p)) := by
    by_cases h : p < q <;> simp [d_greatest, s_greatest, runB, b1, h]
  have g2 : d_least [pt p, pt q] = .ok (pt (if q < p then q else p)) := by
    by_cases h : q < p <;> simp [d_least, s_least, runB, b2, h]
  have e1 := mulOk_w hp.1 hq.2 (by decide) (by decide) (by decide)
  have e2 := mulOk_w hq.1 hp.2 (by decide) (by decide) (by decide)
  have le : (decide (p.num * (q.den : Int) < q.num * (p.den : Int))) = decide (p < q) := by simp only [Rat.lt_iff]
  by_cases h : p < q
  · have h' : ¬ q < p := fun z => Rat.lt_irrefl (Std.lt_trans h z)
    simp [d__law_right, s__law_right, runB, mulD_int e1, mulD_int e2, le, b1, isiD, isSub, neD_bl, g1, g2, h, h', law_is]
  · by_cases h2 : q < p
    · simp [d__law_right, s__law_right, runB, mulD_int e1, mulD_int e2, le, b1, isiD, isSub, neD_bl, g1, g2, h, h2, law_is]
    · have e : p = q := Rat.le_antisymm (Rat.not_lt.mp h2) (Rat.not_lt.mp h)
      subst e
      simp [d__law_right, s__law_right, runB, mulD_int e1, mulD_int e2, le, b1, isiD, isSub, neD_bl, g1, g2, h, law_is]
theorem cell_at (ns : List Int) (k : Nat) (hk : k < 1000) : ∃ c : Int, d__law_cell_at [.klst (ns.map D.int), .int (k : Int)] = .ok (.int c) ∧ 0 ≤ c := by
  by_cases h : k < ns.length
  · obtain ⟨m, hm, m0, _⟩ := mixed (ns[k]) (k : Int) (by omega) (by omega)
    refine ⟨m, ?_, m0⟩
    simp [d__law_cell_at, s__law_cell_at, runB, h, hm]
  · obtain ⟨m, hm, m0, _⟩ := mixed (k : Int) 3 (by omega) (by omega)
    refine ⟨m, ?_, m0⟩
    simp [d__law_cell_at, s__law_cell_at, runB, h, hm]
theorem law_true : ∀ ns : List Int, ns.length ≤ 63 → d_law [.klst (ns.map D.int)] = .ok (.bl true) := by
  intro ns hl
  obtain ⟨n, hn, hn2⟩ : ∃ n : Nat, (if (if (40 : Int) < (ns.length : Int) then 40 else (ns.length : Int)) > 1 then (if (40 : Int) < (ns.length : Int) then 40 else (ns.length : Int)) else 1) = (n : Int) ∧ n ≤ 40 :=
    ⟨(if (if (40 : Int) < (ns.length : Int) then 40 else (ns.length : Int)) > 1 then (if (40 : Int) < (ns.length : Int) then 40 else (ns.length : Int)) else 1).toNat, by split <;> split <;> omega, by split <;> split <;> omega⟩
  have hr := rng1_nat (n := n) (by omega)
  obtain ⟨ρ', e, a, b, d, rfl⟩ := forD_inv (T := .nm 1) (body := (bSeq (sAsg (.tp [2, 3]) (dCall d__law_two (aCons (dCall d__law_cell_at (aCons (dVar 0) (aCons (dVar 1) aNil))) aNil)))
      (sIf (tOrB (tNotB (tVal (dCall d__law_right (aCons (dVar 2) (aCons (dVar 3) aNil))))) (tNotB (tVal (dCall d__law_right (aCons (dVar 3) (aCons (dVar 2) aNil))))))
      (sRet (dC (.bl false)))
      bNil)))
    (fun _ ρ => ∃ a b d : Option Sl, ρ = [some (.frz (.klst (ns.map D.int))), a, b, d]) (rangeL 0 n) 0
    [some (.frz (.klst (ns.map D.int))), none, none, none] ⟨none, none, none, rfl⟩ (by
      rintro i d ρ hd ⟨a, b, d2, rfl⟩
      obtain ⟨hi, rfl⟩ := range0_get hd
      obtain ⟨c, hc, c0⟩ := cell_at ns i (by omega)
      obtain ⟨p, q, h2, hp, hq⟩ := two c c0
      exact ⟨_, _, rfl, .inl (by simp [hc, h2, right p q hp hq, right q p hq hp]; exact ⟨rfl, rfl, rfl⟩), _, _, _, rfl⟩)
  have h1 : (iRng (aCons (dCall max2D (aCons (dC (.int 1)) (aCons (dCall min2D (aCons (dCall lenD (aCons (dVarR 0) aNil)) (aCons (dC (.int 40)) aNil))) aNil))) aNil)) [some (.frz (.klst (ns.map D.int))), none, none, none] = .ok (rangeL 0 n) := by
    simp only [iRng_ev, aCons_ev, dCall_ev, dC_ev, aNil_ev, bind_ok', dVarR_0, lenD_klst, min2D_int, max2D_int, List.length_map]
    rw [hn]
    exact hr
  unfold d_law
  refine runB_ret ?_
  show s_law [some (.frz (.klst (ns.map D.int))), none, none, none] = _
  unfold s_law
  rw [bSeq_ev, sFor_ev, h1, lift_ok, e]
  rfl
end MathLaw

/-! ## the end -/
open PySem PySem.W PyProof.Rows
set_option maxRecDepth 100000 in
set_option maxHeartbeats 0 in
theorem PySem.Challenge.cw_levyhouse_k03_orders_holds : PySem.Challenge.rw_levyhouse_k03_orders.Holds := by
  w_on; o_law; k_head; (case hw => w_witness2)
  k_fill
  refine L2.walk_of (l := PySem.Challenge.rw_levyhouse_k03_orders) (n := 63) (k := 6) (x := "_law_script") (CX := fun w => L2.CX PySem.Challenge.rw_levyhouse_k03_orders.prog w) (sp := fun w => FV.spLaw _ 63) rfl (by decide) rfl ⟨rfl, by decide, by decide⟩ (fun w h Y => PySem.W.kIn_of Y) ?F (fun _ _ a ns hl _ hS => ⟨a, ns, rfl, hl, hS, fun _ => rfl⟩) (fun _ _ _ _ _ z => FV.no_cx z)
  case F =>
    intro w mg fa h KX G hmg
    refine Walk.all_ok ?T hmg MathLaw.law_true
    constructor
    · refine' FV.at_mk KX G ?a ?l ?c ?k; (case a => k_is); (case l => k_is); (case c => k_is); (case k => k_is)
    · refine' FV.at_mk KX G ?a ?l ?c ?k; (case a => k_is); (case l => k_is); (case c => k_is); (case k => k_is)
    · refine' FV.at_mk KX G ?a ?l ?c ?k; (case a => k_is); (case l => k_is); (case c => k_is); (case k => k_is)
    · refine' FV.at_mk KX G ?a ?l ?c ?k; (case a => k_is); (case l => k_is); (case c => k_is); (case k => k_is)
    · refine' FV.at_mk KX G ?a ?l ?c ?k; (case a => k_is); (case l => k_is); (case c => k_is); (case k => k_is)
    · refine' FV.at_mk KX G ?a ?l ?c ?k; (case a => k_is); (case l => k_is); (case c => k_is); (case k => k_is)
    · refine' FV.at_mk KX G ?a ?l ?c ?k; (case a => k_is); (case l => k_is); (case c => k_is); (case k => k_is)
    · refine' FV.at_mk KX G ?a ?l ?c ?k; (case a => k_is); (case l => k_is); (case c => k_is); (case k => k_is)
    · refine' FV.at_mk KX G ?a ?l ?c ?k; (case a => k_is); (case l => k_is); (case c => k_is); (case k => k_is)
    · refine' FV.at_mk KX G ?a ?l ?c ?k; (case a => k_is); (case l => k_is); (case c => k_is); (case k => k_is)
    · refine' FV.at_mk KX G ?a ?l ?c ?k; (case a => k_is); (case l => k_is); (case c => k_is); (case k => k_is)
    · refine' FV.at_mk KX G ?a ?l ?c ?k; (case a => k_is); (case l => k_is); (case c => k_is); (case k => k_is)
    · refine' FV.at_mk KX G ?a ?l ?c ?k; (case a => k_is); (case l => k_is); (case c => k_is); (case k => k_is)
    · refine' PySem.W.mg_none_of KX G ?z; (case z => k_is)
    · refine' PySem.W.mg_none_of KX G ?z; (case z => k_is)
    · refine' PySem.W.mg_none_of KX G ?z; (case z => k_is)
    · refine' PySem.W.mg_none_of KX G ?z; (case z => k_is)
    · refine' PySem.W.mg_none_of KX G ?z; (case z => k_is)
    · refine' PySem.W.mg_none_of KX G ?z; (case z => k_is)
    · refine' PySem.W.mg_none_of KX G ?z; (case z => k_is)
    · refine' PySem.W.mg_none_of KX G ?z; (case z => k_is)
    · refine' PySem.W.mg_none_of KX G ?z; (case z => k_is)
#print axioms PySem.Challenge.cw_levyhouse_k03_orders_holds
