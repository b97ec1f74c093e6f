import PyProof.Rows.All
import Wide.All
import OpenK.AllK
import Wide.FinOn
import PyProof.EqAt
import PyProof.EqKinds
import PyProof.TupleCall
import HandS.ForMost
import HandS.ForExc
import HandS.Wide
import HandS.IsInst
import HandS.TupAny
import HandS.Zip
import HandS.Conv
import HandS.Style
import HandS.Flow
import HandS.Deep
import HandS.Exc
import HandS.Lambda
import PyProof.EnumMake
import PyProof.Draws
import KE.GoesMore
import HandS.Ends
import HandS.Defaults
import HandS.ExcOwn
import HandS.ExcIs
import HandS.ExcValue
import HandS.TryOnly
import HandS.More
import HandS.SetFor
import HandS.Text
import KE.GoesEnum
import HandS.EndTab
import KE.KNestM
import PySem.Challenge.RW_levyhouse_k01_parts_made
set_option Elab.async false
set_option linter.all false
set_option maxRecDepth 100000
set_option maxHeartbeats 4000000
/-! FV1: values as data, the relation, the judgements. -/
namespace FV
open PySem PySem.Spec PyProof.Rows L2
/-- a lambda of the text: its code's name, its parameters, its body, its names -/
structure LamTx where
  q : Str
  ps : Arguments
  body : Expr
  sc : Scope
/-- the tables of code objects that a law's lambdas may write, each with the name of its code objects; the lambdas -/
class Tbs where
  T : List (Addr × Str) := []
  L : Nat → LamTx := fun _ => ⟨"", ⟨[], [], none, [], [], none, []⟩, .Constant .none 0 ⟨0, 0, 0, 0⟩, ⟨.function, [], false, false, []⟩⟩
/-- the cells of the def that made a lambda -/
abbrev LTok := List (Str × Addr)
/-- the function object of a lambda -/
def LamO (tx : LamTx) (tok : LTok) (f c : Addr) : HO := .ext fun h => ∃ (pm ctv : Value), h.get? f = some (PySem.W.kla_obj "<lambda>" tx.q tx.ps tx.body tx.sc (cloFrom tok tx.sc.names []) pm c ctv)
/-- no table -/
def NT (o : HO) : Prop := ∀ ps, o ≠ .tbl ps
variable [Tbs]
/-- all that was tracked is as it was, but the tables of code objects -/
structure GH (H H' : Hp) : Prop where
  k : ∀ b o, H b = some o → (hn : NT o := by first | assumption | (intro ps z; cases z; done)) → H' b = some o
  tabs : LamX.Tabs Tbs.T H → LamX.Tabs Tbs.T H'
theorem GH.of {H H' : Hp} (e : Same H H') : GH H H' where
  k := fun b o h _ => e b o h
  tabs := fun t => LamX.Tabs.ext t e
/-- nothing but a table, perhaps -/
def FrN (H : Hp) (a : Addr) : Prop := ∀ o, H a = some o → ¬ NT o
theorem frN_none {H : Hp} {a : Addr} (h : H a = none) : FrN H a := fun o q => by rw [h] at q; cases q
theorem nt_lst {vs : List V} : NT (.lst vs) := fun ps z => by cases z
/-- no table in it -/
def NTF (F : Hp) : Prop := ∀ a o, F a = some o → NT o
theorem NTF.upd {F : Hp} {p : Addr} {o : HO} (h : NTF F) (n : NT o) : NTF (upd F p o) := fun a u e => by
  by_cases ha : a = p
  · subst ha; rw [upd_same] at e; cases e; exact n
  · rw [upd_ne ha] at e; exact h a u e
/-- a def is entered so: F is frozen in H and free of tables, the tables are well -/
def St (F H : Hp) : Prop := Same F H ∧ NTF F ∧ LamX.Tabs Tbs.T H
/-- a heap without its tables -/
def clean (H : Hp) : Hp := fun a => match H a with
  | some (.tbl _) => none
  | o => o
theorem clean_of {H : Hp} {a : Addr} {o : HO} (h : H a = some o) (n : NT o) : clean H a = some o := by
  unfold clean; rw [h]; cases o <;> first | rfl | exact absurd rfl (n _)
theorem clean_some {H : Hp} {a : Addr} {o : HO} (h : clean H a = some o) : H a = some o ∧ NT o := by
  unfold clean at h
  cases q : H a with
  | none => rw [q] at h; cases h
  | some u =>
    rw [q] at h
    cases u <;> first | (cases h; exact ⟨rfl, fun ps z => by cases z⟩) | cases h
theorem clean_same (H : Hp) : Same (clean H) H := fun _ _ h => (clean_some h).1
theorem clean_nt (H : Hp) : NTF (clean H) := fun _ _ h => (clean_some h).2
theorem same_clean {F H : Hp} (s : Same F H) (n : NTF F) : Same F (clean H) := fun a o h => clean_of (s a o h) (n a o h)
theorem clean_seq {K : PySem.W.Frag} {H : Hp} {a : Addr} {xs : List V} (h : SqL K H a xs) : SqL K (clean H) a xs := by
  rcases h with (h | ⟨o, h⟩) | h
  · exact .inl (.inl (clean_of h fun ps z => by cases z))
  · exact .inl (.inr ⟨o, clean_of h fun ps z => by cases z⟩)
  · exact .inr h
theorem GH.refl (H : Hp) : GH H H := GH.of (Same.refl H)
theorem GH.trans {H H1 H2 : Hp} (a : GH H H1) (b : GH H1 H2) : GH H H2 := ⟨fun c o h n => b.k c o (a.k c o h n) n, fun t => b.tabs (a.tabs t)⟩
/-- a list, a dict, an instance -/
def Mu : HO → Prop
  | .lst _ => True
  | .dK _ => True
  | .ins _ _ _ => True
  | _ => False
theorem Mu.nt {o : HO} (h : Mu o) : NT o := fun ps z => by subst z; exact h
theorem tabs_mutM {H : Hp} {a : Addr} {o u : HO} (h : H a = some o) (m : Mu o) {T : List (Addr × Str)} (t : LamX.Tabs T H) : LamX.Tabs T (upd H a u) := fun p hp => by
  obtain ⟨ps, h1, h2, h3⟩ := t p hp
  have n1 : p.1 ≠ a := fun e => by rw [e, h] at h1; cases h1; exact m
  refine ⟨ps, by rw [upd_ne n1]; exact h1, h2, fun pos cv hc => ?_⟩
  obtain ⟨c, e1, e2⟩ := h3 pos cv hc
  refine ⟨c, e1, ?_⟩
  have n2 : c ≠ a := fun e => by rw [e, h] at e2; unfold LamX.CodeO at e2; cases e2; exact m
  rw [upd_ne n2]; exact e2
theorem tabs_mut {H : Hp} {a : Addr} {ws vs : List V} (h : H a = some (.lst ws)) {T : List (Addr × Str)} (t : LamX.Tabs T H) : LamX.Tabs T (upd H a (.lst vs)) := fun p hp => by
  obtain ⟨ps, h1, h2, h3⟩ := t p hp
  have n1 : p.1 ≠ a := fun e => by rw [e, h] at h1; cases h1
  refine ⟨ps, by rw [upd_ne n1]; exact h1, h2, fun pos cv hc => ?_⟩
  obtain ⟨c, e1, e2⟩ := h3 pos cv hc
  refine ⟨c, e1, ?_⟩
  have n2 : c ≠ a := fun e => by rw [e, h] at e2; unfold LamX.CodeO at e2; cases e2
  rw [upd_ne n2]; exact e2
theorem GH.mut {H0 H : Hp} (g : GH H0 H) {a : Addr} {ws vs : List V} (h0 : FrN H0 a) (h : H a = some (.lst ws)) : GH H0 (upd H a (.lst vs)) where
  k := fun b o q n => by
    have nb : b ≠ a := fun e => by subst e; exact h0 o q n
    rw [upd_ne nb]; exact g.k b o q n
  tabs := fun t => tabs_mut h (g.tabs t)
theorem GH.mutM {H0 H : Hp} (g : GH H0 H) {a : Addr} {o u : HO} (h0 : FrN H0 a) (h : H a = some o) (m : Mu o) : GH H0 (upd H a u) where
  k := fun b o q n => by
    have nb : b ≠ a := fun e => by subst e; exact h0 o q n
    rw [upd_ne nb]; exact g.k b o q n
  tabs := fun t => tabs_mutM h m (g.tabs t)
theorem GH.free' {H H' : Hp} (e : GH H H') {l : Addr} (h : FrN H' l) : FrN H l := fun o q n => h o (e.k _ _ q n) n
theorem GH.free {H H' : Hp} (e : GH H H') {l : Addr} (h : H' l = none) : FrN H l := e.free' (frN_none h)
theorem GH.seq {K : PySem.W.Frag} {H H' : Hp} {a : Addr} {xs : List V} (e : GH H H') (h : SqL K H a xs) : SqL K H' a xs := by
  rcases h with (h | ⟨o, h⟩) | h
  · exact .inl (.inl (e.k _ _ h))
  · exact .inl (.inr ⟨o, e.k _ _ h⟩)
  · exact .inr h

section
variable {es : List Expr} {env : PySem.Env}
theorem st_c {k j p} : starEach (.Constant k j p :: es) env = (false, eval (.Constant k j p) env) :: starEach es env := rfl
theorem st_n {k p} : starEach (.Name k p :: es) env = (false, eval (.Name k p) env) :: starEach es env := rfl
theorem st_b {k j l p} : starEach (.BinOp k j l p :: es) env = (false, eval (.BinOp k j l p) env) :: starEach es env := rfl
theorem st_u {k j p} : starEach (.UnaryOp k j p :: es) env = (false, eval (.UnaryOp k j p) env) :: starEach es env := rfl
theorem st_s {k j p} : starEach (.Subscript k j p :: es) env = (false, eval (.Subscript k j p) env) :: starEach es env := rfl
theorem st_f {k j l p} : starEach (.Call k j l p :: es) env = (false, eval (.Call k j l p) env) :: starEach es env := rfl
theorem st_t {k j p} : starEach (.Tuple k j p :: es) env = (false, eval (.Tuple k j p) env) :: starEach es env := rfl
theorem st_l {k p} : starEach (.List k p :: es) env = (false, eval (.List k p) env) :: starEach es env := rfl
theorem st_q {k j l p} : starEach (.Compare k j l p :: es) env = (false, eval (.Compare k j l p) env) :: starEach es env := rfl
theorem st_o {k j p} : starEach (.BoolOp k j p :: es) env = (false, eval (.BoolOp k j p) env) :: starEach es env := rfl
theorem st_i {k j l p} : starEach (.IfExp k j l p :: es) env = (false, eval (.IfExp k j l p) env) :: starEach es env := rfl
theorem st_m {k j l p} : starEach (.ListComp k j l p :: es) env = (false, eval (.ListComp k j l p) env) :: starEach es env := rfl
theorem st_a {k j p} : starEach (.Attribute k j p :: es) env = (false, eval (.Attribute k j p) env) :: starEach es env := rfl
theorem st_h {k j l p} : starEach (.Lambda k j l p :: es) env = (false, eval (.Lambda k j l p) env) :: starEach es env := rfl
theorem st_g {k j l p} : starEach (.GeneratorExp k j l p :: es) env = (false, eval (.GeneratorExp k j l p) env) :: starEach es env := rfl
theorem st_d {k j p} : starEach (.Dict k j p :: es) env = (false, eval (.Dict k j p) env) :: starEach es env := rfl
theorem pl_0 {pos : Pos} : (backTo pos (starEach [] env)).any (·.1) = false := rfl
theorem pl_c {pos k j p} : (backTo pos (starEach (.Constant k j p :: es) env)).any (·.1) = (backTo pos (starEach es env)).any (·.1) := by rw [st_c]; rfl
theorem pl_n {pos k p} : (backTo pos (starEach (.Name k p :: es) env)).any (·.1) = (backTo pos (starEach es env)).any (·.1) := by rw [st_n]; rfl
theorem pl_b {pos k j l p} : (backTo pos (starEach (.BinOp k j l p :: es) env)).any (·.1) = (backTo pos (starEach es env)).any (·.1) := by rw [st_b]; rfl
theorem pl_u {pos k j p} : (backTo pos (starEach (.UnaryOp k j p :: es) env)).any (·.1) = (backTo pos (starEach es env)).any (·.1) := by rw [st_u]; rfl
theorem pl_s {pos k j p} : (backTo pos (starEach (.Subscript k j p :: es) env)).any (·.1) = (backTo pos (starEach es env)).any (·.1) := by rw [st_s]; rfl
theorem pl_f {pos k j l p} : (backTo pos (starEach (.Call k j l p :: es) env)).any (·.1) = (backTo pos (starEach es env)).any (·.1) := by rw [st_f]; rfl
theorem pl_t {pos k j p} : (backTo pos (starEach (.Tuple k j p :: es) env)).any (·.1) = (backTo pos (starEach es env)).any (·.1) := by rw [st_t]; rfl
theorem pl_l {pos k p} : (backTo pos (starEach (.List k p :: es) env)).any (·.1) = (backTo pos (starEach es env)).any (·.1) := by rw [st_l]; rfl
theorem pl_q {pos k j l p} : (backTo pos (starEach (.Compare k j l p :: es) env)).any (·.1) = (backTo pos (starEach es env)).any (·.1) := by rw [st_q]; rfl
theorem pl_o {pos k j p} : (backTo pos (starEach (.BoolOp k j p :: es) env)).any (·.1) = (backTo pos (starEach es env)).any (·.1) := by rw [st_o]; rfl
theorem pl_i {pos k j l p} : (backTo pos (starEach (.IfExp k j l p :: es) env)).any (·.1) = (backTo pos (starEach es env)).any (·.1) := by rw [st_i]; rfl
theorem pl_m {pos k j l p} : (backTo pos (starEach (.ListComp k j l p :: es) env)).any (·.1) = (backTo pos (starEach es env)).any (·.1) := by rw [st_m]; rfl
theorem pl_a {pos k j p} : (backTo pos (starEach (.Attribute k j p :: es) env)).any (·.1) = (backTo pos (starEach es env)).any (·.1) := by rw [st_a]; rfl
theorem pl_h {pos k j l p} : (backTo pos (starEach (.Lambda k j l p :: es) env)).any (·.1) = (backTo pos (starEach es env)).any (·.1) := by rw [st_h]; rfl
theorem pl_g {pos k j l p} : (backTo pos (starEach (.GeneratorExp k j l p :: es) env)).any (·.1) = (backTo pos (starEach es env)).any (·.1) := by rw [st_g]; rfl
theorem pl_d {pos k j p} : (backTo pos (starEach (.Dict k j p :: es) env)).any (·.1) = (backTo pos (starEach es env)).any (·.1) := by rw [st_d]; rfl
end
/-- a value as plain data -/
inductive D where
  | non | bl (b : Bool) | int (i : Int) | str (x : Str) | tup (ds : List D) | lst (ds : List D) | klst (ds : List D) | exn (c : Str) | fn (x : Str) | dic (l : Bool) (ks : List Key) (ds : List D) | lam (j : Nat) (tok : LTok) | ins (c : Str) (ns : List Str) (ds : List D)
abbrev D.dic0 : D := .dic false [] []

/-- a dict that is locked now -/
def D.lockD : D → D
  | .dic _ ks ds => .dic true ks ds
  | d => d
inductive Res (α : Type) where
  | ok (a : α) | exn (x : Str) | stuck
def Res.bind {α β : Type} : Res α → (α → Res β) → Res β
  | .ok a, f => f a
  | .exn x, _ => .exn x
  | .stuck, _ => .stuck

inductive Sl where
  | frz (d : D) | own (ds : List D) | mu (d : D)
abbrev En := List (Option Sl)
abbrev Den := En → Res D
abbrev DenA := En → Res (List D)
inductive SRes where
  | next (ρ : En) | ret (d : D) | brk (ρ : En) | cont (ρ : En) | exn (x : Str) (ρ : En) | stuck
abbrev SDen := En → SRes

/-! ### the relation -/
/-- an exception that was caught, held as a value: at a, of the class cls -/
def ExK (cls : Value) (a : Addr) : HO := .ext fun h => ∃ (oe : Obj) (vs : Array Value), h.get? a = some oe ∧ L2.Zc cls none oe ∧ oe.data = .fields vs
/-- a dict, locked (true) or not -/
def DicAt (F : Hp) (a : Addr) (l : Bool) (kvs : List (Key × V)) : Prop := match l with
  | true => ∃ o, F a = some (.frz o (.dK kvs))
  | false => F a = some (.dK kvs)
theorem DicAt.mono {F F' : Hp} (e : Same F F') {a : Addr} : ∀ {l : Bool} {kvs : List (Key × V)}, DicAt F a l kvs → DicAt F' a l kvs
  | true, _, ⟨o, h⟩ => ⟨o, e _ _ h⟩
  | false, _, h => e _ _ h
theorem DicAt.rd {F : Hp} {a : Addr} : ∀ {l : Bool} {kvs : List (Key × V)}, DicAt F a l kvs → Rd F a (.dK kvs)
  | true, _, ⟨o, h⟩ => .inr ⟨o, h⟩
  | false, _, h => .inl h
/-- the fields of the program's classes -/
def fldOf (c : Str) : List Str :=
  if c = "Amount" then ["own"] else if c = "Name" then ["own"] else if c = "Plus" then ["one", "other"] else if c = "Less" then ["one", "other"] else if c = "Greater" then ["one", "other"] else if c = "Lesser" then ["one", "other"] else
  if c = "Times" then ["many", "one"] else if c = "Bands" then ["one", "pairs"] else if c = "Steps" then ["one", "pairs"] else if c = "If" then ["tested", "sides"] else if c = "Charter" then ["own", "taken_names", "words_by"] else []
/-- the class c stands at C; no class of it has the names of the fields -/
structure InsF (K : PySem.W.Frag) (c : Str) (C : Addr) : Prop where
  g : PySem.W.nsIn K mainGlobals c = some (some (.ref C))
  cl : Cls K C
  na : ∀ f ∈ fldOf c, NoAttr K C f
mutual
inductive Rep (K : PySem.W.Frag) (F : Hp) : V → D → Prop
  | non : Rep K F .non .non
  | bl (b : Bool) : Rep K F (.bl b) (.bl b)
  | int (i : Int) : Rep K F (.int i) (.int i)
  | str (x : Str) : Rep K F (.str x) (.str x)
  | tup {a : Addr} {vs : List V} {ds : List D} : SqT K F a vs → vs.length ≤ sizeLine → Reps K F vs ds → Rep K F (.ref a) (.tup ds)
  | lst {a : Addr} {vs : List V} {ds : List D} : F a = some (.lst vs) → vs.length ≤ sizeLine → Reps K F vs ds → Rep K F (.ref a) (.lst ds)
  | klst {a : Addr} {vs : List V} {ds : List D} : SqL K F a vs → vs.length ≤ sizeLine → Reps K F vs ds → Rep K F (.ref a) (.klst ds)
  | exn {a C : Addr} {c : Str} : F a = some (ExK (.ref C)  a) → PySem.W.nsIn K mainGlobals c = some (some (.ref C)) → Rep K F (.ref a) (.exn c)
  | fn {f : Addr} {x : Str} : PySem.W.nsIn K mainGlobals x = some (some (.ref f)) → Rep K F (.ref f) (.fn x)
  | dic {a : Addr} {l : Bool} {ks : List Key} {vs : List V} {ds : List D} : DicAt F a l (ks.zip vs) → ks.length = ds.length → ds.length ≤ sizeLine → Reps K F vs ds → Rep K F (.ref a) (.dic l ks ds)
  | ins {a C dx : Addr} {c : Str} {ns : List Str} {vs : List V} {ds : List D} : F a = some (.ins C dx (ns.zip vs)) → ns.length = ds.length → InsF K c C → (∀ f ∈ ns, f ∈ fldOf c) → Reps K F vs ds → Rep K F (.ref a) (.ins c ns ds)
  | lam {f c : Addr} {j : Nat} {tok : LTok} : F f = some (LamO (Tbs.L j) tok f c) → F c = some (LamX.CodeO c (Tbs.L j).q) → Rep K F (.ref f) (.lam j tok)
inductive Reps (K : PySem.W.Frag) (F : Hp) : List V → List D → Prop
  | nil : Reps K F [] []
  | cons {v : V} {vs : List V} {d : D} {ds : List D} : Rep K F v d → Reps K F vs ds → Reps K F (v :: vs) (d :: ds)
end

section
variable {K : PySem.W.Frag} {F F' : Hp}
theorem sqT_mono (e : Same F F') {a : Addr} {xs : List V} (h : SqT K F a xs) : SqT K F' a xs := by
  rcases h with (h | ⟨o, h⟩) | h
  · exact .inl (.inl (e _ _ h))
  · exact .inl (.inr ⟨o, e _ _ h⟩)
  · exact .inr h
theorem sqT_gh {H H' : Hp} (e : GH H H') {a : Addr} {xs : List V} (h : SqT K H a xs) : SqT K H' a xs := by
  rcases h with (h | ⟨o, h⟩) | h
  · exact .inl (.inl (e.k _ _ h))
  · exact .inl (.inr ⟨o, e.k _ _ h⟩)
  · exact .inr h
mutual
theorem Rep.mono (e : Same F F') : ∀ {v : V} {d : D}, Rep K F v d → Rep K F' v d
  | _, _, .non => .non
  | _, _, .bl b => .bl b
  | _, _, .int i => .int i
  | _, _, .str x => .str x
  | _, _, .tup h z r => .tup (sqT_mono e h) z (Reps.mono e r)
  | _, _, .lst h z r => .lst (e _ _ h) z (Reps.mono e r)
  | _, _, .klst h z r => .klst (e.seq h) z (Reps.mono e r)
  | _, _, .exn h z => .exn (e _ _ h) z
  | _, _, .fn z => .fn z
  | _, _, .dic h l z r => .dic (h.mono e) l z (Reps.mono e r)
  | _, _, .ins h l z y r => .ins (e _ _ h) l z y (Reps.mono e r)
  | _, _, .lam h1 h2 => .lam (e _ _ h1) (e _ _ h2)
theorem Reps.mono (e : Same F F') : ∀ {vs : List V} {ds : List D}, Reps K F vs ds → Reps K F' vs ds
  | _, _, .nil => .nil
  | _, _, .cons r t => .cons (Rep.mono e r) (Reps.mono e t)
end
theorem Reps.length : ∀ {vs : List V} {ds : List D}, Reps K F vs ds → vs.length = ds.length
  | _, _, .nil => rfl
  | _, _, .cons _ t => by rw [List.length_cons, List.length_cons, Reps.length t]
theorem Reps.get : ∀ {vs : List V} {ds : List D} {i : Nat} {d : D}, Reps K F vs ds → ds[i]? = some d → ∃ v, vs[i]? = some v ∧ Rep K F v d
  | _, _, _, _, .nil, e => by simp at e
  | _, _, 0, _, .cons r _, e => by simp at e; subst e; exact ⟨_, rfl, r⟩
  | _, _, i + 1, d, .cons r t, e => by
    obtain ⟨v, h1, h2⟩ := Reps.get (i := i) (d := d) t (by simpa using e)
    exact ⟨v, by simpa using h1, h2⟩
theorem Reps.get' : ∀ {vs : List V} {ds : List D} {i : Nat} {v : V}, Reps K F vs ds → vs[i]? = some v → ∃ d, ds[i]? = some d ∧ Rep K F v d
  | _, _, _, _, .nil, e => by simp at e
  | _, _, 0, _, .cons r _, e => by simp at e; subst e; exact ⟨_, rfl, r⟩
  | _, _, i + 1, d, .cons r t, e => by
    obtain ⟨v, h1, h2⟩ := Reps.get' (i := i) t (by simpa using e)
    exact ⟨v, by simpa using h1, h2⟩
theorem Reps.append : ∀ {vs ws : List V} {ds es : List D}, Reps K F vs ds → Reps K F ws es → Reps K F (vs ++ ws) (ds ++ es)
  | _, _, _, _, .nil, s => s
  | _, _, _, _, .cons r t, s => .cons r (Reps.append t s)
theorem Reps.take : ∀ {vs : List V} {ds : List D} (n : Nat), Reps K F vs ds → Reps K F (vs.take n) (ds.take n)
  | _, _, 0, _ => .nil
  | _, _, _ + 1, .nil => .nil
  | _, _, n + 1, .cons r t => .cons r (Reps.take n t)
theorem Reps.drop : ∀ {vs : List V} {ds : List D} (n : Nat), Reps K F vs ds → Reps K F (vs.drop n) (ds.drop n)
  | _, _, 0, r => r
  | _, _, _ + 1, .nil => .nil
  | _, _, n + 1, .cons _ t => Reps.drop n t
theorem Reps.reverse : ∀ {vs : List V} {ds : List D}, Reps K F vs ds → Reps K F vs.reverse ds.reverse
  | _, _, .nil => .nil
  | _, _, .cons r t => by rw [List.reverse_cons, List.reverse_cons]; exact (Reps.reverse t).append (.cons r .nil)
theorem Reps.set : ∀ {vs : List V} {ds : List D} (i : Nat) {v : V} {d : D}, Reps K F vs ds → Rep K F v d → Reps K F (vs.set i v) (ds.set i d)
  | _, _, _, _, _, .nil, _ => .nil
  | _, _, 0, _, _, .cons _ t, q => .cons q t
  | _, _, i + 1, _, _, .cons r t, q => .cons r (Reps.set i t q)
theorem Reps.ints {ns : List Int} : Reps K F (ns.map V.int) (ns.map D.int) := by
  induction ns with
  | nil => exact .nil
  | cons n r ih => exact .cons (.int n) ih
end

/-- a list, a dict, an instance, as data -/
inductive ORep (K : PySem.W.Frag) (F : Hp) : HO → D → Prop
  | lst {vs : List V} {ds : List D} : vs.length ≤ sizeLine → Reps K F vs ds → ORep K F (.lst vs) (.lst ds)
  | dic {ks : List Key} {vs : List V} {ds : List D} : ks.length = ds.length → ds.length ≤ sizeLine → Reps K F vs ds → ORep K F (.dK (ks.zip vs)) (.dic false ks ds)
  | ins {C dx : Addr} {c : Str} {ns : List Str} {vs : List V} {ds : List D} : ns.length = ds.length → InsF K c C → (∀ f ∈ ns, f ∈ fldOf c) → Reps K F vs ds → ORep K F (.ins C dx (ns.zip vs)) (.ins c ns ds)
theorem ORep.mono {K : PySem.W.Frag} {F F' : Hp} (e : Same F F') {o : HO} {d : D} (r : ORep K F o d) : ORep K F' o d := by
  cases r with
  | lst h r => exact .lst h (r.mono e)
  | dic h l r => exact .dic h l (r.mono e)
  | ins h l y r => exact .ins h l y (r.mono e)
theorem ORep.mu {K : PySem.W.Frag} {F : Hp} {o : HO} {d : D} (r : ORep K F o d) : Mu o := by cases r <;> exact True.intro
theorem ORep.rep {K : PySem.W.Frag} {F : Hp} {o : HO} {d : D} {a : Addr} (r : ORep K F o d) (h : F a = some o) : Rep K F (.ref a) d := by
  cases r with
  | lst z r => exact .lst h z r
  | dic l z r => exact .dic (l := false) h l z r
  | ins l z y r => exact .ins h l z y r
/-- from (F, H) to (F', H'): F is what is frozen in the heap H -/
structure Grow (F H F' H' : Hp) : Prop where
  f : Same F F'
  h : GH H H'
  fh : Same F' H'
  new : ∀ a o, H a = some o → F a = none → Mu o → F' a = none
  nt : NTF F → NTF F'
theorem Grow.refl {F H : Hp} (e : Same F H) : Grow F H F H := ⟨Same.refl F, GH.refl H, e, fun _ _ _ h _ => h, fun h => h⟩
theorem Grow.trans {F H F1 H1 F2 H2 : Hp} (a : Grow F H F1 H1) (b : Grow F1 H1 F2 H2) : Grow F H F2 H2 :=
  ⟨a.f.trans b.f, a.h.trans b.h, b.fh, fun x vs h1 h2 n => b.new x vs (a.h.k x _ h1 n.nt) (a.new x vs h1 h2 n) n, fun h => b.nt (a.nt h)⟩
theorem same_upd {F : Hp} {p : Addr} {o : HO} (h : F p = none) : Same F (upd F p o) := fun b u e => by
  rw [upd_ne (ne_of_none e h)]; exact e
theorem Grow.alloc {F H F1 H1 : Hp} (g : Grow F H F1 H1) {p : Addr} {o : HO} (h : H1 p = none) (n : NT o := by intro ps z; cases z) : Grow F H (upd F1 p o) (upd H1 p o) := by
  have hF : F1 p = none := by
    cases q : F1 p with
    | none => rfl
    | some u => rw [g.fh p u q] at h; cases h
  refine ⟨g.f.trans (same_upd hF), g.h.trans (GH.of (same_upd h)), fun b u e => ?_, fun a o1 h1 h2 n2 => ?_, fun h => (g.nt h).upd n⟩
  · by_cases hb : b = p
    · subst hb; rw [upd_same] at e ⊢; exact e
    · rw [upd_ne hb] at e ⊢; exact g.fh b u e
  · have ha : a ≠ p := fun z => by subst z; have q := g.h.k _ _ h1 n2.nt; rw [h] at q; cases q
    rw [upd_ne ha]; exact g.new a o1 h1 h2 n2
/-- a new object that stays out of the frozen part -/
theorem Grow.allocOwn {F H F1 H1 : Hp} (g : Grow F H F1 H1) {p : Addr} {o : HO} (h : H1 p = none) : Grow F H F1 (upd H1 p o) :=
  ⟨g.f, g.h.trans (GH.of (same_upd h)), g.fh.trans (same_upd h), g.new, g.nt⟩
/-- a new object of H' is frozen -/
theorem Grow.freeze {F H F1 H1 : Hp} (g : Grow F H F1 H1) {p : Addr} {o : HO} (h : FrN H p) (e : H1 p = some o) (n : F1 p = none) (n2 : NT o := by intro ps z; cases z) : Grow F H (upd F1 p o) H1 := by
  refine ⟨g.f.trans (same_upd n), g.h, fun b u q => ?_, fun a o1 h1 h2 n3 => ?_, fun h => (g.nt h).upd n2⟩
  · by_cases hb : b = p
    · subst hb; rw [upd_same] at q; rw [e]; exact q
    · rw [upd_ne hb] at q; exact g.fh b u q
  · have ha : a ≠ p := fun z => by subst z; exact h _ h1 n3.nt
    rw [upd_ne ha]; exact g.new a o1 h1 h2 n3

/-- the slots, the heap, and the environment of data -/
structure Sim (K : PySem.W.Frag) (F0 H0 F H : Hp) (ρ : En) (σ : L2.St) : Prop where
  g : Grow F0 H0 F H
  len : ρ.length = σ.length
  frz : ∀ (i : Nat) (d : D), ρ[i]? = some (some (Sl.frz d)) → ∃ v, σ[i]? = some (some v) ∧ Rep K F v d
  own : ∀ (i : Nat) (ds : List D), ρ[i]? = some (some (Sl.own ds)) → ∃ a vs, σ[i]? = some (some (V.ref a)) ∧ H a = some (.lst vs) ∧ F a = none ∧ FrN H0 a ∧ vs.length ≤ sizeLine ∧ Reps K F vs ds
  dis : ∀ (i j : Nat) (ds es : List D) (a : Addr), i ≠ j → ρ[i]? = some (some (Sl.own ds)) → ρ[j]? = some (some (Sl.own es)) → σ[i]? = some (some (V.ref a)) → σ[j]? = some (some (V.ref a)) → False
  mu : ∀ (i : Nat) (d : D), ρ[i]? = some (some (Sl.mu d)) → ∃ a o, σ[i]? = some (some (V.ref a)) ∧ H a = some o ∧ ORep K F o d ∧ F a = none ∧ FrN H0 a ∧ (∀ vs, o ≠ .lst vs)
  mdis : ∀ (i j : Nat) (d e : D) (a : Addr), i ≠ j → ρ[i]? = some (some (Sl.mu d)) → ρ[j]? = some (some (Sl.mu e)) → σ[i]? = some (some (V.ref a)) → σ[j]? = some (some (V.ref a)) → False
theorem Sim.grow {K : PySem.W.Frag} {F0 H0 F H F' H' : Hp} {ρ : En} {σ : L2.St} (S : Sim K F0 H0 F H ρ σ) (g : Grow F H F' H') : Sim K F0 H0 F' H' ρ σ where
  g := S.g.trans g
  len := S.len
  frz := fun i d e => let ⟨v, h, r⟩ := S.frz i d e; ⟨v, h, r.mono g.f⟩
  own := fun i ds e => let ⟨a, vs, h1, h2, h3, h4, h5, h6⟩ := S.own i ds e
    ⟨a, vs, h1, g.h.k _ _ h2, g.new a _ h2 h3 True.intro, h4, h5, h6.mono g.f⟩
  dis := S.dis
  mu := fun i d e => let ⟨a, o, h1, h2, h3, h4, h5, h6⟩ := S.mu i d e
    ⟨a, o, h1, g.h.k _ _ h2 h3.mu.nt, h3.mono g.f, g.new a _ h2 h4 h3.mu, h5, h6⟩
  mdis := S.mdis

/-- an exception of D as the layer tells it -/
def XR (mg : Str → Option Value) (x : Str) (cls : Value) (dd : Option Addr) : Prop := dd = none ∧ ∃ C : Addr, cls = .ref C ∧ mg x = some (.ref C)

structure Cc where
  F0 : Hp
  H0 : Hp
  W : WX
  st : St F0 H0
theorem Sim.st {K : PySem.W.Frag} {c : Cc} {F H : Hp} {ρ : En} {σ : L2.St} (S : Sim K c.F0 c.H0 F H ρ σ) : St F H := ⟨S.g.fh, S.g.nt c.st.2.1, S.g.h.tabs c.st.2.2⟩

/-! ### the weakest readings -/
section
variable {X : Cx}
structure WpI (X : Cx) (e : Expr) (σ : L2.St) (H : Hp) (Q : VK) : Prop where
  run : ∀ (pins : List (Addr × Obj)) (s : Shared), Inv X pins σ H s → wpAny (model X.prog X.w) X.A (eval e X.env) (EP X pins σ Q) X.xe s
def Wp (X : Cx) (e : Expr) : TE := fun σ H Q => WpI X e σ H Q
theorem pe_wp (e : Expr) : PE X e (Wp X e) := ⟨fun pins s σ H Q I h => h.run pins s I⟩
theorem wp_of {e : Expr} {t : TE} (h : PE X e t) {σ : L2.St} {H : Hp} {Q : VK} (q : t σ H Q) : Wp X e σ H Q := ⟨fun pins s I => h.run pins s σ H Q I q⟩
structure WpTI (X : Cx) (e : Expr) (σ : L2.St) (H : Hp) (Q : Bool → Hp → Prop) : Prop where
  run : ∀ (pins : List (Addr × Obj)) (s : Shared), Inv X pins σ H s → wpAny (model X.prog X.w) X.A (isTrue e X.env (eval e X.env)) (TP X pins σ Q) X.xe s
def WpT (X : Cx) (e : Expr) : TT := fun σ H Q => WpTI X e σ H Q
theorem pt_wp (e : Expr) : PT X e (WpT X e) := ⟨fun pins s σ H Q I h => h.run pins s I⟩
theorem wpt_of {e : Expr} {t : TT} (h : PT X e t) {σ : L2.St} {H : Hp} {Q : Bool → Hp → Prop} (q : t σ H Q) : WpT X e σ H Q := ⟨fun pins s I => h.run pins s σ H Q I q⟩
structure WpWI (X : Cx) (e : Expr) (σ : L2.St) (H : Hp) (Q : Bool → Hp → Prop) : Prop where
  run : ∀ (whole : Sem Value) (pins : List (Addr × Obj)) (s : Shared), Inv X pins σ H s → wpAny (model X.prog X.w) X.A (isTrue e X.env whole) (TP X pins σ Q) X.xe s
def WpW (X : Cx) (e : Expr) : TT := fun σ H Q => WpWI X e σ H Q
theorem pw_wp (e : Expr) : PW X e (WpW X e) := ⟨fun wh pins s σ H Q I h => h.run wh pins s I⟩
theorem wpw_of {e : Expr} {t : TT} (h : PW X e t) {σ : L2.St} {H : Hp} {Q : Bool → Hp → Prop} (q : t σ H Q) : WpW X e σ H Q := ⟨fun wh pins s I => h.run wh pins s σ H Q I q⟩
structure WpAI (X : Cx) (es : List Expr) (σ : L2.St) (H : Hp) (Q : List V → Hp → Prop) : Prop where
  run : ∀ (pos : Pos) (pins : List (Addr × Obj)) (s : Shared), Inv X pins σ H s → wpAny (model X.prog X.w) X.A (spliced (backTo pos (starEach es X.env))) (AP X pins σ Q) X.xe s
def WpA (X : Cx) (es : List Expr) : TA := fun σ H Q => WpAI X es σ H Q
theorem pa_wp (es : List Expr) : PA X es (WpA X es) := ⟨fun pos pins s σ H Q I h => h.run pos pins s I⟩
theorem wpa_of {es : List Expr} {t : TA} (h : PA X es t) {σ : L2.St} {H : Hp} {Q : List V → Hp → Prop} (q : t σ H Q) : WpA X es σ H Q := ⟨fun pos pins s I => h.run pos pins s σ H Q I q⟩
structure WpSI (X : Cx) (st : Stmt) (D : Ends) (σ : L2.St) (H : Hp) : Prop where
  run : ∀ (pins : List (Addr × Obj)) (s : Shared), Inv X pins σ H s → wpAny (model X.prog X.w) X.A (exec st X.env) (SP X pins D) X.xe s
def WpS (X : Cx) (st : Stmt) : TS := fun D σ H => WpSI X st D σ H
theorem ps_wp (st : Stmt) : PS X st (WpS X st) := ⟨fun pins s σ H D I h => h.run pins s I⟩
theorem wps_of {st : Stmt} {t : TS} (h : PS X st t) {σ : L2.St} {H : Hp} {D : Ends} (q : t D σ H) : WpS X st D σ H := ⟨fun pins s I => h.run pins s σ H D I q⟩
structure WpBI (X : Cx) (st : List Stmt) (D : Ends) (σ : L2.St) (H : Hp) : Prop where
  run : ∀ (pins : List (Addr × Obj)) (s : Shared), Inv X pins σ H s → wpAny (model X.prog X.w) X.A (execs st X.env) (SP X pins D) X.xe s
def WpB (X : Cx) (st : List Stmt) : TS := fun D σ H => WpBI X st D σ H
theorem pss_wp (st : List Stmt) : PSs X st (WpB X st) := ⟨fun pins s σ H D I h => h.run pins s I⟩
theorem wpb_of {st : List Stmt} {t : TS} (h : PSs X st t) {σ : L2.St} {H : Hp} {D : Ends} (q : t D σ H) : WpB X st D σ H := ⟨fun pins s I => h.run pins s σ H D I q⟩
end

/-! ### the judgements -/
/-- what an expression's end is to reach -/
def Out (X : Cx) (c : Cc) (σ : L2.St) (F H : Hp) {α β : Type} (R : Hp → Hp → β → α → Prop) (r : Res α) (Q : β → Hp → Prop) : Prop :=
  match r with
  | .ok d => ∀ F' H' v, Grow F H F' H' → R F' H' v d → Q v H'
  | .exn x => ∀ F' H' cls dd, Grow F H F' H' → XR X.mg x cls dd → c.W cls dd σ H'
  | .stuck => False

/-- readable now: frozen, or a list of the def's own -/
def Rd' (K : PySem.W.Frag) (F H : Hp) (v : V) (d : D) : Prop :=
  Rep K F v d ∨ ∃ a o, v = .ref a ∧ H a = some o ∧ ORep K F o d
theorem Rd'.grow {K : PySem.W.Frag} {F H F' H' : Hp} {v : V} {d : D} (r : Rd' K F H v d) (g : Grow F H F' H') : Rd' K F' H' v d := by
  rcases r with r | ⟨a, o, h1, h2, h3⟩
  · exact .inl (r.mono g.f)
  · exact .inr ⟨a, o, h1, g.h.k _ _ h2 h3.mu.nt, h3.mono g.f⟩
/-- a list that was made just now -/
def Fresh (K : PySem.W.Frag) (H0 F H : Hp) (v : V) (d : D) : Prop :=
  ∃ a vs ds, v = .ref a ∧ d = .lst ds ∧ H a = some (.lst vs) ∧ F a = none ∧ FrN H0 a ∧ vs.length ≤ sizeLine ∧ Reps K F vs ds

def EJ (X : Cx) (c : Cc) (e : Expr) (f : Den) : Prop := ∀ ρ σ F H Q, Sim X.K c.F0 c.H0 F H ρ σ → Out X c σ F H (fun F' _ v d => Rep X.K F' v d) (f ρ) Q → Wp X e σ H Q
def ER (X : Cx) (c : Cc) (e : Expr) (f : Den) : Prop := ∀ ρ σ F H Q, Sim X.K c.F0 c.H0 F H ρ σ → Out X c σ F H (fun F' H' v d => Rd' X.K F' H' v d) (f ρ) Q → Wp X e σ H Q
def EO (X : Cx) (c : Cc) (e : Expr) (f : Den) : Prop := ∀ ρ σ F H Q, Sim X.K c.F0 c.H0 F H ρ σ → Out X c σ F H (fun F' H' v d => Fresh X.K H F' H' v d) (f ρ) Q → Wp X e σ H Q
/-- tests -/
def TJ (X : Cx) (c : Cc) (e : Expr) (f : En → Res Bool) : Prop := ∀ ρ σ F H Q, Sim X.K c.F0 c.H0 F H ρ σ → Out X c σ F H (fun _ _ (v : Bool) d => v = d) (f ρ) Q → WpT X e σ H Q
def TW (X : Cx) (c : Cc) (e : Expr) (f : En → Res Bool) : Prop := ∀ ρ σ F H Q, Sim X.K c.F0 c.H0 F H ρ σ → Out X c σ F H (fun _ _ (v : Bool) d => v = d) (f ρ) Q → WpW X e σ H Q
/-- arguments, all frozen; all readable -/
structure AJ (X : Cx) (c : Cc) (es : List Expr) (f : DenA) : Prop where
  run : ∀ ρ σ F H Q, Sim X.K c.F0 c.H0 F H ρ σ → Out X c σ F H (fun F' _ vs ds => Reps X.K F' vs ds) (f ρ) Q → WpA X es σ H Q
instance {X : Cx} {c : Cc} {es : List Expr} {f : DenA} : CoeFun (AJ X c es f) (fun _ => ∀ ρ σ F H Q, Sim X.K c.F0 c.H0 F H ρ σ → Out X c σ F H (fun F' _ vs ds => Reps X.K F' vs ds) (f ρ) Q → WpA X es σ H Q) := ⟨AJ.run⟩
inductive Rds (K : PySem.W.Frag) (F H : Hp) : List V → List D → Prop
  | nil : Rds K F H [] []
  | cons {v : V} {vs : List V} {d : D} {ds : List D} : Rd' K F H v d → Rds K F H vs ds → Rds K F H (v :: vs) (d :: ds)
theorem Rds.grow {K : PySem.W.Frag} {F H F' H' : Hp} (g : Grow F H F' H') : ∀ {vs : List V} {ds : List D}, Rds K F H vs ds → Rds K F' H' vs ds
  | _, _, .nil => .nil
  | _, _, .cons r t => .cons (r.grow g) (Rds.grow g t)
structure AR (X : Cx) (c : Cc) (es : List Expr) (f : DenA) : Prop where
  run : ∀ ρ σ F H Q, Sim X.K c.F0 c.H0 F H ρ σ → Out X c σ F H (fun F' H' vs ds => Rds X.K F' H' vs ds) (f ρ) Q → WpA X es σ H Q
instance {X : Cx} {c : Cc} {es : List Expr} {f : DenA} : CoeFun (AR X c es f) (fun _ => ∀ ρ σ F H Q, Sim X.K c.F0 c.H0 F H ρ σ → Out X c σ F H (fun F' H' vs ds => Rds X.K F' H' vs ds) (f ρ) Q → WpA X es σ H Q) := ⟨AR.run⟩

/-- what a statement's end is to reach -/
def SOut (X : Cx) (c : Cc) (F : Hp) (D : Ends) : SRes → Prop
  | .next ρ' => ∀ σ' F' H', Sim X.K c.F0 c.H0 F' H' ρ' σ' → Same F F' → D.nx σ' H'
  | .brk ρ' => ∀ σ' F' H', Sim X.K c.F0 c.H0 F' H' ρ' σ' → Same F F' → D.bk σ' H'
  | .cont ρ' => ∀ σ' F' H', Sim X.K c.F0 c.H0 F' H' ρ' σ' → Same F F' → D.ct σ' H'
  | .ret d => ∀ F' H' v, Grow c.F0 c.H0 F' H' → Rep X.K F' v d → D.rt v H'
  | .exn x ρ' => ∀ σ' F' H' cls dd, Sim X.K c.F0 c.H0 F' H' ρ' σ' → Same F F' → XR X.mg x cls dd → c.W cls dd σ' H'
  | .stuck => False
def SJ (X : Cx) (c : Cc) (st : Stmt) (g : SDen) : Prop := ∀ ρ σ F H D, Sim X.K c.F0 c.H0 F H ρ σ → SOut X c F D (g ρ) → WpS X st D σ H
def BJ (X : Cx) (c : Cc) (st : List Stmt) (g : SDen) : Prop := ∀ ρ σ F H D, Sim X.K c.F0 c.H0 F H ρ σ → SOut X c F D (g ρ) → WpB X st D σ H

/-! ### one after another -/
section
variable {X : Cx} {c : Cc} {σ : L2.St} {F H : Hp}
theorem Out.mono {α β : Type} {R R' : Hp → Hp → β → α → Prop} {r : Res α} {Q : β → Hp → Prop} (h : Out X c σ F H R r Q) (i : ∀ F' H' v d, Grow F H F' H' → R' F' H' v d → R F' H' v d) : Out X c σ F H R' r Q := by
  cases r with
  | ok d => exact fun F' H' v g q => h F' H' v g (i F' H' v d g q)
  | exn x => exact h
  | stuck => exact h
/-- the first part of a bind -/
theorem Out.seq {α β γ δ : Type} {R : Hp → Hp → β → α → Prop} {R2 : Hp → Hp → δ → γ → Prop} {r : Res α} {k : α → Res γ} {Q : δ → Hp → Prop} {Q1 : β → Hp → Prop}
    (h : Out X c σ F H R2 (r.bind k) Q)
    (n : ∀ d F' H' v, r = .ok d → Grow F H F' H' → R F' H' v d → Out X c σ F' H' R2 (k d) Q → Q1 v H') : Out X c σ F H R r Q1 := by
  cases r with
  | ok d =>
    intro F' H' v g q
    refine n d F' H' v rfl g q ?_
    have h' : Out X c σ F H R2 (k d) Q := h
    cases e : k d with
    | ok z => rw [e] at h'; exact fun F2 H2 v2 g2 q2 => h' F2 H2 v2 (g.trans g2) q2
    | exn x => rw [e] at h'; exact fun F2 H2 cls dd g2 q2 => h' F2 H2 cls dd (g.trans g2) q2
    | stuck => rw [e] at h'; exact h'.elim
  | exn x => exact h
  | stuck => exact h
theorem EO.ej {e : Expr} {f : Den} (h : EO X c e f) : EJ X c e f := by
  intro ρ σ F H Q S o
  refine h ρ σ F H Q S ?_
  cases q : f ρ with
  | ok d =>
    rw [q] at o
    rintro F' H' v g ⟨a, vs, ds, rfl, rfl, h1, h2, h3, h4, h5⟩
    refine o _ H' _ (g.freeze h3 h1 h2) (.lst upd_same h4 (h5.mono (same_upd h2)))
  | exn x => rw [q] at o; exact o
  | stuck => rw [q] at o; exact o
theorem EJ.er {e : Expr} {f : Den} (h : EJ X c e f) : ER X c e f := fun ρ σ F H Q S o => h ρ σ F H Q S (o.mono fun _ _ _ _ _ r => .inl r)
theorem AJ.ar {es : List Expr} {f : DenA} (h : AJ X c es f) : AR X c es f := ⟨fun ρ σ F H Q S o => h.run ρ σ F H Q S (o.mono fun F' H' vs ds _ r => by
  induction vs generalizing ds with
  | nil => cases r; exact .nil
  | cons v vs ih => cases r with | cons r t => exact .cons (.inl r) (ih _ t))⟩

/-! ### names and constants -/
def dVar (i : Nat) : Den := fun ρ => match ρ[i]? with
  | some (some (.frz d)) => .ok d
  | _ => .stuck
def dVarR (i : Nat) : Den := fun ρ => match ρ[i]? with
  | some (some (.frz d)) => .ok d
  | some (some (.own ds)) => .ok (.lst ds)
  | some (some (.mu d)) => .ok d
  | _ => .stuck
theorem ej_var (i : Nat) {x : Str} {pos : Pos} (hN : X.N[i]? = some x := by rfl) (hv : Vis X.env.scope x := by first | exact Or.inl rfl | exact Or.inr (Or.inl rfl) | exact Or.inr (Or.inr rfl)) (hd : (x == ("__debug__" : Str)) = false := by decide)
    (hcd : (x == ("__classdict__" : Str)) = false := by decide) : EJ X c (.Name x pos) (dVar i) := by
  intro ρ σ F H Q S o
  refine wp_of (pe_var hN hv hd hcd) ?_
  unfold dVar at o
  split at o
  · rename_i d e
    obtain ⟨v, h1, h2⟩ := S.frz i d e
    exact ⟨v, h1, o F H v (Grow.refl S.g.fh) h2⟩
  · exact o.elim
theorem er_var (i : Nat) {x : Str} {pos : Pos} (hN : X.N[i]? = some x := by rfl) (hv : Vis X.env.scope x := by first | exact Or.inl rfl | exact Or.inr (Or.inl rfl) | exact Or.inr (Or.inr rfl)) (hd : (x == ("__debug__" : Str)) = false := by decide)
    (hcd : (x == ("__classdict__" : Str)) = false := by decide) : ER X c (.Name x pos) (dVarR i) := by
  intro ρ σ F H Q S o
  refine wp_of (pe_var hN hv hd hcd) ?_
  unfold dVarR at o
  split at o
  · rename_i d e
    obtain ⟨v, h1, h2⟩ := S.frz i d e
    exact ⟨v, h1, o F H v (Grow.refl S.g.fh) (.inl h2)⟩
  · rename_i ds e
    obtain ⟨a, vs, h1, h2, h3, h4, h5, h6⟩ := S.own i ds e
    exact ⟨_, h1, o F H _ (Grow.refl S.g.fh) (.inr ⟨a, _, rfl, h2, .lst h5 h6⟩)⟩
  · rename_i d e
    obtain ⟨a, ob, h1, h2, h3, _⟩ := S.mu i d e
    exact ⟨_, h1, o F H _ (Grow.refl S.g.fh) (.inr ⟨a, ob, rfl, h2, h3⟩)⟩
  · exact o.elim
def dC (d : D) : Den := fun _ => .ok d
theorem ej_c {e : Expr} {v : V} {d : D} (h : PE X e (tC v)) (r : ∀ F, Rep X.K F v d) : EJ X c e (dC d) := fun ρ σ F H Q S o => wp_of h (o F H v (Grow.refl S.g.fh) (r F))
theorem ej_int {i : Int} {j : Nat} {pos : Pos} : EJ X c (.Constant (.int i) j pos) (dC (.int i)) := ej_c pe_int fun _ => .int i
theorem ej_bl {b : Bool} {j : Nat} {pos : Pos} : EJ X c (.Constant (.bool b) j pos) (dC (.bl b)) := ej_c pe_bl fun _ => .bl b
theorem ej_non {j : Nat} {pos : Pos} : EJ X c (.Constant .none j pos) (dC .non) := ej_c pe_non fun _ => .non
theorem ej_str {x : Str} {j : Nat} {pos : Pos} : EJ X c (.Constant (.str x) j pos) (dC (.str x)) := ej_c pe_str fun _ => .str x
/-- a module's constant -/
theorem ej_glob {x : Str} {d : D} {pos : Pos} (hm : ∃ v u, X.mg x = some u ∧ RelV v u ∧ ∀ F, Rep X.K F v d) (hg : Gl X x := by rfl) (hd : (x == ("__debug__" : Str)) = false := by decide) : EJ X c (.Name x pos) (dC d) := by
  obtain ⟨v, u, h1, h2, h3⟩ := hm
  exact ej_c (pe_glob hg h1 h2 hd) h3

/-! ### arguments and displays -/
def aNil : DenA := fun _ => .ok []
def aCons (f : Den) (g : DenA) : DenA := fun ρ => (f ρ).bind fun d => (g ρ).bind fun ds => .ok (d :: ds)
theorem aj_nil : AJ X c [] aNil := ⟨fun ρ σ F H Q S o => wpa_of pa_nil (o F H [] (Grow.refl S.g.fh) .nil)⟩
theorem aj_cons {e : Expr} {es : List Expr} {f : Den} {g : DenA} (h1 : EJ X c e f) (h2 : AJ X c es g) (hs : starEach (e :: es) X.env = (false, eval e X.env) :: starEach es X.env := by first | with_reducible exact st_c | with_reducible exact st_n | with_reducible exact st_b | with_reducible exact st_u | with_reducible exact st_s | with_reducible exact st_f | with_reducible exact st_t | with_reducible exact st_l | with_reducible exact st_q | with_reducible exact st_o | with_reducible exact st_i | with_reducible exact st_m | with_reducible exact st_a | with_reducible exact st_h | with_reducible exact st_g | with_reducible exact st_d | rfl) : AJ X c (e :: es) (aCons f g) := by
  refine ⟨fun ρ σ F H Q S o => ?_⟩
  refine wpa_of (pa_cons (pe_wp e) (pa_wp es) hs) (h1 ρ σ F H _ S (o.seq fun d F1 H1 v _ g1 r1 o1 => ?_))
  exact h2 ρ σ F1 H1 _ (S.grow g1) (o1.seq fun ds F2 H2 vs _ g2 r2 o2 => o2 F2 H2 _ (Grow.refl g2.fh) (.cons (r1.mono g2.f) r2))
theorem ar_nil : AR X c [] aNil := ⟨fun ρ σ F H Q S o => wpa_of pa_nil (o F H [] (Grow.refl S.g.fh) .nil)⟩
theorem ar_cons {e : Expr} {es : List Expr} {f : Den} {g : DenA} (h1 : ER X c e f) (h2 : AR X c es g) (hs : starEach (e :: es) X.env = (false, eval e X.env) :: starEach es X.env := by first | with_reducible exact st_c | with_reducible exact st_n | with_reducible exact st_b | with_reducible exact st_u | with_reducible exact st_s | with_reducible exact st_f | with_reducible exact st_t | with_reducible exact st_l | with_reducible exact st_q | with_reducible exact st_o | with_reducible exact st_i | with_reducible exact st_m | with_reducible exact st_a | with_reducible exact st_h | with_reducible exact st_g | with_reducible exact st_d | rfl) : AR X c (e :: es) (aCons f g) := by
  refine ⟨fun ρ σ F H Q S o => ?_⟩
  refine wpa_of (pa_cons (pe_wp e) (pa_wp es) hs) (h1 ρ σ F H _ S (o.seq fun d F1 H1 v _ g1 r1 o1 => ?_))
  exact h2 ρ σ F1 H1 _ (S.grow g1) (o1.seq fun ds F2 H2 vs _ g2 r2 o2 => o2 F2 H2 _ (Grow.refl g2.fh) (.cons (r1.grow g2) r2))
def short (n : Nat) (g : List D → D) : List D → Res D := fun ds => if ds.length ≤ n then .ok (g ds) else .stuck
def dTup (g : DenA) : Den := fun ρ => (g ρ).bind fun ds => if ds.length ≤ 1000 then .ok (.tup ds) else .stuck
def dLst (g : DenA) : Den := fun ρ => (g ρ).bind fun ds => if ds.length ≤ 1000 then .ok (.lst ds) else .stuck
theorem line1000 {n : Nat} (h : n ≤ 1000) : n ≤ sizeLine := Nat.le_of_lt (small1000 h)
theorem ej_tup {es : List Expr} {g : DenA} {k : Nat} {pos : Pos} (h : AJ X c es g) : EJ X c (.Tuple es k pos) (dTup g) := by
  intro ρ σ F H Q S o
  refine wp_of (pe_tup (pa_wp es)) (h ρ σ F H _ S (o.seq fun ds F1 H1 vs _ g1 r1 o1 => ?_))
  by_cases z : ds.length ≤ 1000
  · rw [if_pos z] at o1
    refine ⟨line1000 (by rw [r1.length]; exact z), fun p hp => ?_⟩
    have gg := (Grow.refl g1.fh).alloc (p := p) (o := .tup vs) hp
    exact o1 _ _ _ gg (.tup (SqT.of upd_same) (line1000 (by rw [r1.length]; exact z)) (r1.mono gg.f))
  · rw [if_neg z] at o1; exact o1.elim
theorem ej_dic0 {pos : Pos} : EJ X c (.Dict [] [] pos) (dC .dic0) := by
  intro ρ σ F H Q S o
  refine wp_of pe_dnewK (fun p hp => ?_)
  have gg := (Grow.refl S.g.fh).alloc (p := p) (o := .dK []) hp
  exact o _ _ _ gg (.dic (l := false) (ks := []) (vs := []) upd_same rfl (Nat.zero_le _) .nil)
theorem eo_lst {es : List Expr} {g : DenA} {pos : Pos} (h : AJ X c es g) : EO X c (.List es pos) (dLst g) := by
  intro ρ σ F H Q S o
  refine wp_of (pe_lst (pa_wp es)) (h ρ σ F H _ S (o.seq fun ds F1 H1 vs _ g1 r1 o1 => ?_))
  by_cases z : ds.length ≤ 1000
  · rw [if_pos z] at o1
    refine ⟨line1000 (by rw [r1.length]; exact z), fun p hp => ?_⟩
    have gg := (Grow.refl g1.fh).allocOwn (p := p) (o := .lst vs) hp
    have fp : F1 p = none := by
      cases q : F1 p with
      | none => rfl
      | some u => rw [g1.fh p u q] at hp; cases hp
    exact o1 _ _ _ gg ⟨p, vs, ds, rfl, rfl, upd_same, fp, g1.h.free hp, line1000 (by rw [r1.length]; exact z), r1⟩
  · rw [if_neg z] at o1; exact o1.elim
end
end FV

set_option maxHeartbeats 4000000
/-! FV2: operators, comparisons, subscripts, built-in calls, tests. -/
namespace FV
open PySem PySem.Spec PyProof.Rows L2
variable [Tbs]

def OutV (X : Cx) (F H : Hp) (r : Res D) (Q : VK) : Prop := match r with
  | .ok d => ∀ F' H' v, Grow F H F' H' → Rep X.K F' v d → Q v H'
  | _ => False
def OpD (X : Cx) (f : Value → Value → Sem Value) (g : D → D → Res D) : Prop :=
  ∀ d1 d2, ∃ r : R2, OpR X f r ∧ ∀ x y F H Q, Same F H → Rd' X.K F H x d1 → Rd' X.K F H y d2 → OutV X F H (g d1 d2) Q → r x y H Q
def dBin (g : D → D → Res D) (f1 f2 : Den) : Den := fun ρ => (f1 ρ).bind fun a => (f2 ρ).bind fun b => g a b
section
variable {X : Cx} {c : Cc} {K : PySem.W.Frag} {F H : Hp}
theorem opNo {f : Value → Value → Sem Value} : OpR X f (fun _ _ _ _ => False) := fun _ _ _ _ _ _ _ _ _ _ _ _ h => h.elim
theorem Out.v {σ : L2.St} {r : Res D} {Q : VK} (o : Out X c σ F H (fun F' _ v d => Rep X.K F' v d) r Q) (h : ∀ x, r ≠ .exn x) : OutV X F H r Q := by
  cases r with
  | ok d => exact o
  | exn x => exact absurd rfl (h x)
  | stuck => exact o
/-- an operator never tells an exception here -/
def NoX2 (g : D → D → Res D) : Prop := ∀ a b x, g a b ≠ .exn x
theorem bin_core {f : Value → Value → Sem Value} {g : D → D → Res D} (ho : OpD X f g) (nx : NoX2 g) {e : Expr} {a b : Expr} {fa fb : Den} (ha : ER X c a fa) (hb : ER X c b fb)
    (rule : ∀ r : R2, OpR X f r → PE X e (tOp r (Wp X a) (Wp X b))) : EJ X c e (dBin g fa fb) := by
  intro ρ σ F H Q S o
  -- the values are known ahead
  have key : ∀ d1 d2, fa ρ = .ok d1 → fb ρ = .ok d2 → Wp X e σ H Q := fun d1 d2 e1 e2 => by
    obtain ⟨r, hr, hq⟩ := ho d1 d2
    refine wp_of (rule r hr) (ha ρ σ F H _ S (o.seq fun a' F1 H1 v q1 g1 r1 o1 => ?_))
    refine hb ρ σ F1 H1 _ (S.grow g1) (o1.seq fun b' F2 H2 u q2 g2 r2 o2 => ?_)
    rw [e1] at q1; rw [e2] at q2; cases q1; cases q2
    exact hq v u F2 H2 Q g2.fh (r1.grow g2) r2 (o2.v (nx _ _))
  cases e1 : fa ρ with
  | ok d1 =>
    cases e2 : fb ρ with
    | ok d2 => exact key d1 d2 e1 e2
    | exn x =>
      refine wp_of (rule _ opNo) (ha ρ σ F H _ S (o.seq fun a' F1 H1 v q1 g1 r1 o1 => ?_))
      refine hb ρ σ F1 H1 _ (S.grow g1) ?_
      rw [e2] at o1 ⊢; exact o1
    | stuck =>
      have o' := o
      unfold dBin at o'
      rw [e1, e2] at o'
      exact o'.elim
  | exn x =>
    refine wp_of (rule _ opNo) (ha ρ σ F H _ S ?_)
    unfold dBin at o
    rw [e1] at o ⊢; exact o
  | stuck =>
    unfold dBin at o
    rw [e1] at o; exact o.elim
theorem ej_bin {op : Operator} {g : D → D → Res D} {a b : Expr} {fa fb : Den} {pos : Pos} (ho : OpD X (binaryOp op) g) (nx : NoX2 g) (ha : ER X c a fa) (hb : ER X c b fb) : EJ X c (.BinOp a op b pos) (dBin g fa fb) :=
  bin_core ho nx ha hb fun _ hr => pe_op hr (pe_wp a) (pe_wp b)
theorem ej_cmp {op : CmpOp} {g : D → D → Res D} {a b : Expr} {fa fb : Den} {pos : Pos} (ho : OpD X (compareOp op) g) (nx : NoX2 g) (ha : ER X c a fa) (hb : ER X c b fb) (hm : behindInMarks op b = false := by first | rfl | exact nomark _) : EJ X c (.Compare a [op] [b] pos) (dBin g fa fb) :=
  bin_core ho nx ha hb fun _ hr => pe_cmpR hr (pe_wp a) (pe_wp b) hm

/-! what a readable value is -/
theorem rd_int {v : V} {i : Int} (h : Rd' K F H v (.int i)) : v = .int i := by
  rcases h with h | ⟨_, _, _, _, e⟩
  · cases h; rfl
  · cases e
theorem rd_bl {v : V} {b : Bool} (h : Rd' K F H v (.bl b)) : v = .bl b := by
  rcases h with h | ⟨_, _, _, _, e⟩
  · cases h; rfl
  · cases e
theorem rd_non {v : V} (h : Rd' K F H v .non) : v = .non := by
  rcases h with h | ⟨_, _, _, _, e⟩
  · cases h; rfl
  · cases e
theorem rd_str {v : V} {x : Str} (h : Rd' K F H v (.str x)) : v = .str x := by
  rcases h with h | ⟨_, _, _, _, e⟩
  · cases h; rfl
  · cases e
theorem rd_tup {v : V} {ds : List D} (s : Same F H) (h : Rd' K F H v (.tup ds)) : ∃ a vs, v = .ref a ∧ SqT K F a vs ∧ SqT K H a vs ∧ vs.length ≤ sizeLine ∧ Reps K F vs ds := by
  rcases h with h | ⟨_, _, _, _, e⟩
  · cases h with
    | tup h1 h2 h3 => exact ⟨_, _, rfl, h1, sqT_mono s h1, h2, h3⟩
  · cases e
theorem rd_lst {v : V} {ds : List D} (s : Same F H) (h : Rd' K F H v (.lst ds)) : ∃ a vs, v = .ref a ∧ H a = some (.lst vs) ∧ vs.length ≤ sizeLine ∧ Reps K F vs ds := by
  rcases h with h | ⟨a, o, e0, h1, h2⟩
  · cases h with
    | lst h1 h2 h3 => exact ⟨_, _, rfl, s _ _ h1, h2, h3⟩
  · cases h2 with
    | lst z r => exact ⟨_, _, e0, h1, z, r⟩
theorem rd_klst {v : V} {ds : List D} (s : Same F H) (h : Rd' K F H v (.klst ds)) : ∃ a vs, v = .ref a ∧ SqL K H a vs ∧ vs.length ≤ sizeLine ∧ Reps K F vs ds := by
  rcases h with h | ⟨_, _, _, _, e⟩
  · cases h with
    | klst h1 h2 h3 => exact ⟨_, _, rfl, s.seq h1, h2, h3⟩
  · cases e
/-- items of a list or a tuple -/
def D.items : D → Option (List D)
  | .tup ds => some ds
  | .lst ds => some ds
  | .klst ds => some ds
  | _ => none
theorem rd_items {v : V} {d : D} {ds : List D} (s : Same F H) (h : Rd' K F H v d) (e : d.items = some ds) :
    ∃ a vs, v = .ref a ∧ ((SqL K H a vs ∧ d ≠ .tup ds) ∨ (SqT K H a vs ∧ d = .tup ds)) ∧ vs.length ≤ sizeLine ∧ Reps K F vs ds := by
  cases d with
  | tup es =>
    cases e
    obtain ⟨a, vs, h1, h2, h3, h4, h5⟩ := rd_tup s h
    exact ⟨a, vs, h1, .inr ⟨h3, rfl⟩, h4, h5⟩
  | lst es =>
    cases e
    obtain ⟨a, vs, h1, h2, h3, h4⟩ := rd_lst s h
    exact ⟨a, vs, h1, .inl ⟨SqL.of h2, fun z => nomatch z⟩, h3, h4⟩
  | klst es =>
    cases e
    obtain ⟨a, vs, h1, h2, h3, h4⟩ := rd_klst s h
    exact ⟨a, vs, h1, .inl ⟨h2, fun z => nomatch z⟩, h3, h4⟩
  | _ => cases e
theorem OutV.here {d : D} {v : V} {Q : VK} (o : OutV X F H (.ok d) Q) (s : Same F H) (r : Rep X.K F v d) : Q v H := o F H v (Grow.refl s) r
/-- a new tuple -/
theorem OutV.newT {ds : List D} {vs : List V} {Q : VK} (o : OutV X F H (.ok (.tup ds)) Q) (s : Same F H) (z : vs.length ≤ sizeLine) (r : Reps X.K F vs ds) (p : Addr) (hp : H p = none) : Q (.ref p) (upd H p (.tup vs)) := by
  have gg := (Grow.refl s).alloc (p := p) (o := .tup vs) hp
  exact o _ _ _ gg (.tup (SqT.of upd_same) z (r.mono gg.f))
theorem OutV.newL {ds : List D} {vs : List V} {Q : VK} (o : OutV X F H (.ok (.lst ds)) Q) (s : Same F H) (z : vs.length ≤ sizeLine) (r : Reps X.K F vs ds) (p : Addr) (hp : H p = none) : Q (.ref p) (upd H p (.lst vs)) := by
  have gg := (Grow.refl s).alloc (p := p) (o := .lst vs) hp
  exact o _ _ _ gg (.lst upd_same z (r.mono gg.f))

/-! ### + - * // % ** -/
def addD : D → D → Res D
  | .int i, .int j => .ok (.int (i + j))
  | .str x, .str y => if x.length + y.length ≤ sizeLine then .ok (.str (x ++ y)) else .stuck
  | .tup xs, .tup ys => if xs.length + ys.length ≤ sizeLine then .ok (.tup (xs ++ ys)) else .stuck
  | .lst xs, .lst ys => if xs.length + ys.length ≤ sizeLine then .ok (.lst (xs ++ ys)) else .stuck
  | _, _ => .stuck
theorem add_nx : NoX2 addD := fun a b x => by unfold addD; split <;> first | (intro h; cases h; done) | (split <;> (intro h; cases h))
theorem add_op : OpD X (binaryOp .Add) addD := by
  intro d1 d2
  unfold addD
  split
  · refine ⟨_, op_add, fun x y F H Q s r1 r2 o => ?_⟩
    rw [rd_int r1, rd_int r2]
    exact ⟨_, _, rfl, rfl, o.here s (.int _)⟩
  · refine ⟨_, op_add_str, fun x y F H Q s r1 r2 o => ?_⟩
    split at o
    · rw [rd_str r1, rd_str r2]
      exact ⟨_, _, rfl, rfl, by assumption, o.here s (.str _)⟩
    · exact o.elim
  · refine ⟨_, op_catA, fun x y F H Q s r1 r2 o => ?_⟩
    split at o
    · rename_i z
      obtain ⟨a, vs, rfl, h1, h1', z1, q1⟩ := rd_tup s r1
      obtain ⟨b, ws, rfl, h2, h2', z2, q2⟩ := rd_tup s r2
      have l1 := q1.length
      have l2 := q2.length
      have zz : vs.length + ws.length ≤ sizeLine := by omega
      refine ⟨a, b, vs, ws, rfl, rfl, h1', h2', zz, fun e => ?_, fun e e2 => ?_, fun _ _ p hp => o.newT s (by rw [List.length_append]; exact zz) (q1.append q2) p hp⟩
      · subst e; cases q1; exact o.here s (.tup h2 z2 q2)
      · subst e2; cases q2; rw [List.append_nil] at o; exact o.here s (.tup h1 z1 q1)
    · exact o.elim
  · refine ⟨_, op_cat, fun x y F H Q s r1 r2 o => ?_⟩
    split at o
    · rename_i z
      obtain ⟨a, vs, rfl, h1, z1, q1⟩ := rd_lst s r1
      obtain ⟨b, ws, rfl, h2, z2, q2⟩ := rd_lst s r2
      have l1 := q1.length
      have l2 := q2.length
      have zz : vs.length + ws.length ≤ sizeLine := by omega
      exact ⟨a, b, vs, ws, rfl, rfl, h1, h2, zz, fun p hp => o.newL s (by rw [List.length_append]; exact zz) (q1.append q2) p hp⟩
    · exact o.elim
  · exact ⟨_, opNo, fun _ _ _ _ _ _ _ _ o => o⟩
def subD : D → D → Res D
  | .int i, .int j => .ok (.int (i - j))
  | _, _ => .stuck
theorem sub_nx : NoX2 subD := fun a b x => by unfold subD; split <;> (intro h; cases h)
theorem sub_op : OpD X (binaryOp .Sub) subD := by
  intro d1 d2
  unfold subD
  split
  · refine ⟨_, op_sub, fun x y F H Q s r1 r2 o => ?_⟩
    rw [rd_int r1, rd_int r2]
    exact ⟨_, _, rfl, rfl, o.here s (.int _)⟩
  · exact ⟨_, opNo, fun _ _ _ _ _ _ _ _ o => o⟩
def MulOk (i j : Int) : Prop := CMul i j ∨ CMulW i j
open Classical in
noncomputable def mulD : D → D → Res D
  | .int i, .int j => if MulOk i j then .ok (.int (i * j)) else .stuck
  | .lst xs, .int k => if -(2 ^ 63) ≤ k ∧ k < 2 ^ 63 ∧ xs.length * k.toNat ≤ sizeLine then .ok (.lst (List.replicate k.toNat xs).flatten) else .stuck
  | _, _ => .stuck
theorem mul_nx : NoX2 mulD := fun a b x => by unfold mulD; split <;> first | (intro h; cases h; done) | (split <;> (intro h; cases h))
theorem reps_rep {vs : List V} {ds : List D} (r : Reps K F vs ds) : ∀ k : Nat, Reps K F (List.replicate k vs).flatten (List.replicate k ds).flatten
  | 0 => .nil
  | k + 1 => by
    rw [List.replicate_succ, List.replicate_succ, List.flatten_cons, List.flatten_cons]
    exact r.append (reps_rep r k)
theorem flat_len {α : Type} (xs : List α) : ∀ k : Nat, (List.replicate k xs).flatten.length = xs.length * k
  | 0 => by simp
  | k + 1 => by rw [List.replicate_succ, List.flatten_cons, List.length_append, flat_len xs k, Nat.mul_succ]; omega
theorem mul_op : OpD X (binaryOp .Mult) mulD := by
  intro d1 d2
  unfold mulD
  split
  · rename_i i j
    by_cases z : CMul i j
    · refine ⟨_, op_mul, fun x y F H Q s r1 r2 o => ?_⟩
      rw [if_pos (.inl z)] at o
      rw [rd_int r1, rd_int r2]
      exact ⟨_, _, rfl, rfl, z, o.here s (.int _)⟩
    · refine ⟨_, op_mulW, fun x y F H Q s r1 r2 o => ?_⟩
      by_cases z2 : CMulW i j
      · rw [if_pos (.inr z2)] at o
        rw [rd_int r1, rd_int r2]
        exact ⟨_, _, rfl, rfl, z2, o.here s (.int _)⟩
      · rw [if_neg (fun h => h.elim z z2)] at o; exact o.elim
  · rename_i xs k
    refine ⟨_, op_rep, fun x y F H Q s r1 r2 o => ?_⟩
    split at o
    · rename_i z
      obtain ⟨a, vs, rfl, h1, z1, q1⟩ := rd_lst s r1
      rw [rd_int r2]
      have l1 := q1.length
      have zz : vs.length * k.toNat ≤ sizeLine := by rw [l1]; exact z.2.2
      exact ⟨a, _, vs, rfl, rfl, h1, z.1, z.2.1, zz, fun p hp => o.newL s (by rw [flat_len]; exact zz) (reps_rep q1 _) p hp⟩
    · exact o.elim
  · exact ⟨_, opNo, fun _ _ _ _ _ _ _ _ o => o⟩
/-- // by any number but nought of less than 9000 bits -/
def DivOk (j : Int) : Prop := j ≠ 0 ∧ j.natAbs.log2 < 9000
open Classical in
noncomputable def fdivD : D → D → Res D
  | .int i, .int j => if DivOk j then .ok (.int (i.fdiv j)) else .stuck
  | _, _ => .stuck
theorem fdiv_nx : NoX2 fdivD := fun a b x => by unfold fdivD; split <;> first | (intro h; cases h; done) | (split <;> (intro h; cases h))
theorem op_fdivX : OpR X (binaryOp .FloorDiv) (rI (fun _ j => DivOk j) fun i j => .int (i.fdiv j)) := opI fun i j _ _ _ _ _ hc q =>
  floordiv_int hc.1 q (.inl (PyProof.noPylong_of_log2 hc.2))
theorem fdiv_op : OpD X (binaryOp .FloorDiv) fdivD := by
  intro d1 d2
  unfold fdivD
  split
  · refine ⟨_, op_fdivX, fun x y F H Q s r1 r2 o => ?_⟩
    split at o
    · rw [rd_int r1, rd_int r2]
      exact ⟨_, _, rfl, rfl, by assumption, o.here s (.int _)⟩
    · exact o.elim
  · exact ⟨_, opNo, fun _ _ _ _ _ _ _ _ o => o⟩
def modD : D → D → Res D
  | .int i, .int j => if 0 < j then .ok (.int (i % j)) else .stuck
  | _, _ => .stuck
theorem mod_nx : NoX2 modD := fun a b x => by unfold modD; split <;> first | (intro h; cases h; done) | (split <;> (intro h; cases h))
theorem mod_op : OpD X (binaryOp .Mod) modD := by
  intro d1 d2
  unfold modD
  split
  · refine ⟨_, op_mod, fun x y F H Q s r1 r2 o => ?_⟩
    split at o
    · rw [rd_int r1, rd_int r2]
      exact ⟨_, _, rfl, rfl, by assumption, o.here s (.int _)⟩
    · exact o.elim
  · exact ⟨_, opNo, fun _ _ _ _ _ _ _ _ o => o⟩
def PowOk (i j : Int) : Prop := 0 ≤ j ∧ j ≤ 1000000 ∧ i.natAbs < 18446744073709551616
open Classical in
noncomputable def powD : D → D → Res D
  | .int i, .int j => if PowOk i j then .ok (.int (i ^ j.toNat)) else .stuck
  | _, _ => .stuck
theorem pow_nx : NoX2 powD := fun a b x => by unfold powD; split <;> first | (intro h; cases h; done) | (split <;> (intro h; cases h))
theorem pow_op : OpD X (binaryOp .Pow) powD := by
  intro d1 d2
  unfold powD
  split
  · refine ⟨_, op_pow, fun x y F H Q s r1 r2 o => ?_⟩
    split at o
    · rename_i z
      rw [rd_int r1, rd_int r2]
      exact ⟨_, _, rfl, rfl, ⟨z.1, z.2.1, z.2.2⟩, o.here s (.int _)⟩
    · exact o.elim
  · exact ⟨_, opNo, fun _ _ _ _ _ _ _ _ o => o⟩

/-! ### comparisons of ints; == != of data; in; is None -/
def cmpD (p : Int → Int → Bool) : D → D → Res D
  | .int i, .int j => .ok (.bl (p i j))
  | _, _ => .stuck
theorem cmp_nx {p : Int → Int → Bool} : NoX2 (cmpD p) := fun a b x => by unfold cmpD; split <;> (intro h; cases h)
theorem cmp_op {f : Value → Value → Sem Value} {p : Int → Int → Bool} (h : OpR X f (rI0 fun i j => .bl (p i j))) : OpD X f (cmpD p) := by
  intro d1 d2
  unfold cmpD
  split
  · refine ⟨_, h, fun x y F H Q s r1 r2 o => ?_⟩
    rw [rd_int r1, rd_int r2]
    exact ⟨_, _, rfl, rfl, o.here s (.bl _)⟩
  · exact ⟨_, opNo, fun _ _ _ _ _ _ _ _ o => o⟩
def ltD := cmpD fun i j => decide (i < j)
def leD := cmpD fun i j => decide (i ≤ j)
def gtD := cmpD fun i j => decide (j < i)
def geD := cmpD fun i j => decide (j ≤ i)
theorem lt_op : OpD X (compareOp .Lt) ltD := cmp_op op_lt
theorem le_op : OpD X (compareOp .LtE) leD := cmp_op op_le
theorem gt_op : OpD X (compareOp .Gt) gtD := cmp_op op_gt
theorem ge_op : OpD X (compareOp .GtE) geD := cmp_op op_ge

mutual
def toP : D → Option PyData
  | .non => some .none
  | .bl b => some (.bool b)
  | .int i => some (.int i)
  | .str x => some (.str x)
  | .tup ds => (toPs ds).map .tuple
  | .lst ds => (toPs ds).map .list
  | .klst ds => (toPs ds).map .list
  | .exn _ => none
  | .fn _ => none
  | .dic _ _ _ => none
  | .ins _ _ _ => none
  | .lam _ _ => none
def toPs : List D → Option (List PyData)
  | [] => some []
  | d :: ds => match toP d, toPs ds with
    | some p, some ps => some (p :: ps)
    | _, _ => none
end
mutual
theorem rep_dp (s : Same F H) : ∀ {d : D} {v : V} {p : PyData}, Rep K F v d → toP d = some p → Dp K H v p
  | .non, _, _, h, e => by cases h; simp only [toP] at e; cases e; exact .non
  | .bl b, _, _, h, e => by cases h; simp only [toP] at e; cases e; exact .bl b
  | .int i, _, _, h, e => by cases h; simp only [toP] at e; cases e; exact .int i
  | .str x, _, _, h, e => by cases h; simp only [toP] at e; cases e; exact .str x
  | .tup ds, _, _, h, e => by
    cases h with
    | tup h1 h2 h3 =>
      simp only [toP] at e
      obtain ⟨ps, e1, e2⟩ := Option.map_eq_some_iff.mp e
      subst e2
      exact .tup (sqT_mono s h1) (reps_dp s h3 e1)
  | .lst ds, _, _, h, e => by
    cases h with
    | lst h1 h2 h3 =>
      simp only [toP] at e
      obtain ⟨ps, e1, e2⟩ := Option.map_eq_some_iff.mp e
      subst e2
      exact .lst (SqL.of (s _ _ h1)) (reps_dp s h3 e1)
  | .klst ds, _, _, h, e => by
    cases h with
    | klst h1 h2 h3 =>
      simp only [toP] at e
      obtain ⟨ps, e1, e2⟩ := Option.map_eq_some_iff.mp e
      subst e2
      exact .lst (s.seq h1) (reps_dp s h3 e1)
  | .exn _, _, _, h, e => by simp only [toP] at e; cases e
  | .fn _, _, _, h, e => by simp only [toP] at e; cases e
  | .dic _ _ _, _, _, h, e => by simp only [toP] at e; cases e
  | .ins _ _ _, _, _, h, e => by simp only [toP] at e; cases e
  | .lam _ _, _, _, h, e => by simp only [toP] at e; cases e
theorem reps_dp (s : Same F H) : ∀ {ds : List D} {vs : List V} {ps : List PyData}, Reps K F vs ds → toPs ds = some ps → DpAll K H vs ps
  | [], _, _, h, e => by cases h; simp only [toPs] at e; cases e; exact .nil
  | d :: ds, _, _, h, e => by
    cases h with
    | cons h1 h2 =>
      simp only [toPs] at e
      split at e
      · rename_i p ps e1 e2
        cases e
        exact .cons (rep_dp s h1 e1) (reps_dp s h2 e2)
      · cases e
end
theorem rd_dp {d : D} {v : V} {p : PyData} (s : Same F H) (h : Rd' K F H v d) (e : toP d = some p) : Dp K H v p := by
  rcases h with h | ⟨a, o, e0, h1, h2⟩
  · exact rep_dp s h e
  · subst e0
    cases h2 with
    | dic _ _ _ => simp only [toP] at e; cases e
    | ins _ _ _ _ => simp only [toP] at e; cases e
    | lst h2 h3 =>
    simp only [toP] at e
    obtain ⟨ps, e1, e2⟩ := Option.map_eq_some_iff.mp e
    subst e2
    exact .lst (SqL.of h1) (reps_dp s h3 e1)
/-- == as the program has it, where both are data -/
def eqB (d1 d2 : D) : Option Bool := match toP d1, toP d2 with
  | some p, some q => if SeqAt.shaped p = true ∧ SeqAt.shaped q = true then some (PyData.eqv p q) else none
  | _, _ => none
def eqD (d1 d2 : D) : Res D := match eqB d1 d2 with
  | some b => .ok (.bl b)
  | none => .stuck
def neD (d1 d2 : D) : Res D := match eqB d1 d2 with
  | some b => .ok (.bl (!b))
  | none => .stuck
theorem eq_nx : NoX2 eqD := fun a b x => by unfold eqD; split <;> (intro h; cases h)
theorem ne_nx : NoX2 neD := fun a b x => by unfold neD; split <;> (intro h; cases h)
theorem eqB_some {d1 d2 : D} {b : Bool} (h : eqB d1 d2 = some b) : ∃ p q, toP d1 = some p ∧ toP d2 = some q ∧ SeqAt.shaped p = true ∧ SeqAt.shaped q = true ∧ b = PyData.eqv p q := by
  unfold eqB at h
  split at h
  · rename_i p q e1 e2
    split at h
    · rename_i z; cases h; exact ⟨p, q, e1, e2, z.1, z.2, rfl⟩
    · cases h
  · cases h
theorem eq_op (hu : X.A.units + 64 < cLine) : OpD X (compareOp .Eq) eqD := by
  intro d1 d2
  refine ⟨_, op_eqD hu, fun x y F H Q s r1 r2 o => ?_⟩
  unfold eqD at o
  split at o
  · rename_i b e
    obtain ⟨p, q, e1, e2, z1, z2, rfl⟩ := eqB_some e
    exact ⟨p, q, rd_dp s r1 e1, rd_dp s r2 e2, z1, z2, o.here s (.bl _)⟩
  · exact o.elim
theorem ne_op (hu : X.A.units + 64 < cLine) : OpD X (compareOp .NotEq) neD := by
  intro d1 d2
  refine ⟨_, op_neD hu, fun x y F H Q s r1 r2 o => ?_⟩
  unfold neD at o
  split at o
  · rename_i b e
    obtain ⟨p, q, e1, e2, z1, z2, rfl⟩ := eqB_some e
    exact ⟨p, q, rd_dp s r1 e1, rd_dp s r2 e2, z1, z2, o.here s (.bl _)⟩
  · exact o.elim
/-- x in a list of data; a text in a text -/
def inB (d1 d2 : D) : Option Bool := match d1, d2 with
  | .str x, .str y => some (!(Builtin.Str.occurrences y x 0 y.length 1).isEmpty)
  | d, e => match toP d, toP e with
    | some p, some (.list qs) => if SeqAt.shaped p = true ∧ SeqAt.shaped (.list qs) = true then some (qs.any fun z => PyData.eqv z p) else none
    | _, _ => none
def inD (d1 d2 : D) : Res D := match inB d1 d2 with
  | some b => .ok (.bl b)
  | none => .stuck
def notInD (d1 d2 : D) : Res D := match inB d1 d2 with
  | some b => .ok (.bl (!b))
  | none => .stuck
theorem in_nx : NoX2 inD := fun a b x => by unfold inD; split <;> (intro h; cases h)
theorem notIn_nx : NoX2 notInD := fun a b x => by unfold notInD; split <;> (intro h; cases h)
theorem inB_str {x y : Str} : inB (.str x) (.str y) = some (!(Builtin.Str.occurrences y x 0 y.length 1).isEmpty) := rfl
theorem inB_some {d1 d2 : D} {b : Bool} (h : inB d1 d2 = some b) (n : ¬ ∃ x y, d1 = .str x ∧ d2 = .str y) : ∃ p qs, toP d1 = some p ∧ toP d2 = some (.list qs) ∧ SeqAt.shaped p = true ∧ SeqAt.shaped (.list qs) = true ∧ b = (qs.any fun z => PyData.eqv z p) := by
  unfold inB at h
  split at h
  · exact absurd ⟨_, _, rfl, rfl⟩ n
  · split at h
    · rename_i p qs e1 e2
      split at h
      · rename_i z; cases h; exact ⟨p, qs, e1, e2, z.1, z.2, rfl⟩
      · cases h
    · cases h
theorem in_op (hu : X.A.units + 65 < cLine) : OpD X (compareOp .In) inD := by
  intro d1 d2
  by_cases n : ∃ x y, d1 = .str x ∧ d2 = .str y
  · obtain ⟨x, y, rfl, rfl⟩ := n
    refine ⟨_, op_in_str, fun v u F H Q s r1 r2 o => ?_⟩
    rw [rd_str r1, rd_str r2]
    exact ⟨x, y, rfl, rfl, o.here s (.bl _)⟩
  · refine ⟨_, op_inD hu, fun x y F H Q s r1 r2 o => ?_⟩
    unfold inD at o
    split at o
    · rename_i b e
      obtain ⟨p, qs, e1, e2, z1, z2, rfl⟩ := inB_some e n
      exact ⟨p, qs, rd_dp s r1 e1, rd_dp s r2 e2, z1, z2, o.here s (.bl _)⟩
    · exact o.elim
theorem notIn_op (hu : X.A.units + 65 < cLine) : OpD X (compareOp .NotIn) notInD := by
  intro d1 d2
  by_cases n : ∃ x y, d1 = .str x ∧ d2 = .str y
  · obtain ⟨x, y, rfl, rfl⟩ := n
    refine ⟨_, L2.op_notin_str, fun v u F H Q s r1 r2 o => ?_⟩
    rw [rd_str r1, rd_str r2]
    exact ⟨x, y, rfl, rfl, o.here s (.bl _)⟩
  · refine ⟨_, op_notInD hu, fun x y F H Q s r1 r2 o => ?_⟩
    unfold notInD at o
    split at o
    · rename_i b e
      obtain ⟨p, qs, e1, e2, z1, z2, rfl⟩ := inB_some e n
      exact ⟨p, qs, rd_dp s r1 e1, rd_dp s r2 e2, z1, z2, o.here s (.bl _)⟩
    · exact o.elim
/-- is None, is not None -/
def D.isNon : D → Bool
  | .non => true
  | _ => false
def isD (d1 d2 : D) : Res D := match d1, d2 with
  | .bl a, .bl b => .ok (.bl (decide (a = b)))
  | d1, .non => .ok (.bl d1.isNon)
  | _, _ => .stuck
def isNotD (d1 d2 : D) : Res D := match d1, d2 with
  | .bl a, .bl b => .ok (.bl (!decide (a = b)))
  | d1, .non => .ok (.bl (!d1.isNon))
  | _, _ => .stuck
theorem is_nx : NoX2 isD := fun a b x => by unfold isD; split <;> (intro h; cases h)
theorem isNot_nx : NoX2 isNotD := fun a b x => by unfold isNotD; split <;> (intro h; cases h)
theorem rd_isNon {v : V} {d : D} (h : Rd' K F H v d) : decide (v = .non) = d.isNon := by
  rcases h with h | ⟨_, _, e0, _, h2⟩
  · cases h <;> rfl
  · subst e0; cases h2 <;> rfl
theorem is_op : OpD X (compareOp .Is) isD := by
  intro d1 d2
  unfold isD
  split
  · refine ⟨_, op_isBl, fun x y F H Q s r1 r2 o => ?_⟩
    exact ⟨_, _, rd_bl r1, rd_bl r2, o.here s (.bl _)⟩
  · refine ⟨_, op_isN, fun x y F H Q s r1 r2 o => ?_⟩
    exact ⟨rd_non r2, by rw [rd_isNon r1]; exact o.here s (.bl _)⟩
  · exact ⟨_, opNo, fun _ _ _ _ _ _ _ _ o => o⟩
theorem isNot_op : OpD X (compareOp .IsNot) isNotD := by
  intro d1 d2
  unfold isNotD
  split
  · refine ⟨_, op_notBl, fun x y F H Q s r1 r2 o => ?_⟩
    exact ⟨_, _, rd_bl r1, rd_bl r2, o.here s (.bl _)⟩
  · refine ⟨_, op_notN, fun x y F H Q s r1 r2 o => ?_⟩
    exact ⟨rd_non r2, by rw [rd_isNon r1]; exact o.here s (.bl _)⟩
  · exact ⟨_, opNo, fun _ _ _ _ _ _ _ _ o => o⟩
end
end FV

set_option maxHeartbeats 4000000
/-! FV3: subscripts, slices, tests, and or not, calls. -/
namespace FV
open PySem PySem.Spec PyProof.Rows L2
variable [Tbs]
section
variable {X : Cx} {c : Cc} {K : PySem.W.Frag} {F H : Hp} {pos : Pos}

/-! ### subscripts -/
def ixD : D → D → Res D
  | .str z, .int i => if z.length ≤ sizeLine then (match atI z.cps.toList i with | some k => .ok (.str ⟨#[k]⟩) | none => .stuck) else .stuck
  | d, .int i => match d.items with
    | some ds => (match atI ds i with | some e => .ok e | none => .stuck)
    | none => .stuck
  | _, _ => .stuck
theorem ix_nx : NoX2 ixD := fun a b x => by unfold ixD; split <;> (repeat' split) <;> (intro h; cases h)
theorem at_rel {vs : List V} {ds : List D} {i : Int} {d : D} (r : Reps K F vs ds) (h : atI ds i = some d) : ∃ v, atI vs i = some v ∧ Rep K F v d := by
  unfold atI at h ⊢
  rw [r.length]
  cases e : ixN ds.length i with
  | none => rw [e] at h; cases h
  | some j =>
    rw [e] at h
    obtain ⟨v, h1, h2⟩ := r.get (i := j) (d := d) h
    exact ⟨v, h1, h2⟩
def IxD (X : Cx) (g : D → D → Res D) : Prop :=
  ∀ d1 d2, ∃ r : R2, IxR X r ∧ ∀ x y F H Q, Same F H → Rd' X.K F H x d1 → Rd' X.K F H y d2 → OutV X F H (g d1 d2) Q → r x y H Q
theorem ixNo : IxR X (fun _ _ _ _ => False) := fun _ _ _ _ _ _ _ _ _ _ _ _ _ _ h => h.elim
theorem ix_ok : IxD X ixD := by
  intro d1 d2
  unfold ixD
  split
  · rename_i z i
    refine ⟨_, ix_str, fun x y F H Q s r1 r2 o => ?_⟩
    split at o
    · rename_i hz
      split at o
      · rename_i k e
        rw [rd_str r1, rd_int r2]
        exact ⟨z, i, k, rfl, rfl, hz, e, o.here s (.str _)⟩
      · exact o.elim
    · exact o.elim
  · rename_i i _
    split
    · rename_i ds e
      refine ⟨_, ix_seq, fun x y F H Q s r1 r2 o => ?_⟩
      split at o
      · rename_i d he
        obtain ⟨a, vs, rfl, h1, h2, h3⟩ := rd_items s r1 e
        rw [rd_int r2]
        obtain ⟨v, h4, h5⟩ := at_rel h3 he
        rcases h1 with ⟨h1, _⟩ | ⟨h1, _⟩
        · exact .inl ⟨a, vs, i, v, rfl, rfl, h1, h4, o.here s h5⟩
        · exact .inr (.inl ⟨a, vs, i, v, rfl, rfl, h1, h4, o.here s h5⟩)
      · exact o.elim
    · exact ⟨_, ixNo, fun _ _ _ _ _ _ _ _ o => o⟩
  · exact ⟨_, ixNo, fun _ _ _ _ _ _ _ _ o => o⟩
theorem two_core {P : R2 → Prop} (hno : P (fun _ _ _ _ => False)) {g : D → D → Res D} (ho : ∀ d1 d2, ∃ r : R2, P r ∧ ∀ x y F H Q, Same F H → Rd' X.K F H x d1 → Rd' X.K F H y d2 → OutV X F H (g d1 d2) Q → r x y H Q)
    (nx : NoX2 g) {e : Expr} {a b : Expr} {fa fb : Den} (ha : ER X c a fa) (hb : ER X c b fb) (rule : ∀ r : R2, P r → PE X e (tOp r (Wp X a) (Wp X b))) : EJ X c e (dBin g fa fb) := by
  intro ρ σ F H Q S o
  have key : ∀ d1 d2, fa ρ = .ok d1 → fb ρ = .ok d2 → Wp X e σ H Q := fun d1 d2 e1 e2 => by
    obtain ⟨r, hr, hq⟩ := ho d1 d2
    refine wp_of (rule r hr) (ha ρ σ F H _ S (o.seq fun a' F1 H1 v q1 g1 r1 o1 => ?_))
    refine hb ρ σ F1 H1 _ (S.grow g1) (o1.seq fun b' F2 H2 u q2 g2 r2 o2 => ?_)
    rw [e1] at q1; rw [e2] at q2; cases q1; cases q2
    exact hq v u F2 H2 Q g2.fh (r1.grow g2) r2 (o2.v (nx _ _))
  cases e1 : fa ρ with
  | ok d1 =>
    cases e2 : fb ρ with
    | ok d2 => exact key d1 d2 e1 e2
    | exn x =>
      refine wp_of (rule _ hno) (ha ρ σ F H _ S (o.seq fun a' F1 H1 v q1 g1 r1 o1 => ?_))
      refine hb ρ σ F1 H1 _ (S.grow g1) ?_
      rw [e2] at o1 ⊢; exact o1
    | stuck =>
      have o' := o
      unfold dBin at o'
      rw [e1, e2] at o'
      exact o'.elim
  | exn x =>
    refine wp_of (rule _ hno) (ha ρ σ F H _ S ?_)
    unfold dBin at o
    rw [e1] at o ⊢; exact o
  | stuck =>
    unfold dBin at o
    rw [e1] at o; exact o.elim
theorem ej_ix {a b : Expr} {fa fb : Den} (ha : ER X c a fa) (hb : ER X c b fb) (hs : PlainIx b := by exact fun _ _ => rfl) : EJ X c (.Subscript a b pos) (dBin ixD fa fb) :=
  two_core ixNo ix_ok ix_nx ha hb fun _ hr => pe_ix hr (pe_wp a) (pe_wp b) hs

/-! ### slices a[lo:hi] -/
abbrev DenO := En → Res (Option Int)
structure OJ (X : Cx) (c : Cc) (e : Option Expr) (f : DenO) : Prop where
  run : ∃ t : TO, PO X e t ∧ ∀ ρ σ F H (Q : Option Int → Hp → Prop), Sim X.K c.F0 c.H0 F H ρ σ → Out X c σ F H (fun _ _ (v : Option Int) d => v = d) (f ρ) Q → t σ H Q
def oNone : DenO := fun _ => .ok none
def oSome (f : Den) : DenO := fun ρ => (f ρ).bind fun d => match d with
  | .int i => .ok (some i)
  | _ => .stuck
theorem oj_none : OJ X c none oNone := ⟨_, po_none, fun ρ σ F H Q S o => o F H none (Grow.refl S.g.fh) rfl⟩
theorem oj_some {e : Expr} {f : Den} (h : ER X c e f) : OJ X c (some e) (oSome f) := ⟨_, po_some (pe_wp e), fun ρ σ F H Q S o => h ρ σ F H _ S (o.seq fun d F1 H1 v _ g1 r1 o1 => by
  cases d with
  | int i => exact ⟨i, rd_int r1, o1 F1 H1 _ (Grow.refl g1.fh) rfl⟩
  | _ => exact o1.elim)⟩
def cutD (xs : List D) (lo hi : Option Int) : List D := (xs.drop (HT.sIx xs.length 0 lo)).take (HT.sIx xs.length xs.length hi - HT.sIx xs.length 0 lo)
theorem cut_rel {vs : List V} {ds : List D} {lo hi : Option Int} (r : Reps K F vs ds) : Reps K F (cutV vs lo hi) (cutD ds lo hi) := by
  unfold cutV cutD
  rw [r.length]
  exact (r.drop _).take _
theorem cutD_all (xs : List D) (lo hi : Option Int) (h1 : HT.sIx xs.length 0 lo = 0) (h2 : HT.sIx xs.length xs.length hi = xs.length) : cutD xs lo hi = xs := by
  unfold cutD; rw [h1, h2]; simp
def sliceD (d : D) (lo hi : Option Int) : Res D := match d with
  | .tup ds => .ok (.tup (cutD ds lo hi))
  | .lst ds => .ok (.lst (cutD ds lo hi))
  | .klst ds => .ok (.lst (cutD ds lo hi))
  | _ => .stuck
def dSl (f : Den) (l h : DenO) : Den := fun ρ => (f ρ).bind fun d => (l ρ).bind fun lo => (h ρ).bind fun hi => sliceD d lo hi
def SlD (X : Cx) (d : D) : Prop := ∃ r, SlR X r ∧ ∀ x lo hi F H Q, Same F H → Rd' X.K F H x d → OutV X F H (sliceD d lo hi) Q → r x lo hi H Q
theorem sl_ok (d : D) : SlD X d := by
  have no : SlR X (fun _ _ _ _ _ => False) := fun _ _ _ _ _ _ _ _ _ _ _ _ _ _ _ _ _ h => h.elim
  cases d with
  | tup ds =>
    refine ⟨_, sl_tupA, fun x lo hi F H Q s r o => ?_⟩
    obtain ⟨a, vs, rfl, h1, h2, h3, h4⟩ := rd_tup s r
    have o : OutV X F H (.ok (.tup (cutD ds lo hi))) Q := o
    refine ⟨a, vs, rfl, h2, fun z => ?_, fun z p hp => o.newT s (Nat.le_trans (cutV_length _ _ _) h3) (cut_rel h4) p hp⟩
    rw [h4.length] at z
    rw [cutD_all ds lo hi z.1 z.2] at o
    exact o.here s (.tup h1 h3 h4)
  | lst ds =>
    refine ⟨_, sl_list, fun x lo hi F H Q s r o => ?_⟩
    obtain ⟨a, vs, rfl, h1, h3, h4⟩ := rd_lst s r
    exact ⟨a, vs, rfl, SqL.of h1, fun p hp => OutV.newL (X := X) (ds := cutD ds lo hi) o s (Nat.le_trans (cutV_length _ _ _) h3) (cut_rel h4) p hp⟩
  | klst ds =>
    refine ⟨_, sl_list, fun x lo hi F H Q s r o => ?_⟩
    obtain ⟨a, vs, rfl, h1, h3, h4⟩ := rd_klst s r
    exact ⟨a, vs, rfl, h1, fun p hp => OutV.newL (X := X) (ds := cutD ds lo hi) o s (Nat.le_trans (cutV_length _ _ _) h3) (cut_rel h4) p hp⟩
  | _ => exact ⟨_, no, fun _ _ _ _ _ _ _ _ o => o⟩
theorem slice_nx (d : D) (lo hi : Option Int) (x : Str) : sliceD d lo hi ≠ .exn x := by unfold sliceD; split <;> (intro h; cases h)
theorem ej_slice {e : Expr} {f : Den} {lo hi : Option Expr} {fl fh : DenO} {p2 : Pos} (he : ER X c e f) (hl : OJ X c lo fl) (hh : OJ X c hi fh) : EJ X c (.Subscript e (.Slice lo hi none p2) pos) (dSl f fl fh) := by
  intro ρ σ F H Q S o
  obtain ⟨tl, pl, ql⟩ := hl.run
  obtain ⟨th, ph, qh⟩ := hh.run
  cases e1 : f ρ with
  | ok d =>
    obtain ⟨r, hr, hq⟩ := sl_ok (X := X) d
    refine wp_of (pe_slice hr (pe_wp e) pl ph) (he ρ σ F H _ S (o.seq fun d' F1 H1 v q1 g1 r1 o1 => ?_))
    refine ql ρ σ F1 H1 _ (S.grow g1) (o1.seq fun lo' F2 H2 l' _ g2 r2 o2 => ?_)
    refine qh ρ σ F2 H2 _ ((S.grow g1).grow g2) (o2.seq fun hi' F3 H3 h' _ g3 r3 o3 => ?_)
    subst r2; subst r3
    rw [e1] at q1; cases q1
    exact hq v l' h' F3 H3 Q g3.fh ((r1.grow g2).grow g3) (o3.v (slice_nx _ _ _))
  | exn x =>
    have no : SlR X (fun _ _ _ _ _ => False) := fun _ _ _ _ _ _ _ _ _ _ _ _ _ _ _ _ _ h => h.elim
    refine wp_of (pe_slice no (pe_wp e) pl ph) (he ρ σ F H _ S ?_)
    unfold dSl at o
    rw [e1] at o ⊢; exact o
  | stuck => unfold dSl at o; rw [e1] at o; exact o.elim

/-! ### - and the tests -/
def negD : D → Res D
  | .int i => .ok (.int (-i))
  | _ => .stuck
def dUn (g : D → Res D) (f : Den) : Den := fun ρ => (f ρ).bind g
theorem ej_neg {a : Expr} {f : Den} (h : ER X c a f) : EJ X c (.UnaryOp .USub a pos) (dUn negD f) := by
  intro ρ σ F H Q S o
  refine wp_of (pe_un un_neg (pe_wp a)) (h ρ σ F H _ S (o.seq fun d F1 H1 v _ g1 r1 o1 => ?_))
  cases d with
  | int i => exact ⟨i, rd_int r1, OutV.here (X := X) (o1.v (fun x z => nomatch z)) g1.fh (.int _)⟩
  | _ => exact o1.elim
/-- a truth as a test -/
def asB : D → Res Bool
  | .bl b => .ok b
  | _ => .stuck
def tVal (f : Den) : En → Res Bool := fun ρ => (f ρ).bind asB
theorem asB_ok {r : Res D} {σ : L2.St} {F H : Hp} {Q : Bool → Hp → Prop} (o : Out X c σ F H (fun _ _ (v : Bool) d => v = d) (r.bind asB) Q) :
    Out X c σ F H (fun F' H' v d => Rd' X.K F' H' v d) r (fun x H' => ∃ k, x = .bl k ∧ Q k H') := o.seq fun d F1 H1 v _ g1 r1 o1 => by
  cases d with
  | bl b => exact ⟨b, rd_bl r1, o1 F1 H1 b (Grow.refl g1.fh) rfl⟩
  | _ => exact o1.elim
theorem tj_cmp {op : CmpOp} {g : D → D → Res D} {a b : Expr} {fa fb : Den} (ho : OpD X (compareOp op) g) (nx : NoX2 g) (ha : ER X c a fa) (hb : ER X c b fb) (hm : behindInMarks op b = false := by first | rfl | exact nomark _) : TJ X c (.Compare a [op] [b] pos) (tVal (dBin g fa fb)) := by
  intro ρ σ F H Q S o
  have o' := asB_ok (X := X) (c := c) o
  -- the comparison by the core with the test's end
  have key : ∀ d1 d2, fa ρ = .ok d1 → fb ρ = .ok d2 → WpT X (.Compare a [op] [b] pos) σ H Q := fun d1 d2 e1 e2 => by
    obtain ⟨r, hr, hq⟩ := ho d1 d2
    refine wpt_of (pt_cmpR hr (pe_wp a) (pe_wp b) hm) (ha ρ σ F H _ S (o'.seq fun a' F1 H1 v q1 g1 r1 o1 => ?_))
    refine hb ρ σ F1 H1 _ (S.grow g1) (o1.seq fun b' F2 H2 u q2 g2 r2 o2 => ?_)
    rw [e1] at q1; rw [e2] at q2; cases q1; cases q2
    refine hq v u F2 H2 _ g2.fh (r1.grow g2) r2 ?_
    have o3 := o2.mono (R' := fun F' _ v d => Rep X.K F' v d) fun _ _ _ _ _ r => .inl r
    exact o3.v (nx _ _)
  cases e1 : fa ρ with
  | ok d1 =>
    cases e2 : fb ρ with
    | ok d2 => exact key d1 d2 e1 e2
    | exn x =>
      refine wpt_of (pt_cmpR opNo (pe_wp a) (pe_wp b) hm) (ha ρ σ F H _ S (o'.seq fun a' F1 H1 v q1 g1 r1 o1 => ?_))
      refine hb ρ σ F1 H1 _ (S.grow g1) ?_
      rw [e2] at o1 ⊢; exact o1
    | stuck =>
      unfold dBin at o'
      rw [e1, e2] at o'
      exact o'.elim
  | exn x =>
    refine wpt_of (pt_cmpR opNo (pe_wp a) (pe_wp b) hm) (ha ρ σ F H _ S ?_)
    unfold dBin at o'
    rw [e1] at o' ⊢; exact o'
  | stuck =>
    unfold dBin at o'
    rw [e1] at o'; exact o'.elim
theorem tj_val {e : Expr} {f : Den} (h : ER X c e f) (he : ∀ whole, isTrue e X.env whole = (do let v ← whole; standAt e.pos; holding [v] (truthy v)) := by intro _; rfl) : TJ X c e (tVal f) := by
  intro ρ σ F H Q S o
  exact wpt_of (pt_val (pe_wp e) he) (h ρ σ F H _ S (asB_ok o))
def tNotB (t : En → Res Bool) : En → Res Bool := fun ρ => (t ρ).bind fun b => .ok (!b)
theorem tj_not {a : Expr} {t : En → Res Bool} (h : TJ X c a t) : TJ X c (.UnaryOp .Not a pos) (tNotB t) := by
  intro ρ σ F H Q S o
  refine wpt_of (pt_not (pt_wp a)) (h ρ σ F H _ S (o.seq fun d F1 H1 v _ g1 r1 o1 => ?_))
  subst r1
  exact o1 F1 H1 _ (Grow.refl g1.fh) rfl
def tAndB (t u : En → Res Bool) : En → Res Bool := fun ρ => (t ρ).bind fun b => if b = true then u ρ else .ok false
def tOrB (t u : En → Res Bool) : En → Res Bool := fun ρ => (t ρ).bind fun b => if b = true then .ok true else u ρ
theorem tw_and1 {a : Expr} {t : En → Res Bool} (h : TJ X c a t) : TW X c (.BoolOp .And [a] pos) t := fun ρ σ F H Q S o => wpw_of (pw_and1 (pt_wp a)) (h ρ σ F H Q S o)
theorem tw_or1 {a : Expr} {t : En → Res Bool} (h : TJ X c a t) : TW X c (.BoolOp .Or [a] pos) t := fun ρ σ F H Q S o => wpw_of (pw_or1 (pt_wp a)) (h ρ σ F H Q S o)
theorem tw_and {a b : Expr} {rest : List Expr} {t u : En → Res Bool} (h : TJ X c a t) (h2 : TW X c (.BoolOp .And (b :: rest) pos) u) : TW X c (.BoolOp .And (a :: b :: rest) pos) (tAndB t u) := by
  intro ρ σ F H Q S o
  refine wpw_of (pw_and (pt_wp a) (pw_wp _)) (h ρ σ F H _ S (o.seq fun d F1 H1 v _ g1 r1 o1 => ?_))
  subst r1
  cases v with
  | true => rw [if_pos rfl] at o1 ⊢; exact h2 ρ σ F1 H1 Q (S.grow g1) o1
  | false => rw [if_neg Bool.false_ne_true] at o1 ⊢; exact o1 F1 H1 _ (Grow.refl g1.fh) rfl
theorem tw_or {a b : Expr} {rest : List Expr} {t u : En → Res Bool} (h : TJ X c a t) (h2 : TW X c (.BoolOp .Or (b :: rest) pos) u) : TW X c (.BoolOp .Or (a :: b :: rest) pos) (tOrB t u) := by
  intro ρ σ F H Q S o
  refine wpw_of (pw_or (pt_wp a) (pw_wp _)) (h ρ σ F H _ S (o.seq fun d F1 H1 v _ g1 r1 o1 => ?_))
  subst r1
  cases v with
  | false => rw [if_neg Bool.false_ne_true] at o1 ⊢; exact h2 ρ σ F1 H1 Q (S.grow g1) o1
  | true => rw [if_pos rfl] at o1 ⊢; exact o1 F1 H1 _ (Grow.refl g1.fh) rfl
theorem tw_tj {e : Expr} {t : En → Res Bool} (h : TW X c e t) : TJ X c e t := fun ρ σ F H Q S o => ⟨fun pins s I => (h ρ σ F H Q S o).run (eval e X.env) pins s I⟩
/-- and, or, not as values -/
def dAnd (f g : Den) : Den := fun ρ => (f ρ).bind fun a => (asB a).bind fun b => if b = true then g ρ else .ok (.bl false)
def dOr (f g : Den) : Den := fun ρ => (f ρ).bind fun a => (asB a).bind fun b => if b = true then .ok (.bl true) else g ρ
theorem ej_one {op : BoolOp} {a : Expr} {f : Den} (h : EJ X c a f) : EJ X c (.BoolOp op [a] pos) f := fun ρ σ F H Q S o => wp_of (pe_one (pe_wp a)) (h ρ σ F H Q S o)
theorem ej_and {a b : Expr} {rest : List Expr} {f g : Den} (h : ER X c a f) (h2 : EJ X c (.BoolOp .And (b :: rest) pos) g) : EJ X c (.BoolOp .And (a :: b :: rest) pos) (dAnd f g) := by
  intro ρ σ F H Q S o
  refine wp_of (pe_and (pe_wp a) (pe_wp _)) (h ρ σ F H _ S (o.seq fun d F1 H1 v _ g1 r1 o1 => ?_))
  cases d with
  | bl b =>
    refine ⟨b, rd_bl r1, ?_⟩
    cases b with
    | true => exact h2 ρ σ F1 H1 Q (S.grow g1) o1
    | false => exact o1 F1 H1 _ (Grow.refl g1.fh) (.bl _)
  | _ => exact o1.elim
theorem ej_or {a b : Expr} {rest : List Expr} {f g : Den} (h : ER X c a f) (h2 : EJ X c (.BoolOp .Or (b :: rest) pos) g) : EJ X c (.BoolOp .Or (a :: b :: rest) pos) (dOr f g) := by
  intro ρ σ F H Q S o
  refine wp_of (pe_or (pe_wp a) (pe_wp _)) (h ρ σ F H _ S (o.seq fun d F1 H1 v _ g1 r1 o1 => ?_))
  cases d with
  | bl b =>
    refine ⟨b, rd_bl r1, ?_⟩
    cases b with
    | false => exact h2 ρ σ F1 H1 Q (S.grow g1) o1
    | true => exact o1 F1 H1 _ (Grow.refl g1.fh) (.bl _)
  | _ => exact o1.elim
/-- a value's truth -/
def truD : D → Res Bool
  | .non => .ok false
  | .bl b => .ok b
  | .int i => .ok (i != 0)
  | .tup ds => .ok (!ds.isEmpty)
  | .lst ds => .ok (!ds.isEmpty)
  | .klst ds => .ok (!ds.isEmpty)
  | _ => .stuck
theorem reps_emp {K : PySem.W.Frag} {F : Hp} {vs : List V} {ds : List D} (r : Reps K F vs ds) : vs.isEmpty = ds.isEmpty := by cases r <;> rfl
theorem tru_of {K : PySem.W.Frag} {F H : Hp} {v : V} {d : D} {k : Bool} (s : Same F H) (r : Rd' K F H v d) (e : truD d = .ok k) : TruV K v H k := by
  cases d with
  | non => rw [rd_non r]; cases e; rfl
  | bl b => rw [rd_bl r]; cases e; rfl
  | int i => rw [rd_int r]; cases e; rfl
  | tup ds => cases e; obtain ⟨a, vs, rfl, h1, h2, h3, h4⟩ := rd_tup s r; exact .inr (.inl ⟨vs, h2, by rw [reps_emp h4]⟩)
  | lst ds => cases e; obtain ⟨a, vs, rfl, h1, h2, h3⟩ := rd_lst s r; exact .inl ⟨vs, SqL.of h1, by rw [reps_emp h3]⟩
  | klst ds => cases e; obtain ⟨a, vs, rfl, h1, h2, h3⟩ := rd_klst s r; exact .inl ⟨vs, h1, by rw [reps_emp h3]⟩
  | _ => cases e
def notD (d : D) : Res D := (truD d).bind fun b => .ok (.bl (!b))
theorem ej_not {a : Expr} {f : Den} (h : ER X c a f) : EJ X c (.UnaryOp .Not a pos) (dUn notD f) := by
  intro ρ σ F H Q S o
  refine wp_of (pe_notT (pe_wp a)) (h ρ σ F H _ S (o.seq fun d F1 H1 v _ g1 r1 o1 => ?_))
  unfold notD at o1
  cases e : truD d with
  | ok k => rw [e] at o1; exact ⟨k, tru_of g1.fh r1 e, o1 F1 H1 _ (Grow.refl g1.fh) (.bl _)⟩
  | exn x => exact absurd e (by cases d <;> (intro h; cases h))
  | stuck => rw [e] at o1; exact o1.elim
def dIf (t : En → Res Bool) (f g : Den) : Den := fun ρ => (t ρ).bind fun b => if b = true then f ρ else g ρ
theorem ej_if {q a b : Expr} {t : En → Res Bool} {f g : Den} (ht : TJ X c q t) (ha : EJ X c a f) (hb : EJ X c b g) : EJ X c (.IfExp q a b pos) (dIf t f g) := by
  intro ρ σ F H Q S o
  refine wp_of (pe_ifExp (pt_wp q) (pe_wp a) (pe_wp b)) (ht ρ σ F H _ S (o.seq fun d F1 H1 v _ g1 r1 o1 => ?_))
  subst r1
  cases v with
  | true => rw [if_pos rfl] at o1 ⊢; exact ha ρ σ F1 H1 Q (S.grow g1) o1
  | false => rw [if_neg Bool.false_ne_true] at o1 ⊢; exact hb ρ σ F1 H1 Q (S.grow g1) o1
/-- a op b op' e -/
def dChain (g g' : D → D → Res D) (fa fb fc : Den) : Den := fun ρ => (fa ρ).bind fun a => (fb ρ).bind fun b => (g a b).bind fun z => (asB z).bind fun k => if k = true then (fc ρ).bind fun d => g' b d else .ok (.bl false)

/-! ### calls -/
def CallD (X : Cx) (f : Value) (g : List D → Res D) : Prop := ∀ ds, ∃ r, CallR X f r ∧ ∀ vs F H Q, Same F H → Rds X.K F H vs ds → OutV X F H (g ds) Q → r vs H Q
def NoX1 (g : List D → Res D) : Prop := ∀ ds x, g ds ≠ .exn x
theorem callNo {f : Value} : CallR X f (fun _ _ _ => False) := fun _ _ _ _ _ _ _ _ _ h => h.elim
def dCall (g : List D → Res D) (fs : DenA) : Den := fun ρ => (fs ρ).bind g
theorem call_core {f : Value} {g : List D → Res D} (hc : CallD X f g) (nx : NoX1 g) {e : Expr} {es : List Expr} {fs : DenA} (ha : AR X c es fs) (rule : ∀ r, CallR X f r → PE X e (tCB r (WpA X es))) : EJ X c e (dCall g fs) := by
  intro ρ σ F H Q S o
  cases e1 : fs ρ with
  | ok ds =>
    obtain ⟨r, hr, hq⟩ := hc ds
    refine wp_of (rule r hr) (ha ρ σ F H _ S (o.seq fun d F1 H1 vs q1 g1 r1 o1 => ?_))
    rw [e1] at q1; cases q1
    exact hq vs F1 H1 Q g1.fh r1 (o1.v (nx _))
  | exn x =>
    refine wp_of (rule _ callNo) (ha ρ σ F H _ S ?_)
    unfold dCall at o
    rw [e1] at o ⊢; exact o
  | stuck => unfold dCall at o; rw [e1] at o; exact o.elim
theorem ej_callB {id : String} {g : List D → Res D} {x : Str} {p : Pos} {e : Expr} {es : List Expr} {fs : DenA} (hc : CallD X (.builtin id) g) (nx : NoX1 g) (hm : X.mg x = none) (ha : AR X c (e :: es) fs) (hg : Gl X x := by rfl) (hv : bootBuiltins x = some (.builtin id) := by decide +kernel)
    (hn : x ≠ "__name__" := by decide) (hdb : (x == ("__debug__" : Str)) = false := by decide) (he : starEach (e :: es) X.env = (false, eval e X.env) :: starEach es X.env := by first | with_reducible exact st_c | with_reducible exact st_n | with_reducible exact st_b | with_reducible exact st_u | with_reducible exact st_s | with_reducible exact st_f | with_reducible exact st_t | with_reducible exact st_l | with_reducible exact st_q | with_reducible exact st_o | with_reducible exact st_i | with_reducible exact st_m | with_reducible exact st_a | with_reducible exact st_h | with_reducible exact st_g | with_reducible exact st_d | rfl) (hpl : (backTo pos (starEach es X.env)).any (·.1) = false := by ((repeat (first | with_reducible exact pl_0 | with_reducible refine Eq.trans pl_c ?_ | with_reducible refine Eq.trans pl_n ?_ | with_reducible refine Eq.trans pl_b ?_ | with_reducible refine Eq.trans pl_u ?_ | with_reducible refine Eq.trans pl_s ?_ | with_reducible refine Eq.trans pl_f ?_ | with_reducible refine Eq.trans pl_t ?_ | with_reducible refine Eq.trans pl_l ?_ | with_reducible refine Eq.trans pl_q ?_ | with_reducible refine Eq.trans pl_o ?_ | with_reducible refine Eq.trans pl_i ?_ | with_reducible refine Eq.trans pl_m ?_ | with_reducible refine Eq.trans pl_a ?_ | with_reducible refine Eq.trans pl_h ?_ | with_reducible refine Eq.trans pl_g ?_ | with_reducible refine Eq.trans pl_d ?_)); first | done | rfl)) :
    EJ X c (.Call (.Name x p) (e :: es) [] pos) (dCall g fs) := call_core hc nx ha fun _ hr => pe_callB hr hg hm hv (pa_wp _) hn hdb he hpl
theorem ej_callTy {T : String} {g : List D → Res D} {x : Str} {p : Pos} {e : Expr} {es : List Expr} {fs : DenA} (hc : CallD X (.type T) g) (nx : NoX1 g) (hm : X.mg x = none) (ha : AR X c (e :: es) fs) (hg : Gl X x := by rfl) (hv : bootBuiltins x = some (.type T) := by decide +kernel)
    (hn : x ≠ "__name__" := by decide) (hdb : (x == ("__debug__" : Str)) = false := by decide) (he : starEach (e :: es) X.env = (false, eval e X.env) :: starEach es X.env := by first | with_reducible exact st_c | with_reducible exact st_n | with_reducible exact st_b | with_reducible exact st_u | with_reducible exact st_s | with_reducible exact st_f | with_reducible exact st_t | with_reducible exact st_l | with_reducible exact st_q | with_reducible exact st_o | with_reducible exact st_i | with_reducible exact st_m | with_reducible exact st_a | with_reducible exact st_h | with_reducible exact st_g | with_reducible exact st_d | rfl) (hpl : (backTo pos (starEach es X.env)).any (·.1) = false := by ((repeat (first | with_reducible exact pl_0 | with_reducible refine Eq.trans pl_c ?_ | with_reducible refine Eq.trans pl_n ?_ | with_reducible refine Eq.trans pl_b ?_ | with_reducible refine Eq.trans pl_u ?_ | with_reducible refine Eq.trans pl_s ?_ | with_reducible refine Eq.trans pl_f ?_ | with_reducible refine Eq.trans pl_t ?_ | with_reducible refine Eq.trans pl_l ?_ | with_reducible refine Eq.trans pl_q ?_ | with_reducible refine Eq.trans pl_o ?_ | with_reducible refine Eq.trans pl_i ?_ | with_reducible refine Eq.trans pl_m ?_ | with_reducible refine Eq.trans pl_a ?_ | with_reducible refine Eq.trans pl_h ?_ | with_reducible refine Eq.trans pl_g ?_ | with_reducible refine Eq.trans pl_d ?_)); first | done | rfl)) :
    EJ X c (.Call (.Name x p) (e :: es) [] pos) (dCall g fs) := call_core hc nx ha fun _ hr => pe_callTy hr hg hm hv (pa_wp _) hn hdb he hpl

/-- a def's promise by its denotation -/
def spOf (K : PySem.W.Frag) (mg : Str → Option Value) (n : Nat) (g : List D → Res D) : Sp := fun vs H Q E => vs.length = n ∧ ∃ F ds, St F H ∧ Reps K F vs ds ∧
  match g ds with
  | .ok d => ∀ F' H' v, Grow F H F' H' → Rep K F' v d → Q v H'
  | .exn x => ∀ F' H' cls dd, Grow F H F' H' → XR mg x cls dd → E cls dd H'
  | .stuck => False
/-- what a call of f asks of the context -/
structure FnD (P : Program) (w : World) (K : PySem.W.Frag) (mg : Str → Option Value) (base : Heap) (k : Nat) (x : Str) (n : Nat) (g : List D → Res D) : Prop where
  ok : ∃ f fd ps dvs ds dd g', FnOk P w K mg base (L2.CX P w) k f fd ps (spOf K mg ps.length g') ∧ mg x = some (.ref f) ∧ PySem.W.keepIn K (.ref f) = true ∧ Binds K fd ps ds ∧ Vals dvs ds ∧ (∀ F, Reps K F dvs dd) ∧ n + dd.length = ps.length ∧ ∀ args, g args = g' (args ++ dd)
/-- the callee runs, its defaults behind the written arguments -/
theorem run_fnSD {CX : CXT} {k : Nat} {f : Addr} {fd : FuncData} {ps : List Str} {sp : Sp} {E : L2.St → XK} {pins : List (Addr × Obj)} {σ : L2.St} {H : Hp} {s : Shared} {Q : VK} {us : List Value} {vs : List V} {dvs : List V} {ds : List Value} (F : FnOk X.prog X.w X.K X.mg X.base CX k f fd ps sp) (hr : Room k X.A) (hb : Binds X.K fd ps ds) (hd : Vals dvs ds) (hx : PassesAt CX X σ (E σ))
    (I : Inv X pins σ H s) (r : Vals vs us) (h : sp (vs ++ dvs) H Q (E σ)) : wpAny (model X.prog X.w) X.A (call (.ref f) us) (EP X pins σ Q) X.xe s := by
  have r2 : Vals (vs ++ dvs) (us ++ ds) := r.append hd
  have hl : (us ++ ds).length = ps.length := by rw [← r2.length]; exact F.len _ _ _ _ h
  refine wpAny_call (codeAny_mono (F.run X.A X.stack s H ⟨us, []⟩ (us ++ ds) (vs ++ dvs) Q (E σ) hr I.env0 (hb s us I.kIn hl) r2 h) fun r s' hq => ?_)
  cases r with
  | error e => exact hx pins H s e s' I hq
  | ok fl =>
    cases fl with
    | ret u => exact I.after hq
    | next => exact False.elim hq
    | brk => exact False.elim hq
    | cont => exact False.elim hq
theorem pe_callSD {CX : CXT} {k : Nat} {f : Addr} {fd : FuncData} {ps : List Str} {sp : Sp} {E : L2.St → XK} {x : Str} {p pos : Pos} {e : Expr} {es : List Expr} {t : TA} {dvs : List V} {ds : List Value} (F : FnOk X.prog X.w X.K X.mg X.base CX k f fd ps sp) (hr : Room k X.A) (hg : Gl X x) (hm : X.mg x = some (.ref f)) (hk : PySem.W.keepIn X.K (.ref f) = true) (hb : Binds X.K fd ps ds) (hd : Vals dvs ds) (hx : ∀ σ, PassesAt CX X σ (E σ))
    (ha : PA X (e :: es) t) (hdb : (x == ("__debug__" : Str)) = false := by decide) (he : starEach (e :: es) X.env = (false, eval e X.env) :: starEach es X.env := by first | with_reducible exact st_c | with_reducible exact st_n | with_reducible exact st_b | with_reducible exact st_u | with_reducible exact st_s | with_reducible exact st_f | with_reducible exact st_t | with_reducible exact st_l | with_reducible exact st_q | with_reducible exact st_o | with_reducible exact st_i | with_reducible exact st_m | with_reducible exact st_a | with_reducible exact st_h | with_reducible exact st_g | with_reducible exact st_d | rfl) (hpl : (backTo pos (starEach es X.env)).any (·.1) = false := by ((repeat (first | with_reducible exact pl_0 | with_reducible refine Eq.trans pl_c ?_ | with_reducible refine Eq.trans pl_n ?_ | with_reducible refine Eq.trans pl_b ?_ | with_reducible refine Eq.trans pl_u ?_ | with_reducible refine Eq.trans pl_s ?_ | with_reducible refine Eq.trans pl_f ?_ | with_reducible refine Eq.trans pl_t ?_ | with_reducible refine Eq.trans pl_l ?_ | with_reducible refine Eq.trans pl_q ?_ | with_reducible refine Eq.trans pl_o ?_ | with_reducible refine Eq.trans pl_i ?_ | with_reducible refine Eq.trans pl_m ?_ | with_reducible refine Eq.trans pl_a ?_ | with_reducible refine Eq.trans pl_h ?_ | with_reducible refine Eq.trans pl_g ?_ | with_reducible refine Eq.trans pl_d ?_)); first | done | rfl)) :
    PE X (.Call (.Name x p) (e :: es) [] pos) (fun σ H Q => t σ H fun vs H1 => sp (vs ++ dvs) H1 Q (E σ)) := by
  refine ⟨fun pins s σ H Q I h => ?_⟩
  refine wpAny_Call_Name_kw (ld_glob I hg hm ?_ hdb)
  refine PySem.W.callWith_K (h₀ := X.base) I.ok.mod.kin hk (thn (ha.run pos pins s σ H _ I h) fun us s1 ⟨vs, H1, I1, r, q⟩ => ⟨I1.kIn, ?_⟩) he hpl
  exact run_fnSD F hr hb hd (hx σ) I1 r q
theorem pe_callSD0 {CX : CXT} {k : Nat} {f : Addr} {fd : FuncData} {ps : List Str} {sp : Sp} {E : L2.St → XK} {x : Str} {p pos : Pos} {dvs : List V} {ds : List Value} (F : FnOk X.prog X.w X.K X.mg X.base CX k f fd ps sp) (hr : Room k X.A) (hg : Gl X x) (hm : X.mg x = some (.ref f)) (hk : PySem.W.keepIn X.K (.ref f) = true) (hb : Binds X.K fd ps ds) (hd : Vals dvs ds) (hx : ∀ σ, PassesAt CX X σ (E σ))
    (hdb : (x == ("__debug__" : Str)) = false := by decide) : PE X (.Call (.Name x p) [] [] pos) (fun σ H Q => sp dvs H Q (E σ)) := by
  refine ⟨fun pins s σ H Q I h => ?_⟩
  refine wpAny_Call_Name_kw (ld_glob I hg hm ?_ hdb)
  exact PySem.W.callWith_K0 I.kIn hk (run_fnSD (us := []) (vs := []) F hr hb hd (hx σ) I .nil h)
class ALen (fs : DenA) (n : Nat) : Prop where
  len : ∀ ρ ds, fs ρ = .ok ds → ds.length = n
instance : ALen aNil 0 := ⟨fun ρ ds h => by cases h; rfl⟩
instance {f : Den} {g : DenA} {n : Nat} [h : ALen g n] : ALen (aCons f g) (n + 1) := ⟨fun ρ ds e => by
  unfold aCons at e
  cases e1 : f ρ with
  | ok d =>
    rw [e1] at e
    cases e2 : g ρ with
    | ok es => simp only [Res.bind, e2] at e; cases e; rw [List.length_cons, h.len ρ es e2]
    | exn x => simp only [Res.bind, e2] at e; cases e
    | stuck => simp only [Res.bind, e2] at e; cases e
  | exn x => rw [e1] at e; cases e
  | stuck => rw [e1] at e; cases e⟩
theorem ej_call {k n : Nat} {x : Str} {g : List D → Res D} {p : Pos} {e : Expr} {es : List Expr} {fs : DenA} (hf : FnD X.prog X.w X.K X.mg X.base k x n g) (hr : Room k X.A) (tk : Takes X c.W) (ha : AJ X c (e :: es) fs) [hl : ALen fs n] (hg : Gl X x := by rfl)
    (hdb : (x == ("__debug__" : Str)) = false := by decide) (he : starEach (e :: es) X.env = (false, eval e X.env) :: starEach es X.env := by first | with_reducible exact st_c | with_reducible exact st_n | with_reducible exact st_b | with_reducible exact st_u | with_reducible exact st_s | with_reducible exact st_f | with_reducible exact st_t | with_reducible exact st_l | with_reducible exact st_q | with_reducible exact st_o | with_reducible exact st_i | with_reducible exact st_m | with_reducible exact st_a | with_reducible exact st_h | with_reducible exact st_g | with_reducible exact st_d | rfl) (hpl : (backTo pos (starEach es X.env)).any (·.1) = false := by ((repeat (first | with_reducible exact pl_0 | with_reducible refine Eq.trans pl_c ?_ | with_reducible refine Eq.trans pl_n ?_ | with_reducible refine Eq.trans pl_b ?_ | with_reducible refine Eq.trans pl_u ?_ | with_reducible refine Eq.trans pl_s ?_ | with_reducible refine Eq.trans pl_f ?_ | with_reducible refine Eq.trans pl_t ?_ | with_reducible refine Eq.trans pl_l ?_ | with_reducible refine Eq.trans pl_q ?_ | with_reducible refine Eq.trans pl_o ?_ | with_reducible refine Eq.trans pl_i ?_ | with_reducible refine Eq.trans pl_m ?_ | with_reducible refine Eq.trans pl_a ?_ | with_reducible refine Eq.trans pl_h ?_ | with_reducible refine Eq.trans pl_g ?_ | with_reducible refine Eq.trans pl_d ?_)); first | done | rfl)) :
    EJ X c (.Call (.Name x p) (e :: es) [] pos) (dCall g fs) := by
  obtain ⟨f, fd, ps, dvs, ds', dd, g', FO, hm, hk, hb, hd, hdd, hn, hgg⟩ := hf.ok
  intro ρ σ F H Q S o
  refine wp_of (pe_callSD FO hr hg hm hk hb hd (fun σ => passAt tk σ) (pa_wp _) hdb he hpl) (ha ρ σ F H _ S (o.seq fun ds F1 H1 vs q1 g1 r1 o1 => ?_))
  have l1 := hl.len ρ ds q1
  have l2 := (hdd F1).length
  refine ⟨by rw [List.length_append, r1.length]; omega, F1, ds ++ dd, (S.grow g1).st, r1.append (hdd F1), ?_⟩
  rw [hgg] at o1
  cases e2 : g' (ds ++ dd) with
  | ok d => rw [e2] at o1; exact o1
  | exn x => rw [e2] at o1; exact o1
  | stuck => rw [e2] at o1; exact o1.elim
def dCall0 (g : List D → Res D) : Den := fun _ => g []
theorem ej_call0 {k : Nat} {x : Str} {g : List D → Res D} {p : Pos} (hf : FnD X.prog X.w X.K X.mg X.base k x 0 g) (hr : Room k X.A) (tk : Takes X c.W) (hg : Gl X x := by rfl)
    (hdb : (x == ("__debug__" : Str)) = false := by decide) : EJ X c (.Call (.Name x p) [] [] pos) (dCall0 g) := by
  obtain ⟨f, fd, ps, dvs, ds', dd, g', FO, hm, hk, hb, hd, hdd, hn, hgg⟩ := hf.ok
  intro ρ σ F H Q S o
  refine wp_of (pe_callSD0 FO hr hg hm hk hb hd (fun σ => passAt tk σ) hdb) ?_
  have l2 := (hdd F).length
  refine ⟨by omega, F, dd, S.st, hdd F, ?_⟩
  have o1 : Out X c σ F H (fun F' _ v d => Rep X.K F' v d) (g []) Q := o
  rw [hgg, List.nil_append] at o1
  cases e2 : g' dd with
  | ok d => rw [e2] at o1; exact o1
  | exn x => rw [e2] at o1; exact o1
  | stuck => rw [e2] at o1; exact o1.elim
/-- a op b op' e -/
theorem chain_core {op op' : CmpOp} {g g' : D → D → Res D} {a b e : Expr} {fa fb fe : Den} (ho : OpD X (compareOp op) g) (nx : NoX2 g) (ho' : OpD X (compareOp op') g') (nx' : NoX2 g') (ha : ER X c a fa) (hb : ER X c b fb) (he : ER X c e fe) (ρ : En) :
    ∃ r r', OpR X (compareOp op) r ∧ OpR X (compareOp op') r' ∧ ∀ σ F H Q, Sim X.K c.F0 c.H0 F H ρ σ → Out X c σ F H (fun F' _ v d => Rep X.K F' v d) (dChain g g' fa fb fe ρ) Q → tChain r r' (Wp X a) (Wp X b) (Wp X e) σ H Q := by
  obtain ⟨r, hr, hq, r', hr', hq'⟩ : ∃ r : R2, OpR X (compareOp op) r ∧ (∀ d1 d2, fa ρ = .ok d1 → fb ρ = .ok d2 → ∀ x y F H Q, Same F H → Rd' X.K F H x d1 → Rd' X.K F H y d2 → OutV X F H (g d1 d2) Q → r x y H Q) ∧
      ∃ r' : R2, OpR X (compareOp op') r' ∧ (∀ d1 d2, fb ρ = .ok d1 → fe ρ = .ok d2 → ∀ x y F H Q, Same F H → Rd' X.K F H x d1 → Rd' X.K F H y d2 → OutV X F H (g' d1 d2) Q → r' x y H Q) := by
    have one : ∀ {f : Value → Value → Sem Value} {g : D → D → Res D} (h : OpD X f g) (u v : Res D), ∃ r : R2, OpR X f r ∧ ∀ d1 d2, u = .ok d1 → v = .ok d2 → ∀ x y F H Q, Same F H → Rd' X.K F H x d1 → Rd' X.K F H y d2 → OutV X F H (g d1 d2) Q → r x y H Q := fun {f g} h u v => by
      cases u with
      | ok d1 =>
        cases v with
        | ok d2 => obtain ⟨r, h1, h2⟩ := h d1 d2; exact ⟨r, h1, fun a b e1 e2 => by cases e1; cases e2; exact h2⟩
        | exn x => exact ⟨_, opNo, fun _ _ _ e => nomatch e⟩
        | stuck => exact ⟨_, opNo, fun _ _ _ e => nomatch e⟩
      | exn x => exact ⟨_, opNo, fun _ _ e => nomatch e⟩
      | stuck => exact ⟨_, opNo, fun _ _ e => nomatch e⟩
    obtain ⟨r, h1, h2⟩ := one ho (fa ρ) (fb ρ)
    obtain ⟨r', k1, k2⟩ := one ho' (fb ρ) (fe ρ)
    exact ⟨r, h1, h2, r', k1, k2⟩
  refine ⟨r, r', hr, hr', fun σ F H Q S o => ?_⟩
  refine (ha ρ σ F H _ S (o.seq fun d1 F1 H1 v q1 g1 r1 o1 => ?_))
  refine hb ρ σ F1 H1 _ (S.grow g1) (o1.seq fun d2 F2 H2 u q2 g2 r2 o2 => ?_)
  cases e2 : g d1 d2 with
  | ok z =>
    rw [e2] at o2
    cases z with
    | bl k =>
      refine hq d1 d2 q1 q2 v u F2 H2 _ g2.fh (r1.grow g2) r2 ?_
      rw [e2]
      intro F3 H3 z g3 rz
      cases rz
      refine ⟨k, rfl, ?_⟩
      cases k with
      | true =>
        rw [if_pos rfl]
        have o3 : Out X c σ F2 H2 (fun F' _ v d => Rep X.K F' v d) ((fe ρ).bind fun d => g' d2 d) Q := o2
        have o4 : Out X c σ F3 H3 (fun F' _ v d => Rep X.K F' v d) ((fe ρ).bind fun d => g' d2 d) Q := by
          cases e5 : (fe ρ).bind fun d => g' d2 d with
          | ok d => rw [e5] at o3; exact fun F' H' v gg rr => o3 F' H' v (g3.trans gg) rr
          | exn x => rw [e5] at o3; exact fun F' H' cls dd gg rr => o3 F' H' cls dd (g3.trans gg) rr
          | stuck => rw [e5] at o3; exact o3.elim
        refine he ρ σ F3 H3 _ (((S.grow g1).grow g2).grow g3) (o4.seq fun d3 F4 H4 y q4 g4 r4 o5 => ?_)
        exact hq' d2 d3 q2 q4 u y F4 H4 Q g4.fh ((r2.grow g3).grow g4) r4 (o5.v (nx' _ _))
      | false =>
        rw [if_neg Bool.false_ne_true]
        exact o2 F3 H3 _ g3 (.bl _)
    | _ => exact o2.elim
  | exn x => exact absurd e2 (nx _ _ _)
  | stuck => rw [e2] at o2; exact o2.elim
theorem ej_chain {op op' : CmpOp} {g g' : D → D → Res D} {a b e : Expr} {fa fb fe : Den} (ho : OpD X (compareOp op) g) (nx : NoX2 g) (ho' : OpD X (compareOp op') g') (nx' : NoX2 g') (ha : ER X c a fa) (hb : ER X c b fb) (he : ER X c e fe)
    (hb2 : behindInMarks op' e = false := by first | rfl | exact nomark _) : EJ X c (.Compare a [op, op'] [b, e] pos) (dChain g g' fa fb fe) := by
  intro ρ σ F H Q S o
  obtain ⟨r, r', hr, hr', h⟩ := chain_core ho nx ho' nx' ha hb he ρ
  exact wp_of (pe_chain hr hr' (pe_wp a) (pe_wp b) (pe_wp e) hb2) (h σ F H Q S o)
theorem tj_chain {op op' : CmpOp} {g g' : D → D → Res D} {a b e : Expr} {fa fb fe : Den} (ho : OpD X (compareOp op) g) (nx : NoX2 g) (ho' : OpD X (compareOp op') g') (nx' : NoX2 g') (ha : ER X c a fa) (hb : ER X c b fb) (he : ER X c e fe)
    (hb2 : behindInMarks op' e = false := by first | rfl | exact nomark _) : TJ X c (.Compare a [op, op'] [b, e] pos) (tVal (dChain g g' fa fb fe)) := by
  intro ρ σ F H Q S o
  obtain ⟨r, r', hr, hr', h⟩ := chain_core ho nx ho' nx' ha hb he ρ
  exact wpt_of (pt_chain hr hr' (pe_wp a) (pe_wp b) (pe_wp e) hb2) (h σ F H _ S ((asB_ok o).mono fun _ _ _ _ _ r => .inl r))
/-- xs[::-1] of a list -/
def revD : D → Res D
  | .lst ds => .ok (.lst ds.reverse)
  | .klst ds => .ok (.lst ds.reverse)
  | _ => .stuck
theorem ej_rev {e : Expr} {f : Den} {k : Nat} {p1 p2 p3 : Pos} (he : ER X c e f) : EJ X c (.Subscript e (.Slice none none (some (.UnaryOp .USub (.Constant (.int 1) k p1) p2)) p3) pos) (dUn revD f) := by
  intro ρ σ F H Q S o
  refine wp_of (pe_revL (pe_wp e)) (he ρ σ F H _ S (o.seq fun d F1 H1 v _ g1 r1 o1 => ?_))
  cases d with
  | lst ds =>
    obtain ⟨a, vs, rfl, h1, h3, h4⟩ := rd_lst g1.fh r1
    exact ⟨a, vs, rfl, SqL.of h1, fun p hp => OutV.newL (X := X) (ds := ds.reverse) o1 g1.fh (by rw [List.length_reverse]; exact h3) h4.reverse p hp⟩
  | klst ds =>
    obtain ⟨a, vs, rfl, h1, h3, h4⟩ := rd_klst g1.fh r1
    exact ⟨a, vs, rfl, h1, fun p hp => OutV.newL (X := X) (ds := ds.reverse) o1 g1.fh (by rw [List.length_reverse]; exact h3) h4.reverse p hp⟩
  | _ => exact o1.elim
end
end FV

set_option maxHeartbeats 4000000
/-! FV4: statements, loops, comprehensions, defs. -/
namespace FV
open PySem PySem.Spec PyProof.Rows L2
variable [Tbs]

/-! ### the slots change -/
section
variable {K : PySem.W.Frag} {F0 H0 F H : Hp} {ρ : En} {σ : L2.St}
theorem getset {α : Type} {l : List α} {i j : Nat} {x y : α} (h : (l.set i x)[j]? = some y) : (i = j ∧ i < l.length ∧ x = y) ∨ (i ≠ j ∧ l[j]? = some y) := by
  by_cases e : i = j
  · subst e
    by_cases z : i < l.length
    · rw [List.getElem?_set_self z] at h; exact .inl ⟨rfl, z, Option.some.inj h⟩
    · rw [List.getElem?_eq_none (by simpa using z)] at h; cases h
  · rw [List.getElem?_set_ne e] at h; exact .inr ⟨e, h⟩
theorem Sim.set (S : Sim K F0 H0 F H ρ σ) (i : Nat) {v : V} {d : D} (r : Rep K F v d) : Sim K F0 H0 F H (ρ.set i (some (.frz d))) (σ.set i (some v)) where
  g := S.g
  len := by rw [List.length_set, List.length_set]; exact S.len
  frz := fun j e h => by
    rcases getset h with ⟨rfl, z, q⟩ | ⟨n, h⟩
    · cases q; exact ⟨v, by rw [List.getElem?_set_self (by rw [← S.len]; exact z)], r⟩
    · obtain ⟨w, h1, h2⟩ := S.frz j e h
      exact ⟨w, by rw [List.getElem?_set_ne n]; exact h1, h2⟩
  own := fun j es h => by
    rcases getset h with ⟨rfl, z, q⟩ | ⟨n, h⟩
    · cases q
    · obtain ⟨a, vs, h1, h2⟩ := S.own j es h
      exact ⟨a, vs, by rw [List.getElem?_set_ne n]; exact h1, h2⟩
  dis := fun j k es fs a hn h1 h2 h3 h4 => by
    rcases getset h1 with ⟨rfl, z, q⟩ | ⟨n1, h1⟩
    · cases q
    · rcases getset h2 with ⟨rfl, z, q⟩ | ⟨n2, h2⟩
      · cases q
      · rw [List.getElem?_set_ne n1] at h3
        rw [List.getElem?_set_ne n2] at h4
        exact S.dis j k es fs a hn h1 h2 h3 h4
  mu := fun j e h => by
    rcases getset h with ⟨rfl, z, q⟩ | ⟨n, h⟩
    · cases q
    · obtain ⟨a, o, h1, h2⟩ := S.mu j e h
      exact ⟨a, o, by rw [List.getElem?_set_ne n]; exact h1, h2⟩
  mdis := fun j k es fs a hn h1 h2 h3 h4 => by
    rcases getset h1 with ⟨rfl, z, q⟩ | ⟨n1, h1⟩
    · cases q
    · rcases getset h2 with ⟨rfl, z, q⟩ | ⟨n2, h2⟩
      · cases q
      · rw [List.getElem?_set_ne n1] at h3
        rw [List.getElem?_set_ne n2] at h4
        exact S.mdis j k es fs a hn h1 h2 h3 h4
theorem Sim.wipe1 (S : Sim K F0 H0 F H ρ σ) (i : Nat) : Sim K F0 H0 F H (ρ.set i none) (σ.set i none) where
  g := S.g
  len := by rw [List.length_set, List.length_set]; exact S.len
  frz := fun j e h => by
    rcases getset h with ⟨rfl, z, q⟩ | ⟨n, h⟩
    · cases q
    · obtain ⟨w, h1, h2⟩ := S.frz j e h
      exact ⟨w, by rw [List.getElem?_set_ne n]; exact h1, h2⟩
  own := fun j es h => by
    rcases getset h with ⟨rfl, z, q⟩ | ⟨n, h⟩
    · cases q
    · obtain ⟨a, vs, h1, h2⟩ := S.own j es h
      exact ⟨a, vs, by rw [List.getElem?_set_ne n]; exact h1, h2⟩
  dis := fun j k es fs a hn h1 h2 h3 h4 => by
    rcases getset h1 with ⟨rfl, z, q⟩ | ⟨n1, h1⟩
    · cases q
    · rcases getset h2 with ⟨rfl, z, q⟩ | ⟨n2, h2⟩
      · cases q
      · rw [List.getElem?_set_ne n1] at h3
        rw [List.getElem?_set_ne n2] at h4
        exact S.dis j k es fs a hn h1 h2 h3 h4
  mu := fun j e h => by
    rcases getset h with ⟨rfl, z, q⟩ | ⟨n, h⟩
    · cases q
    · obtain ⟨a, o, h1, h2⟩ := S.mu j e h
      exact ⟨a, o, by rw [List.getElem?_set_ne n]; exact h1, h2⟩
  mdis := fun j k es fs a hn h1 h2 h3 h4 => by
    rcases getset h1 with ⟨rfl, z, q⟩ | ⟨n1, h1⟩
    · cases q
    · rcases getset h2 with ⟨rfl, z, q⟩ | ⟨n2, h2⟩
      · cases q
      · rw [List.getElem?_set_ne n1] at h3
        rw [List.getElem?_set_ne n2] at h4
        exact S.mdis j k es fs a hn h1 h2 h3 h4
theorem Sim.setOwn (S : Sim K F0 H0 F H ρ σ) (i : Nat) {a : Addr} {vs : List V} {ds : List D} (h1 : H a = some (.lst vs)) (h2 : F a = none) (h3 : FrN H0 a) (h4 : vs.length ≤ sizeLine) (h5 : Reps K F vs ds)
    (ha : ∀ (j : Nat) (es : List D), ρ[j]? = some (some (Sl.own es)) → σ[j]? = some (some (V.ref a)) → False) : Sim K F0 H0 F H (ρ.set i (some (.own ds))) (σ.set i (some (.ref a))) where
  g := S.g
  len := by rw [List.length_set, List.length_set]; exact S.len
  frz := fun j e h => by
    rcases getset h with ⟨rfl, z, q⟩ | ⟨n, h⟩
    · cases q
    · obtain ⟨w, h1, h2⟩ := S.frz j e h
      exact ⟨w, by rw [List.getElem?_set_ne n]; exact h1, h2⟩
  own := fun j es h => by
    rcases getset h with ⟨rfl, z, q⟩ | ⟨n, h⟩
    · cases q; exact ⟨a, vs, by rw [List.getElem?_set_self (by rw [← S.len]; exact z)], h1, h2, h3, h4, h5⟩
    · obtain ⟨b, ws, h1, h2⟩ := S.own j es h
      exact ⟨b, ws, by rw [List.getElem?_set_ne n]; exact h1, h2⟩
  dis := fun j k es fs b hn q1 q2 q3 q4 => by
    rcases getset q1 with ⟨rfl, z, q⟩ | ⟨n1, q1⟩
    · rcases getset q2 with ⟨rfl, _, _⟩ | ⟨n2, q2⟩
      · exact hn rfl
      · rw [List.getElem?_set_self (by rw [← S.len]; exact z)] at q3
        rw [List.getElem?_set_ne n2] at q4
        cases q3
        exact ha _ _ q2 q4
    · rw [List.getElem?_set_ne n1] at q3
      rcases getset q2 with ⟨rfl, z, q⟩ | ⟨n2, q2⟩
      · rw [List.getElem?_set_self (by rw [← S.len]; exact z)] at q4
        cases q4
        exact ha _ _ q1 q3
      · rw [List.getElem?_set_ne n2] at q4
        exact S.dis j k es fs b hn q1 q2 q3 q4
  mu := fun j e h => by
    rcases getset h with ⟨rfl, z, q⟩ | ⟨n, h⟩
    · cases q
    · obtain ⟨b, o, h1, h2⟩ := S.mu j e h
      exact ⟨b, o, by rw [List.getElem?_set_ne n]; exact h1, h2⟩
  mdis := fun j k es fs b hn h1 h2 h3 h4 => by
    rcases getset h1 with ⟨rfl, z, q⟩ | ⟨n1, h1⟩
    · cases q
    · rcases getset h2 with ⟨rfl, z, q⟩ | ⟨n2, h2⟩
      · cases q
      · rw [List.getElem?_set_ne n1] at h3
        rw [List.getElem?_set_ne n2] at h4
        exact S.mdis j k es fs b hn h1 h2 h3 h4
/-- a new dict or instance of the def's own -/
theorem Sim.setM (S : Sim K F0 H0 F H ρ σ) (i : Nat) {a : Addr} {o : HO} {d : D} (h1 : H a = some o) (h2 : ORep K F o d) (h3 : F a = none) (h4 : FrN H0 a) (h5 : ∀ vs, o ≠ .lst vs)
    (ha : ∀ (j : Nat) (e : D), ρ[j]? = some (some (Sl.mu e)) → σ[j]? = some (some (V.ref a)) → False) : Sim K F0 H0 F H (ρ.set i (some (.mu d))) (σ.set i (some (.ref a))) where
  g := S.g
  len := by rw [List.length_set, List.length_set]; exact S.len
  frz := fun j e h => by
    rcases getset h with ⟨rfl, z, q⟩ | ⟨n, h⟩
    · cases q
    · obtain ⟨w, h1, h2⟩ := S.frz j e h
      exact ⟨w, by rw [List.getElem?_set_ne n]; exact h1, h2⟩
  own := fun j es h => by
    rcases getset h with ⟨rfl, z, q⟩ | ⟨n, h⟩
    · cases q
    · obtain ⟨b, ws, h1, h2⟩ := S.own j es h
      exact ⟨b, ws, by rw [List.getElem?_set_ne n]; exact h1, h2⟩
  dis := fun j k es fs b hn h1 h2 h3 h4 => by
    rcases getset h1 with ⟨rfl, z, q⟩ | ⟨n1, h1⟩
    · cases q
    · rcases getset h2 with ⟨rfl, z, q⟩ | ⟨n2, h2⟩
      · cases q
      · rw [List.getElem?_set_ne n1] at h3
        rw [List.getElem?_set_ne n2] at h4
        exact S.dis j k es fs b hn h1 h2 h3 h4
  mu := fun j e h => by
    rcases getset h with ⟨rfl, z, q⟩ | ⟨n, h⟩
    · cases q; exact ⟨a, o, by rw [List.getElem?_set_self (by rw [← S.len]; exact z)], h1, h2, h3, h4, h5⟩
    · obtain ⟨b, o, h1, h2⟩ := S.mu j e h
      exact ⟨b, o, by rw [List.getElem?_set_ne n]; exact h1, h2⟩
  mdis := fun j k es fs b hn q1 q2 q3 q4 => by
    rcases getset q1 with ⟨rfl, z, q⟩ | ⟨n1, q1⟩
    · rcases getset q2 with ⟨rfl, _, _⟩ | ⟨n2, q2⟩
      · exact hn rfl
      · rw [List.getElem?_set_self (by rw [← S.len]; exact z)] at q3
        rw [List.getElem?_set_ne n2] at q4
        cases q3
        exact ha _ _ q2 q4
    · rw [List.getElem?_set_ne n1] at q3
      rcases getset q2 with ⟨rfl, z, q⟩ | ⟨n2, q2⟩
      · rw [List.getElem?_set_self (by rw [← S.len]; exact z)] at q4
        cases q4
        exact ha _ _ q1 q3
      · rw [List.getElem?_set_ne n2] at q4
        exact S.mdis j k es fs b hn q1 q2 q3 q4
/-- an own dict or instance is changed -/
theorem Sim.mutM (S : Sim K F0 H0 F H ρ σ) (i : Nat) {a : Addr} {d e : D} {o u : HO} (h : ρ[i]? = some (some (Sl.mu d))) (ha : σ[i]? = some (some (V.ref a))) (ho : H a = some o) (r : ORep K F u e) (nl : ∀ vs, u ≠ .lst vs) :
    Sim K F0 H0 F (upd H a u) (ρ.set i (some (.mu e))) σ := by
  obtain ⟨b, ws, k1, k2, k3, k4, k5, k6⟩ := S.mu i d h
  rw [ha] at k1; cases k1
  refine ⟨⟨S.g.f, S.g.h.mutM k5 k2 k3.mu, fun x o q => ?_, S.g.new, S.g.nt⟩, by rw [List.length_set]; exact S.len, fun j e hj => ?_, fun j fs hj => ?_, fun j k fs gs x hn q1 q2 q3 q4 => ?_, fun j fs hj => ?_, fun j k fs gs x hn q1 q2 q3 q4 => ?_⟩
  · rw [upd_ne (ne_of_none q k4)]; exact S.g.fh _ _ q
  · rcases getset hj with ⟨rfl, _, q⟩ | ⟨n, hj⟩
    · cases q
    · exact S.frz j e hj
  · rcases getset hj with ⟨rfl, _, q⟩ | ⟨n, hj⟩
    · cases q
    · obtain ⟨x, xs, m1, m2, m3⟩ := S.own j fs hj
      have ne : x ≠ a := fun e => by subst e; rw [k2] at m2; exact k6 _ (Option.some.inj m2)
      exact ⟨x, xs, m1, by rw [upd_ne ne]; exact m2, m3⟩
  · have back : ∀ (j : Nat) (fs : List D), (ρ.set i (some (Sl.mu e)))[j]? = some (some (Sl.own fs)) → ρ[j]? = some (some (Sl.own fs)) := fun j fs q => by
      rcases getset q with ⟨rfl, _, q⟩ | ⟨n, q⟩
      · cases q
      · exact q
    exact S.dis j k fs gs x hn (back j fs q1) (back k gs q2) q3 q4
  · rcases getset hj with ⟨rfl, _, q⟩ | ⟨n, hj⟩
    · cases q; exact ⟨a, u, ha, upd_same, r, k4, k5, nl⟩
    · obtain ⟨x, xs, m1, m2, m3⟩ := S.mu j fs hj
      have ne : x ≠ a := fun e => by subst e; exact S.mdis i j d fs _ n h hj ha m1
      exact ⟨x, xs, m1, by rw [upd_ne ne]; exact m2, m3⟩
  · have back : ∀ (j : Nat) (fs : D), (ρ.set i (some (Sl.mu e)))[j]? = some (some (Sl.mu fs)) → ∃ fs', ρ[j]? = some (some (Sl.mu fs')) := fun j fs q => by
      rcases getset q with ⟨rfl, _, _⟩ | ⟨n, q⟩
      · exact ⟨_, h⟩
      · exact ⟨_, q⟩
    obtain ⟨f1, p1⟩ := back j fs q1
    obtain ⟨f2, p2⟩ := back k gs q2
    exact S.mdis j k f1 f2 x hn p1 p2 q3 q4
/-- an own dict or instance is frozen: it stands as u from now on -/
theorem Sim.freezeM (S : Sim K F0 H0 F H ρ σ) (i : Nat) {a : Addr} {d e : D} {u : HO} (h : ρ[i]? = some (some (Sl.mu d))) (ha : σ[i]? = some (some (V.ref a))) (nu : NT u) (r : ∀ F', Same F F' → F' a = some u → Rep K F' (.ref a) e) :
    Same F (upd F a u) ∧ Sim K F0 H0 (upd F a u) (upd H a u) (ρ.set i (some (.frz e))) σ := by
  obtain ⟨b, ws, k1, k2, k3, k4, k5, k6⟩ := S.mu i d h
  rw [ha] at k1; cases k1
  have sm := same_upd (o := u) k4
  refine ⟨sm, ⟨S.g.f.trans sm, S.g.h.mutM k5 k2 k3.mu, fun x o q => ?_, fun x o1 n1 n3 nn => ?_, fun h => (S.g.nt h).upd nu⟩, by rw [List.length_set]; exact S.len, fun j e hj => ?_, fun j fs hj => ?_, fun j k fs gs x hn q1 q2 q3 q4 => ?_, fun j fs hj => ?_, fun j k fs gs x hn q1 q2 q3 q4 => ?_⟩
  · by_cases hx : x = a
    · subst hx; rw [upd_same] at q ⊢; exact q
    · rw [upd_ne hx] at q ⊢; exact S.g.fh _ _ q
  · have hx : x ≠ a := fun e => by subst e; exact k5 _ n1 nn.nt
    rw [upd_ne hx]; exact S.g.new x o1 n1 n3 nn
  · rcases getset hj with ⟨rfl, _, q⟩ | ⟨n, hj⟩
    · cases q; exact ⟨_, ha, r _ sm upd_same⟩
    · obtain ⟨w, m1, m2⟩ := S.frz j e hj
      exact ⟨w, m1, m2.mono sm⟩
  · rcases getset hj with ⟨rfl, _, q⟩ | ⟨n, hj⟩
    · cases q
    · obtain ⟨x, xs, m1, m2, m3, m4, m5, m6⟩ := S.own j fs hj
      have ne : x ≠ a := fun e => by subst e; rw [k2] at m2; exact k6 _ (Option.some.inj m2)
      exact ⟨x, xs, m1, by rw [upd_ne ne]; exact m2, by rw [upd_ne ne]; exact m3, m4, m5, m6.mono sm⟩
  · have back : ∀ (j : Nat) (fs : List D), (ρ.set i (some (Sl.frz e)))[j]? = some (some (Sl.own fs)) → ρ[j]? = some (some (Sl.own fs)) := fun j fs q => by
      rcases getset q with ⟨rfl, _, q⟩ | ⟨n, q⟩
      · cases q
      · exact q
    exact S.dis j k fs gs x hn (back j fs q1) (back k gs q2) q3 q4
  · rcases getset hj with ⟨rfl, _, q⟩ | ⟨n, hj⟩
    · cases q
    · obtain ⟨x, xs, m1, m2, m3, m4, m5⟩ := S.mu j fs hj
      have ne : x ≠ a := fun e => by subst e; exact S.mdis i j d fs _ n h hj ha m1
      exact ⟨x, xs, m1, by rw [upd_ne ne]; exact m2, m3.mono sm, by rw [upd_ne ne]; exact m4, m5⟩
  · have back : ∀ (j : Nat) (fs : D), (ρ.set i (some (Sl.frz e)))[j]? = some (some (Sl.mu fs)) → ρ[j]? = some (some (Sl.mu fs)) := fun j fs q => by
      rcases getset q with ⟨rfl, _, q⟩ | ⟨n, q⟩
      · cases q
      · exact q
    exact S.mdis j k fs gs x hn (back j fs q1) (back k gs q2) q3 q4
/-- an own list gets other items -/
theorem Sim.mut (S : Sim K F0 H0 F H ρ σ) (i : Nat) {a : Addr} {ds es : List D} {vs : List V} (h : ρ[i]? = some (some (Sl.own ds))) (ha : σ[i]? = some (some (V.ref a))) (z : vs.length ≤ sizeLine) (r : Reps K F vs es) :
    Sim K F0 H0 F (upd H a (.lst vs)) (ρ.set i (some (.own es))) σ := by
  obtain ⟨b, ws, k1, k2, k3, k4, k5, k6⟩ := S.own i ds h
  rw [ha] at k1; cases k1
  refine ⟨⟨S.g.f, S.g.h.mut k4 k2, fun x o q => ?_, S.g.new, S.g.nt⟩, by rw [List.length_set]; exact S.len, fun j e hj => ?_, fun j fs hj => ?_, fun j k fs gs x hn q1 q2 q3 q4 => ?_, fun j fs hj => ?_, fun j k fs gs x hn q1 q2 q3 q4 => ?_⟩
  · rw [upd_ne (ne_of_none q k3)]; exact S.g.fh _ _ q
  · rcases getset hj with ⟨rfl, _, q⟩ | ⟨n, hj⟩
    · cases q
    · exact S.frz j e hj
  · rcases getset hj with ⟨rfl, _, q⟩ | ⟨n, hj⟩
    · cases q; exact ⟨a, vs, ha, upd_same, k3, k4, z, r⟩
    · obtain ⟨x, xs, m1, m2, m3⟩ := S.own j fs hj
      have ne : x ≠ a := fun e => by subst e; exact S.dis i j ds fs _ n h hj ha m1
      exact ⟨x, xs, m1, by rw [upd_ne ne]; exact m2, m3⟩
  · have back : ∀ (j : Nat) (fs : List D), (ρ.set i (some (Sl.own es)))[j]? = some (some (Sl.own fs)) → ∃ fs', ρ[j]? = some (some (Sl.own fs')) := fun j fs q => by
      rcases getset q with ⟨rfl, _, _⟩ | ⟨n, q⟩
      · exact ⟨_, h⟩
      · exact ⟨_, q⟩
    obtain ⟨f1, p1⟩ := back j fs q1
    obtain ⟨f2, p2⟩ := back k gs q2
    exact S.dis j k f1 f2 x hn p1 p2 q3 q4
  · rcases getset hj with ⟨rfl, _, q⟩ | ⟨n, hj⟩
    · cases q
    · obtain ⟨x, xs, m1, m2, m3, m4, m5, m6⟩ := S.mu j fs hj
      have ne : x ≠ a := fun e => by subst e; rw [k2] at m2; exact m6 _ (Option.some.inj m2).symm
      exact ⟨x, xs, m1, by rw [upd_ne ne]; exact m2, m3, m4, m5, m6⟩
  · have back : ∀ (j : Nat) (fs : D), (ρ.set i (some (Sl.own es)))[j]? = some (some (Sl.mu fs)) → ρ[j]? = some (some (Sl.mu fs)) := fun j fs q => by
      rcases getset q with ⟨rfl, _, q⟩ | ⟨n, q⟩
      · cases q
      · exact q
    exact S.mdis j k fs gs x hn (back j fs q1) (back k gs q2) q3 q4
/-- an own list is frozen -/
theorem Sim.freeze (S : Sim K F0 H0 F H ρ σ) (i : Nat) {a : Addr} {ds : List D} {vs : List V} (h : ρ[i]? = some (some (Sl.own ds))) (ha : σ[i]? = some (some (V.ref a))) (hv : H a = some (.lst vs)) :
    Same F (upd F a (.lst vs)) ∧ Sim K F0 H0 (upd F a (.lst vs)) H (ρ.set i (some (.frz (.lst ds)))) σ := by
  obtain ⟨b, ws, k1, k2, k3, k4, k5, k6⟩ := S.own i ds h
  rw [ha] at k1; cases k1
  rw [hv] at k2; cases k2
  have sm := same_upd (o := .lst vs) k3
  refine ⟨sm, ⟨S.g.f.trans sm, S.g.h, fun x o q => ?_, fun x o1 n1 n3 nn => ?_, fun h => (S.g.nt h).upd nt_lst⟩, by rw [List.length_set]; exact S.len, fun j e hj => ?_, fun j fs hj => ?_, fun j k fs gs x hn q1 q2 q3 q4 => ?_, fun j fs hj => ?_, fun j k fs gs x hn q1 q2 q3 q4 => ?_⟩
  · by_cases hx : x = a
    · subst hx; rw [upd_same] at q; rw [hv]; exact q
    · rw [upd_ne hx] at q; exact S.g.fh _ _ q
  · have hx : x ≠ a := fun e => by subst e; exact k4 _ n1 nn.nt
    rw [upd_ne hx]; exact S.g.new x o1 n1 n3 nn
  · rcases getset hj with ⟨rfl, _, q⟩ | ⟨n, hj⟩
    · cases q; exact ⟨_, ha, .lst upd_same k5 (k6.mono sm)⟩
    · obtain ⟨w, m1, m2⟩ := S.frz j e hj
      exact ⟨w, m1, m2.mono sm⟩
  · rcases getset hj with ⟨rfl, _, q⟩ | ⟨n, hj⟩
    · cases q
    · obtain ⟨x, xs, m1, m2, m3, m4, m5, m6⟩ := S.own j fs hj
      have ne : x ≠ a := fun e => by subst e; exact S.dis i j ds fs _ n h hj ha m1
      exact ⟨x, xs, m1, m2, by rw [upd_ne ne]; exact m3, m4, m5, m6.mono sm⟩
  · have back : ∀ (j : Nat) (fs : List D), (ρ.set i (some (Sl.frz (.lst ds))))[j]? = some (some (Sl.own fs)) → ρ[j]? = some (some (Sl.own fs)) := fun j fs q => by
      rcases getset q with ⟨rfl, _, q⟩ | ⟨n, q⟩
      · cases q
      · exact q
    exact S.dis j k fs gs x hn (back j fs q1) (back k gs q2) q3 q4
  · rcases getset hj with ⟨rfl, _, q⟩ | ⟨n, hj⟩
    · cases q
    · obtain ⟨x, xs, m1, m2, m3, m4, m5, m6⟩ := S.mu j fs hj
      have ne : x ≠ a := fun e => by subst e; rw [hv] at m2; exact m6 _ (Option.some.inj m2).symm
      exact ⟨x, xs, m1, m2, m3.mono sm, by rw [upd_ne ne]; exact m4, m5, m6⟩
  · have back : ∀ (j : Nat) (fs : D), (ρ.set i (some (Sl.frz (.lst ds))))[j]? = some (some (Sl.mu fs)) → ρ[j]? = some (some (Sl.mu fs)) := fun j fs q => by
      rcases getset q with ⟨rfl, _, q⟩ | ⟨n, q⟩
      · cases q
      · exact q
    exact S.mdis j k fs gs x hn (back j fs q1) (back k gs q2) q3 q4
end

/-! ### small statements -/
section
variable {X : Cx} {c : Cc} {K : PySem.W.Frag} {F H : Hp} {pos : Pos}
theorem SOut.mono {F F' : Hp} {D : Ends} {r : SRes} (h : SOut X c F D r) (s : Same F F') : SOut X c F' D r := by
  cases r with
  | next ρ => exact fun σ' F2 H' S q => h σ' F2 H' S (s.trans q)
  | brk ρ => exact fun σ' F2 H' S q => h σ' F2 H' S (s.trans q)
  | cont ρ => exact fun σ' F2 H' S q => h σ' F2 H' S (s.trans q)
  | ret d => exact h
  | exn x ρ => exact fun σ' F2 H' cls dd S q => h σ' F2 H' cls dd S (s.trans q)
  | stuck => exact h
/-- an expression's end within a statement -/
def lift {α : Type} (r : Res α) (ρ : En) (k : α → SRes) : SRes := match r with
  | .ok d => k d
  | .exn x => .exn x ρ
  | .stuck => .stuck
theorem lift_out {σ : L2.St} {ρ : En} {α β : Type} {D : Ends} {R : Hp → Hp → β → α → Prop} {r : Res α} {k : α → SRes} {Q : β → Hp → Prop} (S : Sim X.K c.F0 c.H0 F H ρ σ)
    (h : SOut X c F D (lift r ρ k))
    (n : ∀ d F' H' v, r = .ok d → Grow F H F' H' → R F' H' v d → SOut X c F' D (k d) → Q v H') : Out X c σ F H R r Q := by
  cases r with
  | ok d => exact fun F' H' v g q => n d F' H' v rfl g q (h.mono g.f)
  | exn x => exact fun F' H' cls dd g q => h σ F' H' cls dd (S.grow g) g.f q
  | stuck => exact h
def sSet (i : Nat) (f : Den) : SDen := fun ρ => lift (f ρ) ρ fun d => .next (ρ.set i (some (.frz d)))
theorem sj_set (i : Nat) {x : Str} {e : Expr} {f : Den} {pos' : Pos} (he : EJ X c e f) (hN : X.N.Nodup) (hi : X.N[i]? = some x := by rfl) (hx : Loc X.env.scope x := by first | exact Or.inl rfl | exact Or.inr rfl)
    (hs : swapsWith e (some (.Name x pos')) pos.line X.env = pure false := by rfl) (hf : X.fn x = true ∨ X.env.scope.names.lookup x = some .local := by first | exact .inl rfl | exact .inr rfl | assumption) :
    SJ X c (.Assign [.Name x pos'] e pos) (sSet i f) := by
  intro ρ σ F H D S o
  refine wps_of (ps_set hN hi hx (pe_wp e) hs hf) (he ρ σ F H _ S (lift_out S o fun d F' H' v _ g r o' => ?_))
  exact o' _ F' H' ((S.grow g).set i r) (Same.refl _)
def setO (ρ : En) (i : Nat) : FV.D → SRes
  | .lst ds => .next (ρ.set i (some (.own ds)))
  | _ => .stuck
def sSetO (i : Nat) (f : Den) : SDen := fun ρ => lift (f ρ) ρ (setO ρ i)
theorem setO_core {σ : L2.St} {ρ : En} {D : Ends} {i : Nat} {F' H' : Hp} {v : V} {d : FV.D} (S : Sim X.K c.F0 c.H0 F H ρ σ) (g : Grow F H F' H') (r : Fresh X.K H F' H' v d)
    (o : SOut X c F' D (setO ρ i d)) : D.nx (σ.set i (some v)) H' := by
  obtain ⟨a, vs, ds, rfl, rfl, h1, h2, h3, h4, h5⟩ := r
  refine o _ F' H' ((S.grow g).setOwn i h1 h2 (S.g.h.free' h3) h4 h5 fun j es q1 q2 => ?_) (Same.refl _)
  obtain ⟨b, ws, k1, k2, _⟩ := S.own j es q1
  rw [q2] at k1; cases k1
  exact h3 _ k2 nt_lst
theorem sj_setO (i : Nat) {x : Str} {e : Expr} {f : Den} {pos' : Pos} (he : EO X c e f) (hN : X.N.Nodup) (hi : X.N[i]? = some x := by rfl) (hx : Loc X.env.scope x := by first | exact Or.inl rfl | exact Or.inr rfl)
    (hs : swapsWith e (some (.Name x pos')) pos.line X.env = pure false := by rfl) (hf : X.fn x = true ∨ X.env.scope.names.lookup x = some .local := by first | exact .inl rfl | exact .inr rfl | assumption) :
    SJ X c (.Assign [.Name x pos'] e pos) (sSetO i f) := by
  intro ρ σ F H D S o
  exact wps_of (ps_set hN hi hx (pe_wp e) hs hf) (he ρ σ F H _ S (lift_out S o fun d F' H' v _ g r o' => setO_core S g r o'))
def sExpr (f : Den) : SDen := fun ρ => lift (f ρ) ρ fun _ => .next ρ
theorem sj_expr {e : Expr} {f : Den} (he : ER X c e f) (hs : swapsWith e none pos.line X.env = pure false := by rfl) : SJ X c (.Expr e pos) (sExpr f) := by
  intro ρ σ F H D S o
  exact wps_of (ps_expr (pe_wp e) hs) (he ρ σ F H _ S (lift_out S o fun d F' H' v _ g r o' => o' _ F' H' (S.grow g) (Same.refl _)))
def sRet (f : Den) : SDen := fun ρ => lift (f ρ) ρ fun d => .ret d
theorem sj_ret {e : Expr} {f : Den} (he : EJ X c e f) : SJ X c (.Return (some e) pos) (sRet f) := by
  intro ρ σ F H D S o
  exact wps_of (ps_ret (pe_wp e)) (he ρ σ F H _ S (lift_out S o fun d F' H' v _ g r o' => o' F' H' v (S.grow g).g r))
def sRetN : SDen := fun _ => .ret .non
theorem sj_retN : SJ X c (.Return none pos) sRetN := fun ρ σ F H D S o => wps_of ps_retN (o F H .non S.g .non)
def sPass : SDen := fun ρ => .next ρ
def sBrk : SDen := fun ρ => .brk ρ
def sCont : SDen := fun ρ => .cont ρ
theorem sj_pass : SJ X c (.Pass pos) sPass := fun ρ σ F H D S o => wps_of ps_pass (o σ F H S (Same.refl _))
theorem sj_brk : SJ X c (.Break pos) sBrk := fun ρ σ F H D S o => wps_of ps_break (o σ F H S (Same.refl _))
theorem sj_cont : SJ X c (.Continue pos) sCont := fun ρ σ F H D S o => wps_of ps_continue (o σ F H S (Same.refl _))
theorem sj_doc {x : Str} {j : Nat} {pos pos' : Pos} : SJ X c (.Expr (.Constant (.str x) j pos) pos') sPass := fun ρ σ F H D S o => wps_of ps_doc (o σ F H S (Same.refl _))
theorem upd_id {H : Hp} {a : Addr} {o : HO} (h : H a = some o) : upd H a o = H := by
  funext b
  by_cases hb : b = a
  · subst hb; rw [upd_same, h]
  · rw [upd_ne hb]
theorem wps_lock {st : Stmt} {D : Ends} {σ : L2.St} {a : Addr} {u : HO} (h : H a = some u) (mu : Mut (some u)) (hw : ∀ od, WpS X st D σ (upd H a (.frz od u))) : WpS X st D σ H := ⟨fun pins s I => by
  obtain ⟨od, I1⟩ := I.lock h mu
  exact (hw od).run pins s I1⟩
theorem wp_lockX {e : Expr} {σ : L2.St} {H : Hp} {Q : VK} (h : Wp X e σ H fun v H' => Q v H' ∨ ∃ a u, H' a = some u ∧ Mut (some u) ∧ ∀ od, Q v (upd H' a (.frz od u))) : Wp X e σ H Q := ⟨fun pins s I => by
  refine wpAny_mono (h.run pins s I) (fun v s' q => ?_) fun _ _ q => q
  obtain ⟨x, H', I', r, q | ⟨a, u, ha, mu, q⟩⟩ := q
  · exact ⟨x, H', I', r, q⟩
  · obtain ⟨od, I2⟩ := I'.lock ha mu
    exact ⟨x, _, I2, r, q od⟩⟩
theorem wp_lockE {e : Expr} {σ : L2.St} {H : Hp} {Q : VK} (h : Wp X e σ H fun v H' => ∃ a u, H' a = some u ∧ Mut (some u) ∧ ∀ od, Q v (upd H' a (.frz od u))) : Wp X e σ H Q := ⟨fun pins s I => by
  refine wpAny_mono (h.run pins s I) (fun v s' q => ?_) fun _ _ q => q
  obtain ⟨x, H', I', r, a, u, ha, mu, q⟩ := q
  obtain ⟨od, I2⟩ := I'.lock ha mu
  exact ⟨x, _, I2, r, q od⟩⟩
/-- a list of the def's own is frozen ahead of a statement -/
def frzE (i : Nat) (ρ : En) : En := match ρ[i]? with
  | some (some (.own ds)) => ρ.set i (some (.frz (.lst ds)))
  | some (some (.mu d)) => ρ.set i (some (.frz d.lockD))
  | _ => ρ
def sFrz (i : Nat) (g : SDen) : SDen := fun ρ => g (frzE i ρ)
theorem sj_frz (i : Nat) {st : Stmt} {g : SDen} (h : SJ X c st g) : SJ X c st (sFrz i g) := by
  intro ρ σ F H D S o
  unfold sFrz frzE at o
  split at o
  · rename_i ds e
    obtain ⟨a, vs, k1, k2, _⟩ := S.own i ds e
    obtain ⟨sm, S'⟩ := S.freeze i e k1 k2
    exact h _ σ _ H D S' (o.mono sm)
  · rename_i d e
    obtain ⟨a, ob, k1, k2, k3, _⟩ := S.mu i d e
    cases k3 with
    | lst z r =>
      obtain ⟨sm, S'⟩ := S.freezeM i (u := .lst _) e k1 nt_lst fun F' s hf => .lst hf z (r.mono s)
      rw [upd_id k2] at S'
      exact h _ σ _ H D S' (o.mono sm)
    | ins l z y r =>
      obtain ⟨sm, S'⟩ := S.freezeM i (u := .ins _ _ _) e k1 (fun ps z => nomatch z) fun F' s hf => .ins hf l z y (r.mono s)
      rw [upd_id k2] at S'
      exact h _ σ _ H D S' (o.mono sm)
    | dic l z r =>
      refine wps_lock k2 True.intro fun od => ?_
      obtain ⟨sm, S'⟩ := S.freezeM i (u := .frz od (.dK _)) e k1 (fun ps z => nomatch z) fun F' s hf => .dic (l := true) ⟨od, hf⟩ l z (r.mono s)
      exact h _ σ _ _ D S' (o.mono sm)
  · exact h ρ σ F H D S o
/-- blocks -/
def bNil : SDen := fun ρ => .next ρ
def bSeq (g h : SDen) : SDen := fun ρ => match g ρ with
  | .next ρ' => h ρ'
  | r => r
theorem bj_nil : BJ X c [] bNil := fun ρ σ F H D S o => wpb_of pss_nil (o σ F H S (Same.refl _))
theorem bj_cons {st : Stmt} {rest : List Stmt} {g h : SDen} (h1 : SJ X c st g) (h2 : BJ X c rest h) : BJ X c (st :: rest) (bSeq g h) := by
  intro ρ σ F H D S o
  refine wpb_of (pss_cons (ps_wp st) (pss_wp rest)) (h1 ρ σ F H _ S ?_)
  unfold bSeq at o
  split at o
  · rename_i ρ' e
    rw [e]
    exact fun σ' F' H' S' sm => h2 ρ' σ' F' H' D S' (o.mono sm)
  · rename_i n
    cases q : g ρ with
    | next ρ' => exact absurd q (n ρ')
    | brk ρ' => rw [q] at o; exact o
    | cont ρ' => rw [q] at o; exact o
    | ret d => rw [q] at o; exact o
    | exn x ρ' => rw [q] at o; exact o
    | stuck => rw [q] at o; exact o
theorem bj_one {st : Stmt} {g : SDen} (h1 : SJ X c st g) : BJ X c [st] g := by
  intro ρ σ F H D S o
  exact wpb_of (pss_one (ps_wp st)) (h1 ρ σ F H D S o)
def sIf (t : En → Res Bool) (g h : SDen) : SDen := fun ρ => match t ρ with
  | .ok true => g ρ
  | .ok false => h ρ
  | .exn x => .exn x ρ
  | .stuck => .stuck
theorem sj_if {q : Expr} {a b : List Stmt} {t : En → Res Bool} {g h : SDen} (ht : TJ X c q t) (ha : BJ X c a g) (hb : BJ X c b h) : SJ X c (.If q a b pos) (sIf t g h) := by
  intro ρ σ F H D S o
  refine wps_of (ps_if (pt_wp q) (pss_wp a) (pss_wp b)) (ht ρ σ F H _ S (lift_out (k := fun b => if b = true then g ρ else h ρ) S (by
    have e : sIf t g h ρ = lift (t ρ) ρ fun b => if b = true then g ρ else h ρ := by
      unfold sIf
      cases t ρ with
      | ok b => cases b <;> rfl
      | exn x => rfl
      | stuck => rfl
    rw [e] at o; exact o) fun d F' H' v _ gr r o' => ?_))
  subst r
  cases v with
  | true => rw [if_pos rfl] at o' ⊢; exact ha ρ σ F' H' D (S.grow gr) o'
  | false => rw [if_neg Bool.false_ne_true] at o' ⊢; exact hb ρ σ F' H' D (S.grow gr) o'

/-! ### own lists: append; xs[i] = e; pop; insert -/
def sApp (i : Nat) (f : Den) : SDen := fun ρ => match ρ[i]? with
  | some (some (.own ds)) => lift (f ρ) ρ fun d => if ds.length < sizeLine then .next (ρ.set i (some (.own (ds ++ [d])))) else .stuck
  | _ => .stuck
theorem sj_app (i : Nat) {x : Str} {e : Expr} {f : Den} {p apos cpos : Pos} (he : EJ X c e f) (hN : X.N[i]? = some x := by rfl) (hv : Vis X.env.scope x := by first | exact Or.inl rfl | exact Or.inr (Or.inl rfl) | exact Or.inr (Or.inr rfl))
    (hline : (apos.endLine == cpos.line) = true := by rfl) (hst : starEach [e] X.env = (false, eval e X.env) :: starEach [] X.env := by first | with_reducible exact st_c | with_reducible exact st_n | with_reducible exact st_b | with_reducible exact st_u | with_reducible exact st_s | with_reducible exact st_f | with_reducible exact st_t | with_reducible exact st_l | with_reducible exact st_q | with_reducible exact st_o | with_reducible exact st_i | with_reducible exact st_m | with_reducible exact st_a | with_reducible exact st_h | with_reducible exact st_g | with_reducible exact st_d | rfl) (hd : (x == ("__debug__" : Str)) = false := by decide) (hcd : (x == ("__classdict__" : Str)) = false := by decide)
    (hbase : attributeBase (.Name x p) "append" X.env (eval (.Name x p) X.env) = eval (.Name x p) X.env := by rfl)
    (hfew : ((backTo cpos (starEach [e] X.env)).all (fun x => !x.1) && (backToKw cpos (keywordEach [] X.env)).all (fun x => x.1.isSome) && decide ([e].length + ([] : List Keyword).length + (if ([] : List Keyword).isEmpty then 0 else 1) < 30)) = true := by rfl)
    (hplain : (backTo cpos (starEach [] X.env)).any (·.1) = false := by ((repeat (first | with_reducible exact pl_0 | with_reducible refine Eq.trans pl_c ?_ | with_reducible refine Eq.trans pl_n ?_ | with_reducible refine Eq.trans pl_b ?_ | with_reducible refine Eq.trans pl_u ?_ | with_reducible refine Eq.trans pl_s ?_ | with_reducible refine Eq.trans pl_f ?_ | with_reducible refine Eq.trans pl_t ?_ | with_reducible refine Eq.trans pl_l ?_ | with_reducible refine Eq.trans pl_q ?_ | with_reducible refine Eq.trans pl_o ?_ | with_reducible refine Eq.trans pl_i ?_ | with_reducible refine Eq.trans pl_m ?_ | with_reducible refine Eq.trans pl_a ?_ | with_reducible refine Eq.trans pl_h ?_ | with_reducible refine Eq.trans pl_g ?_ | with_reducible refine Eq.trans pl_d ?_)); first | done | rfl)) (hs : swapsWith (.Call (.Attribute (.Name x p) "append" apos) [e] [] cpos) none pos.line X.env = pure false := by rfl) :
    SJ X c (.Expr (.Call (.Attribute (.Name x p) "append" apos) [e] [] cpos) pos) (sApp i f) := by
  intro ρ σ F H D S o
  refine wps_of (ps_expr (pe_bm PySem.F.plainAttrs_list PySem.F.slot_list_append PySem.F.type_list_append mt_append (pe_var hN hv hd hcd) (pa_cons (pe_wp e) pa_nil hst) hbase hfew hline hst hplain) hs) ?_
  unfold sApp at o
  split at o
  · rename_i ds q
    obtain ⟨a, vs, h1, h2, h3, h4, h5, h6⟩ := S.own i ds q
    refine ⟨_, h1, .inl ⟨rfl, vs, SqL.of h2⟩, ?_⟩
    refine he ρ σ F H _ S (lift_out S o fun d F' H' v _ g r o' => ?_)
    by_cases z : ds.length < sizeLine
    · rw [if_pos z] at o'
      have l := h6.length
      refine ⟨a, vs, v, rfl, rfl, g.h.k _ _ h2, by omega, ?_⟩
      exact o' σ F' _ ((S.grow g).mut i q h1 (by rw [List.length_append, List.length_singleton]; omega) ((h6.mono g.f).append (.cons r .nil))) (Same.refl _)
    · rw [if_neg z] at o'; exact o'.elim
  · exact o.elim

/-! ### targets -/
inductive Tg where
  | nm (i : Nat) | tp (is : List Nat)
def sets : List Nat → List D → En → En
  | i :: is, d :: ds, ρ => sets is ds (ρ.set i (some (.frz d)))
  | _, _, ρ => ρ
def asg : Tg → D → En → Res En
  | .nm i, d, ρ => .ok (ρ.set i (some (.frz d)))
  | .tp is, .tup ds, ρ => if ds.length = is.length then .ok (sets is ds ρ) else .stuck
  | .tp _, _, _ => .stuck
def slotsOf : Tg → List Nat
  | .nm i => [i]
  | .tp is => is
def WpG (X : Cx) (tg : Expr) : TG := fun v σ H Q => ∀ (pins : List (Addr × Obj)) (s : Shared) (u : Value), Inv X pins σ H s → RelV v u → wpAny (model X.prog X.w) X.A (assign tg X.env u) (fun _ s' => ∃ σ' H', Inv X pins σ' H' s' ∧ Q σ' H') X.xe s
theorem pg_wp (tg : Expr) : PG X tg (WpG X tg) := ⟨fun pins s σ H v u Q I r h => h pins s u I r⟩
def setsV : List Nat → List V → L2.St → L2.St
  | i :: is, v :: vs, σ => setsV is vs (σ.set i (some v))
  | _, _, σ => σ
def asgV : Tg → V → List V → L2.St → L2.St
  | .nm i, v, _, σ => σ.set i (some v)
  | .tp is, _, w, σ => setsV is w σ
/-- the target's slots are set, nothing else -/
def GJ (X : Cx) (tg : Expr) (T : Tg) : Prop := ∀ v σ H (Q : L2.St → Hp → Prop), (match T with
  | .nm i => Q (σ.set i (some v)) H
  | .tp is => ∃ a xs, v = .ref a ∧ SqT X.K H a xs ∧ xs.length = is.length ∧ Q (setsV is xs σ) H) → WpG X tg v σ H Q
theorem gj_nm (i : Nat) {x : Str} (hN : X.N.Nodup) (hi : X.N[i]? = some x := by rfl) (hx : Loc X.env.scope x := by first | exact Or.inl rfl | exact Or.inr rfl) (hf : X.fn x = true ∨ X.env.scope.names.lookup x = some .local := by first | exact .inl rfl | exact .inr rfl | assumption) : GJ X (.Name x pos) (.nm i) :=
  fun v σ H Q h pins s u I r => (pg_name hN hi hx hf).run pins s σ H v u Q I r h
structure GsJ (X : Cx) (es : List Expr) (is : List Nat) : Prop where
  ok : ∃ t, PGs X es t ∧ ∀ xs σ H Q, xs.length = is.length → Q (setsV is xs σ) H → t xs σ H Q
theorem gs_nil : GsJ X [] [] := ⟨_, pgs_nil, fun xs σ H Q hl q => by cases xs with | nil => exact ⟨rfl, q⟩ | cons _ _ => cases hl⟩
theorem gs_cons (i : Nat) {x : Str} {es : List Expr} {is : List Nat} (h : GsJ X es is) (hN : X.N.Nodup) (hi : X.N[i]? = some x := by rfl) (hx : Loc X.env.scope x := by first | exact Or.inl rfl | exact Or.inr rfl) (hf : X.fn x = true ∨ X.env.scope.names.lookup x = some .local := by first | exact .inl rfl | exact .inr rfl | assumption)
    (hs : (assignEach (.Name x pos :: es) X.env).map (·.2) = assign (.Name x pos) X.env :: (assignEach es X.env).map (·.2) := by rfl) : GsJ X (.Name x pos :: es) (i :: is) := by
  obtain ⟨t, p, q⟩ := h.ok
  refine ⟨_, pgs_cons (pg_name hN hi hx hf) p hs, fun xs σ H Q hl z => ?_⟩
  cases xs with
  | nil => cases hl
  | cons v vs => exact ⟨v, vs, rfl, q vs _ H Q (Nat.succ.inj hl) z⟩
theorem gj_tp {es : List Expr} {is : List Nat} {k : Nat} (h : GsJ X es is) (hc : X.calm = true) (hn : (assignEach es X.env).length = is.length := by rfl) (hst : (assignEach es X.env).findIdx? (·.1) = none := by rfl) : GJ X (.Tuple es k pos) (.tp is) := by
  obtain ⟨t, p, q⟩ := h.ok
  intro v σ H Q ⟨a, xs, e, hx, hl, hq⟩ pins s u I r
  exact (pg_tup hc p hn hst).run pins s σ H v u Q I r ⟨a, xs, e, hx, hl, q xs σ H Q hl hq⟩
theorem sets_sim {F0 H0 : Hp} : ∀ {is : List Nat} {vs : List V} {ds : List D} {ρ : En} {σ : L2.St}, Sim K F0 H0 F H ρ σ → Reps K F vs ds → Sim K F0 H0 F H (sets is ds ρ) (setsV is vs σ)
  | [], _, _, _, _, S, _ => by unfold sets setsV; exact S
  | _ :: _, _, _, _, _, S, .nil => by unfold sets setsV; exact S
  | i :: is, _, _, _, _, S, .cons r t => by unfold sets setsV; exact sets_sim (S.set i r) t
theorem gj_asg {tg : Expr} {T : Tg} (h : GJ X tg T) {ρ ρ' : En} {σ : L2.St} {v : V} {d : D} {Q : L2.St → Hp → Prop} (S : Sim X.K c.F0 c.H0 F H ρ σ) (r : Rep X.K F v d) (e : asg T d ρ = .ok ρ')
    (q : ∀ σ', Sim X.K c.F0 c.H0 F H ρ' σ' → (∃ w, σ' = asgV T v w σ) → Q σ' H) : WpG X tg v σ H Q := by
  cases T with
  | nm i =>
    cases e
    exact h v σ H Q (q _ (S.set i r) ⟨[], rfl⟩)
  | tp is =>
    cases d with
    | tup ds =>
      have e : (if ds.length = is.length then Res.ok (sets is ds ρ) else .stuck) = .ok ρ' := e
      split at e
      · rename_i hl
        cases e
        cases r with
        | tup h1 h2 h3 => exact h _ σ H Q ⟨_, _, rfl, sqT_mono S.g.fh h1, by rw [h3.length]; exact hl, q _ (sets_sim S h3) ⟨_, rfl⟩⟩
      · cases e
    | _ => cases e
def sAsg (T : Tg) (f : Den) : SDen := fun ρ => lift (f ρ) ρ fun d => match asg T d ρ with
  | .ok ρ' => .next ρ'
  | _ => .stuck
theorem sj_asg {tg e : Expr} {T : Tg} {f : Den} (he : EJ X c e f) (hg : GJ X tg T) (hs : swapsWithSole [tg] e pos.line X.env = pure false := by rfl) (hw : swappedStores [tg] e X.env = pure none := by rfl)
    (h1 : (assignEach [tg] X.env).map (·.2) = [assign tg X.env] := by rfl) : SJ X c (.Assign [tg] e pos) (sAsg T f) := by
  intro ρ σ F H D S o
  refine wps_of (ps_asg (pe_wp e) (pg_wp tg) hs hw h1) (he ρ σ F H _ S (lift_out S o fun d F' H' v _ g r o' => ?_))
  cases e1 : asg T d ρ with
  | ok ρ' => rw [e1] at o'; exact gj_asg hg (S.grow g) r e1 fun σ' S' _ => o' σ' F' H' S' (Same.refl _)
  | exn x => rw [e1] at o'; exact o'.elim
  | stuck => rw [e1] at o'; exact o'.elim
/-- a, b = x, y with plain local names -/
def sPar (i j : Nat) (f g : Den) : SDen := fun ρ => lift (f ρ) ρ fun a => lift (g ρ) ρ fun b => .next ((ρ.set i (some (.frz a))).set j (some (.frz b)))
theorem sj_par (i j : Nat) {x y : Str} {a b : Expr} {f g : Den} {px py pt : Pos} {kt k2 : Nat} {pt2 : Pos} (ha : EJ X c a f) (hb : EJ X c b g) (hc : X.calm = true) (hN : X.N.Nodup) (hij : i ≠ j := by decide)
    (hw : swappedStores [.Tuple [.Name x px, .Name y py] kt pt] (.Tuple [a, b] k2 pt2) X.env = pure (some [x, y]) := by rfl) (hi : X.N[i]? = some x := by rfl) (hj : X.N[j]? = some y := by rfl)
    (hx : X.env.scope.names.lookup x = some .local := by rfl) (hy : X.env.scope.names.lookup y = some .local := by rfl)
    (hs : swapsWithSole [.Tuple [.Name x px, .Name y py] kt pt] (.Tuple [a, b] k2 pt2) pos.line X.env = pure false := by rfl)
    (s1 : starEach [a, b] X.env = (false, eval a X.env) :: starEach [b] X.env := by first | with_reducible exact st_c | with_reducible exact st_n | with_reducible exact st_b | with_reducible exact st_u | with_reducible exact st_s | with_reducible exact st_f | with_reducible exact st_t | with_reducible exact st_l | with_reducible exact st_q | with_reducible exact st_o | with_reducible exact st_i | with_reducible exact st_m | with_reducible exact st_a | with_reducible exact st_h | with_reducible exact st_g | with_reducible exact st_d | rfl) (s2 : starEach [b] X.env = (false, eval b X.env) :: starEach [] X.env := by first | with_reducible exact st_c | with_reducible exact st_n | with_reducible exact st_b | with_reducible exact st_u | with_reducible exact st_s | with_reducible exact st_f | with_reducible exact st_t | with_reducible exact st_l | with_reducible exact st_q | with_reducible exact st_o | with_reducible exact st_i | with_reducible exact st_m | with_reducible exact st_a | with_reducible exact st_h | with_reducible exact st_g | with_reducible exact st_d | rfl) :
    SJ X c (.Assign [.Tuple [.Name x px, .Name y py] kt pt] (.Tuple [a, b] k2 pt2) pos) (sPar i j f g) := by
  intro ρ σ F H D S o
  refine wps_of (ps_par hc hN hi hj hij hx hy (pa_cons (pe_wp a) (pa_cons (pe_wp b) pa_nil s2) s1) hw hs) (ha ρ σ F H _ S (lift_out S o fun d F1 H1 v _ g1 r1 o1 => ?_))
  refine hb ρ σ F1 H1 _ (S.grow g1) (lift_out (S.grow g1) o1 fun d2 F2 H2 u _ g2 r2 o2 => ?_)
  exact ⟨v, u, rfl, o2 _ F2 H2 ((((S.grow g1).grow g2).set i (r1.mono g2.f)).set j r2) (Same.refl _)⟩
/-- name += int -/
def sAugI (i : Nat) (op : D → D → Res D) (f : Den) : SDen := fun ρ => lift (dVar i ρ) ρ fun a => lift (f ρ) ρ fun b => lift (op a b) ρ fun d => .next (ρ.set i (some (.frz d)))
theorem sj_augI (i : Nat) {x : Str} {e : Expr} {f : Den} {op : Operator} {g : D → D → Res D} {pos' : Pos} {h : Int → Int → Int} (hop : PIp X op (ipI h)) (hg : ∀ a b, g a b = match a, b with | .int i, .int j => .ok (.int (h i j)) | _, _ => g a b) (he : EJ X c e f)
    (hi2 : ∀ a b d, g a b = .ok d → ∃ i j, a = .int i ∧ b = .int j) (nx : NoX2 g)
    (hN : X.N.Nodup) (hi : X.N[i]? = some x := by rfl) (hx : Loc X.env.scope x := by first | exact Or.inl rfl | exact Or.inr rfl) (hf : X.fn x = true ∨ X.env.scope.names.lookup x = some .local := by first | exact .inl rfl | exact .inr rfl | assumption) :
    SJ X c (.AugAssign (.Name x pos') op e pos) (sAugI i g f) := by
  intro ρ σ F H D S o
  refine wps_of (ps_aug hN hi hx (pe_wp e) hop hf) ?_
  unfold sAugI at o
  cases e0 : dVar i ρ with
  | ok a =>
    rw [e0] at o
    have o : SOut X c F D (lift (f ρ) ρ fun b => lift (g a b) ρ fun d => .next (ρ.set i (some (.frz d)))) := o
    unfold dVar at e0
    split at e0
    · rename_i d q
      cases e0
      obtain ⟨v, h1, h2⟩ := S.frz i a q
      refine ⟨v, h1, he ρ σ F H _ S (lift_out S o fun d F1 H1 u _ g1 r1 o1 => ?_)⟩
      cases e2 : g a d with
      | ok z =>
        rw [e2] at o1
        obtain ⟨m, n, rfl, rfl⟩ := hi2 _ _ _ e2
        rw [hg] at e2
        cases e2
        cases h2
        cases r1
        exact ⟨m, n, rfl, rfl, o1 _ F1 H1 ((S.grow g1).set i (.int _)) (Same.refl _)⟩
      | exn x => exact absurd e2 (nx _ _ _)
      | stuck => rw [e2] at o1; exact o1.elim
    · cases e0
  | exn x => unfold dVar at e0; split at e0 <;> cases e0
  | stuck => rw [e0] at o; exact o.elim
end

/-! ### loops -/
structure IterOk (K : PySem.W.Frag) (J : It) (ok : Hp → Hp → Prop) (ds : List D) : Prop where
  go : ∀ i F H, i < ds.length → ok F H → Same F H → J.go i H
  yld : ∀ i d F H x H2, ds[i]? = some d → ok F H → Same F H → J.yld i H x H2 → ∃ F2, Grow F H F2 H2 ∧ Rep K F2 x d
  stop : ∀ i F H, ds.length ≤ i → ok F H → Same F H → J.stop i H
abbrev DenI := En → Res (List D)
/-- what a for walks: it is frozen -/
structure IJ (X : Cx) (c : Cc) (tg iter : Expr) (f : DenI) : Prop where
  ok : ∃ wi, PI X tg iter wi ∧ ∀ ρ σ F H R, Sim X.K c.F0 c.H0 F H ρ σ → Out X c σ F H (fun F' _ (J : It) ds => IterOk X.K J (fun F1 _ => Same F' F1) ds) (f ρ) R → wi σ H R
/-- what a comprehension walks: it may be a list of the def's own -/
structure IC (X : Cx) (c : Cc) (tg iter : Expr) (f : DenI) : Prop where
  ok : ∃ wi, PI X tg iter wi ∧ ∀ ρ σ F H R, Sim X.K c.F0 c.H0 F H ρ σ → Out X c σ F H (fun F' H' (J : It) ds => IterOk X.K J (fun F1 H1 => Same F' F1 ∧ GH H' H1) ds) (f ρ) R → wi σ H R
section
variable {X : Cx} {c : Cc} {K : PySem.W.Frag} {F H : Hp} {pos : Pos} {tg : Expr}
theorem IJ.ic {iter : Expr} {f : DenI} (h : IJ X c tg iter f) : IC X c tg iter f := by
  obtain ⟨wi, p, q⟩ := h.ok
  exact ⟨wi, p, fun ρ σ F H R S o => q ρ σ F H R S (o.mono fun F' H' J ds _ r => ⟨fun i F H a b s => r.go i F H a b.1 s, fun i d F H x H2 a b s y => r.yld i d F H x H2 a b.1 s y, fun i F H a b s => r.stop i F H a b.1 s⟩)⟩
/-- a list or a tuple -/
theorem iter_lst {a : Addr} {vs : List V} {ds : List D} {ok : Hp → Hp → Prop} (r : Reps K F vs ds) (hok : ∀ F1 H1, ok F1 H1 → Same F1 H1 → Same F F1 ∧ SqL K H1 a vs) : IterOk K (Itl K a) ok ds where
  go := fun i F1 H1 hi h s => by
    obtain ⟨k1, k2⟩ := hok F1 H1 h s
    exact ⟨vs, vs[i]'(by rw [r.length]; exact hi), k2, by simp [r.length, hi]⟩
  yld := fun i d F1 H1 x H2 e h s y => by
    obtain ⟨k1, k2⟩ := hok F1 H1 h s
    obtain ⟨rfl, y⟩ := y
    obtain ⟨v, h1, h2⟩ := r.get e
    have := y vs k2
    rw [h1] at this; cases this
    exact ⟨F1, Grow.refl s, h2.mono k1⟩
  stop := fun i F1 H1 hi h s => by
    obtain ⟨k1, k2⟩ := hok F1 H1 h s
    exact ⟨vs, k2, by rw [r.length]; exact hi⟩
theorem iter_tup {a : Addr} {vs : List V} {ds : List D} {ok : Hp → Hp → Prop} (r : Reps K F vs ds) (hok : ∀ F1 H1, ok F1 H1 → Same F1 H1 → Same F F1 ∧ SqT K H1 a vs) : IterOk K (Itt K a) ok ds where
  go := fun i F1 H1 hi h s => by
    obtain ⟨k1, k2⟩ := hok F1 H1 h s
    exact ⟨vs, vs[i]'(by rw [r.length]; exact hi), k2, by simp [r.length, hi]⟩
  yld := fun i d F1 H1 x H2 e h s y => by
    obtain ⟨k1, k2⟩ := hok F1 H1 h s
    obtain ⟨rfl, y⟩ := y
    obtain ⟨v, h1, h2⟩ := r.get e
    have := y vs k2
    rw [h1] at this; cases this
    exact ⟨F1, Grow.refl s, h2.mono k1⟩
  stop := fun i F1 H1 hi h s => by
    obtain ⟨k1, k2⟩ := hok F1 H1 h s
    exact ⟨vs, k2, by rw [r.length]; exact hi⟩
/-- a list, or a tuple: either may come -/
theorem pi_either {l : Expr} {tl : TE} (hl : PE X l tl) : PI X tg l (fun σ H R => tl σ H fun x H1 => ∃ a, x = .ref a ∧ ((∃ xs, SqL X.K H1 a xs) ∧ R (Itl X.K a) H1 ∨ (∃ xs, SqT X.K H1 a xs) ∧ R (Itt X.K a) H1)) := by
  refine ⟨fun pins s σ H R I h => ?_⟩
  refine thn (hl.run pins s σ H _ I h) fun v s1 ⟨x, H1, I1, r1, q1⟩ => ?_
  obtain ⟨a, e, q⟩ := q1
  rcases q with ⟨hx, q⟩ | ⟨hx, q⟩
  · -- the rule for lists, at the value that has come
    have P : wpAny (model X.prog X.w) X.A (eval l X.env) (fun v s1 => wpAny (model X.prog X.w) X.A (pyIter v) (PIE X pins σ tg R) X.xe s1) X.xe s → True := fun _ => trivial
    subst e
    cases r1
    obtain ⟨xs, hq⟩ := hx
    obtain ⟨its, rv, p, hz⟩ := I1.list hq
    refine wpAny_pyIter_list p.isList ?_
    refine ⟨s1.heap.objs.size, [s1.heap.objs.size], _, _, H1, rfl, I1.kept (t' := s1.toks) fun b o e => Heap.get?_push_of_some _ e, turn_list a _, ⟨_, Heap.get?_push_size _ rfl, rfl, rfl⟩, fun b hb => ?_, q⟩
    have e : b = s1.heap.objs.size := by simpa using hb
    subst e
    exact I1.fpOk (Nat.le_refl _) (I1.hok.fresh (Nat.le_refl _))
  · subst e
    cases r1
    obtain ⟨xs, hq⟩ := hx
    obtain ⟨its, rv, p, hz⟩ := I1.tuple hq
    refine wpAny_pyIter_tuple (show s1.heap.IsTuple a its.toArray from p) ?_
    refine ⟨s1.heap.objs.size, [s1.heap.objs.size], _, _, H1, rfl, I1.kept (t' := s1.toks) fun b o e => Heap.get?_push_of_some _ e, turn_tuple a _, ⟨_, Heap.get?_push_size _ rfl, rfl, rfl⟩, fun b hb => ?_, q⟩
    have e : b = s1.heap.objs.size := by simpa using hb
    subst e
    exact I1.fpOk (Nat.le_refl _) (I1.hok.fresh (Nat.le_refl _))
def itemsR (d : D) : Res (List D) := match d.items with
  | some ds => .ok ds
  | none => .stuck
def iSeq (f : Den) : DenI := fun ρ => (f ρ).bind itemsR
theorem itemsR_ok {d : D} {ds : List D} (h : itemsR d = .ok ds) : d.items = some ds := by
  unfold itemsR at h; split at h
  · cases h; assumption
  · cases h
theorem ij_seq {e : Expr} {f : Den} (h : EJ X c e f) : IJ X c tg e (iSeq f) := by
  refine ⟨_, pi_either (pe_wp e), fun ρ σ F H R S o => h ρ σ F H _ S (o.seq fun d F1 H1 v _ g1 r1 o1 => ?_)⟩
  cases q : itemsR d with
  | ok ds =>
    rw [q] at o1
    obtain ⟨a, vs, rfl, h1, h2, h3⟩ := rd_items g1.fh (.inl r1) (itemsR_ok q)
    refine ⟨a, rfl, ?_⟩
    have e := itemsR_ok q
    cases d with
    | tup es =>
      cases e
      cases r1 with
      | tup k1 k2 k3 => exact .inr ⟨⟨_, sqT_mono g1.fh k1⟩, o1 F1 H1 _ (Grow.refl g1.fh) (iter_tup k3 fun F2 H2 s s2 => ⟨s, sqT_mono (s.trans s2) k1⟩)⟩
    | lst es =>
      cases e
      cases r1 with
      | lst k1 k2 k3 => exact .inl ⟨⟨_, SqL.of (g1.fh _ _ k1)⟩, o1 F1 H1 _ (Grow.refl g1.fh) (iter_lst k3 fun F2 H2 s s2 => ⟨s, SqL.of (s2 _ _ (s _ _ k1))⟩)⟩
    | klst es =>
      cases e
      cases r1 with
      | klst k1 k2 k3 => exact .inl ⟨⟨_, g1.fh.seq k1⟩, o1 F1 H1 _ (Grow.refl g1.fh) (iter_lst k3 fun F2 H2 s s2 => ⟨s, (s.trans s2).seq k1⟩)⟩
    | _ => cases e
  | exn x => unfold itemsR at q; split at q <;> cases q
  | stuck => rw [q] at o1; exact o1.elim
theorem ic_seq {e : Expr} {f : Den} (h : ER X c e f) : IC X c tg e (iSeq f) := by
  refine ⟨_, pi_either (pe_wp e), fun ρ σ F H R S o => h ρ σ F H _ S (o.seq fun d F1 H1 v _ g1 r1 o1 => ?_)⟩
  cases q : itemsR d with
  | ok ds =>
    rw [q] at o1
    obtain ⟨a, vs, rfl, h1, h2, h3⟩ := rd_items g1.fh r1 (itemsR_ok q)
    refine ⟨a, rfl, ?_⟩
    rcases h1 with ⟨h1, _⟩ | ⟨h1, _⟩
    · exact .inl ⟨⟨_, h1⟩, o1 F1 H1 _ (Grow.refl g1.fh) (iter_lst h3 fun F2 H2 s s2 => ⟨s.1, s.2.seq h1⟩)⟩
    · exact .inr ⟨⟨_, h1⟩, o1 F1 H1 _ (Grow.refl g1.fh) (iter_tup h3 fun F2 H2 s s2 => ⟨s.1, sqT_gh s.2 h1⟩)⟩
  | exn x => unfold itemsR at q; split at q <;> cases q
  | stuck => rw [q] at o1; exact o1.elim
/-- range(n), range(a, b) -/
def rangeL (lo : Int) (n : Nat) : List D := (List.range n).map fun (i : Nat) => .int (lo + (i : Int))
theorem iter_range {lo : Int} {n : Nat} {ok : Hp → Hp → Prop} : IterOk K (Itr lo n) ok (rangeL lo n) where
  go := fun i F1 H1 hi h s => by unfold rangeL at hi; rw [List.length_map, List.length_range] at hi; exact hi
  yld := fun i d F1 H1 x H2 e h s y => by
    obtain ⟨rfl, rfl⟩ := y
    unfold rangeL at e
    rw [List.getElem?_map] at e
    obtain ⟨j, e1, rfl⟩ := Option.map_eq_some_iff.mp e
    have hi := (List.getElem?_eq_some_iff.mp e1).1
    rw [List.length_range] at hi
    rw [List.getElem?_range hi] at e1
    cases e1
    exact ⟨F1, Grow.refl s, .int _⟩
  stop := fun i F1 H1 hi h s => by unfold rangeL at hi; rw [List.length_map, List.length_range] at hi; exact hi
def rng1 : List D → Res (List D)
  | [.int j] => if -(2 ^ 62) ≤ j ∧ j < 2 ^ 62 then .ok (rangeL 0 j.toNat) else .stuck
  | [.int i, .int j] => if -(2 ^ 62) ≤ i ∧ i < 2 ^ 62 ∧ -(2 ^ 62) ≤ j ∧ j < 2 ^ 62 then .ok (rangeL i (j - i).toNat) else .stuck
  | _ => .stuck
def iRng (fs : DenA) : DenI := fun ρ => (fs ρ).bind rng1
theorem rds_one {F H : Hp} {vs : List V} {d : D} (h : Rds K F H vs [d]) : ∃ v, vs = [v] ∧ Rd' K F H v d := by
  cases h with
  | cons r t => cases t; exact ⟨_, rfl, r⟩
theorem rds_two {F H : Hp} {vs : List V} {d e : D} (h : Rds K F H vs [d, e]) : ∃ v u, vs = [v, u] ∧ Rd' K F H v d ∧ Rd' K F H u e := by
  cases h with
  | cons r t => cases t with | cons r2 t => cases t; exact ⟨_, _, rfl, r, r2⟩
theorem rng1_shape {es : List D} {ds : List D} (h : rng1 es = .ok ds) : (∃ j, es = [.int j] ∧ -(2 ^ 62) ≤ j ∧ j < 2 ^ 62 ∧ ds = rangeL 0 j.toNat) ∨ ∃ i j, es = [.int i, .int j] ∧ (-(2 ^ 62) ≤ i ∧ i < 2 ^ 62 ∧ -(2 ^ 62) ≤ j ∧ j < 2 ^ 62) ∧ ds = rangeL i (j - i).toNat := by
  unfold rng1 at h
  split at h
  · split at h
    · rename_i z; cases h; exact .inl ⟨_, rfl, z.1, z.2, rfl⟩
    · cases h
  · split at h
    · rename_i z; cases h; exact .inr ⟨_, _, rfl, z, rfl⟩
    · cases h
  · cases h
theorem rng1_nx (es : List D) (x : Str) : rng1 es ≠ .exn x := by unfold rng1; (repeat' split) <;> (intro h; cases h)
theorem ij_range1 {a : Expr} {fs : DenA} {p : Pos} (hm : X.mg "range" = none) (ha : AR X c [a] fs) [hl : ALen fs 1] (hg : Gl X "range" := by rfl) (hs : starEach [a] X.env = [(false, eval a X.env)] := by rfl) : IJ X c tg (.Call (.Name "range" p) [a] [] pos) (iRng fs) := by
  refine ⟨_, pi_range1 hg hm (pa_wp _) hs, fun ρ σ F H R S o => ha ρ σ F H _ S (o.seq fun es F1 H1 vs e0 g1 r1 o1 => ?_)⟩
  cases q : rng1 es with
  | ok ds =>
    rw [q] at o1
    have ll := hl.len ρ es e0
    rcases rng1_shape q with ⟨j, rfl, z1, z2, rfl⟩ | ⟨i, j, rfl, _⟩
    · obtain ⟨v, rfl, r⟩ := rds_one r1
      rw [rd_int r]
      exact ⟨j, rfl, z1, z2, o1 F1 H1 _ (Grow.refl g1.fh) iter_range⟩
    · exact absurd ll (by simp)
  | exn x => exact absurd q (rng1_nx _ _)
  | stuck => rw [q] at o1; exact o1.elim
theorem ij_range2 {a b : Expr} {fs : DenA} {p : Pos} (hm : X.mg "range" = none) (ha : AR X c [a, b] fs) [hl : ALen fs 2] (hg : Gl X "range" := by rfl) (hs : starEach [a, b] X.env = [(false, eval a X.env), (false, eval b X.env)] := by rfl)
    (hs2 : starEach [b] X.env = [(false, eval b X.env)] := by rfl) : IJ X c tg (.Call (.Name "range" p) [a, b] [] pos) (iRng fs) := by
  refine ⟨_, pi_range2 hg hm (pa_wp _) hs hs2, fun ρ σ F H R S o => ha ρ σ F H _ S (o.seq fun es F1 H1 vs e0 g1 r1 o1 => ?_)⟩
  cases q : rng1 es with
  | ok ds =>
    rw [q] at o1
    have ll := hl.len ρ es e0
    rcases rng1_shape q with ⟨j, rfl, _⟩ | ⟨i, j, rfl, z, rfl⟩
    · exact absurd ll (by simp)
    · obtain ⟨v, u, rfl, r, r2⟩ := rds_two r1
      rw [rd_int r, rd_int r2]
      exact ⟨i, j, rfl, z, o1 F1 H1 _ (Grow.refl g1.fh) iter_range⟩
  | exn x => exact absurd q (rng1_nx _ _)
  | stuck => rw [q] at o1; exact o1.elim

def forD (T : Tg) (body : SDen) : List D → En → SRes
  | [], ρ => .next ρ
  | d :: ds, ρ => match asg T d ρ with
    | .ok ρ1 => match body ρ1 with
      | .next ρ2 => forD T body ds ρ2
      | .cont ρ2 => forD T body ds ρ2
      | .brk ρ2 => .next ρ2
      | .ret d => .ret d
      | .exn x ρ2 => .exn x ρ2
      | .stuck => .stuck
    | _ => .stuck
def sFor (f : DenI) (T : Tg) (body : SDen) : SDen := fun ρ => match f ρ with
  | .ok ds => forD T body ds ρ
  | .exn x => .exn x ρ
  | .stuck => .stuck
theorem sj_for {iter : Expr} {body : List Stmt} {f : DenI} {T : Tg} {g : SDen} (hp : PassesOwn (model X.prog X.w) X.A X.env X.xe) (hc : X.calm = true) (hi : IJ X c tg iter f) (hg : GJ X tg T) (hb : BJ X c body g)
    (hs : ∀ x, foldedSetIterable iter X.env x = pure x := by intro _; rfl) : SJ X c (.For tg iter body [] pos) (sFor f T g) := by
  obtain ⟨wi, pwi, qwi⟩ := hi.ok
  intro ρ σ F H D S o
  refine wps_of (ps_for hp hc pwi (pg_wp tg) (pss_wp body) hs) (qwi ρ σ F H _ S (lift_out (k := fun ds => forD T g ds ρ) S (by
    have e : sFor f T g ρ = lift (f ρ) ρ fun ds => forD T g ds ρ := by unfold sFor; cases f ρ <;> rfl
    rw [e] at o; exact o) fun ds F1 H1 J _ g1 it o1 => ?_))
  · refine ⟨fun i m σ' H' => m = ds.length - i ∧ i ≤ ds.length ∧ ∃ ρ' F', Sim X.K c.F0 c.H0 F' H' ρ' σ' ∧ Same F1 F' ∧ SOut X c F' D (forD T g (ds.drop i) ρ'), ⟨ds.length, by simp, Nat.zero_le _, ρ, F1, S.grow g1, Same.refl _, by simpa using o1⟩, ?_⟩
    rintro i m σ' H' ⟨rfl, hi, ρ', F', S', sm, o'⟩
    by_cases hlt : i < ds.length
    · refine .inr ⟨it.go i F' H' hlt sm S'.g.fh, fun σ2 H2 => ∃ ρ2 F2, Sim X.K c.F0 c.H0 F2 H2 ρ2 σ2 ∧ Same F1 F2 ∧ SOut X c F2 D (forD T g (ds.drop (i + 1)) ρ2), fun σ2 H2 h => ⟨ds.length - (i + 1), by omega, rfl, hlt, h⟩, fun x H2 y => ?_⟩
      have ed : ds[i]? = some ds[i] := by simp [hlt]
      obtain ⟨F2, g2, r2⟩ := it.yld i ds[i] F' H' x H2 ed sm S'.g.fh y
      have hdrop : ds.drop i = ds[i] :: ds.drop (i + 1) := List.drop_eq_getElem_cons hlt
      rw [hdrop] at o'
      unfold forD at o'
      cases e1 : asg T ds[i] ρ' with
      | ok ρ1 =>
        rw [e1] at o'
        refine gj_asg hg (S'.grow g2) r2 e1 fun σ3 S3 _ => ?_
        refine hb ρ1 σ3 F2 H2 _ S3 ?_
        have sm2 : Same F1 F2 := sm.trans g2.f
        cases e2 : g ρ1 with
        | next ρ2 => simp only [e2] at o'; exact fun σ4 F4 H4 S4 sm4 => ⟨ρ2, F4, S4, sm2.trans sm4, o'.mono (g2.f.trans sm4)⟩
        | cont ρ2 => simp only [e2] at o'; exact fun σ4 F4 H4 S4 sm4 => ⟨ρ2, F4, S4, sm2.trans sm4, o'.mono (g2.f.trans sm4)⟩
        | brk ρ2 => simp only [e2] at o'; exact fun σ4 F4 H4 S4 sm4 => o' σ4 F4 H4 S4 (g2.f.trans sm4)
        | ret d => simp only [e2] at o'; exact o'
        | exn x ρ2 => simp only [e2] at o'; exact fun σ4 F4 H4 cls dd S4 sm4 => o' σ4 F4 H4 cls dd S4 (g2.f.trans sm4)
        | stuck => simp only [e2] at o'; exact o'.elim
      | exn x => rw [e1] at o'; exact o'.elim
      | stuck => rw [e1] at o'; exact o'.elim
    · have e : i = ds.length := by omega
      subst e
      rw [List.drop_length] at o'
      exact .inl ⟨it.stop _ F' H' (Nat.le_refl _) sm S'.g.fh, o' σ' F' H' S' (Same.refl _)⟩

/-- while -/
def whN (t : En → Res Bool) (body : SDen) : Nat → En → Option SRes
  | 0, _ => none
  | n + 1, ρ => match t ρ with
    | .ok true => match body ρ with
      | .next ρ' => whN t body n ρ'
      | .cont ρ' => whN t body n ρ'
      | .brk ρ' => some (.next ρ')
      | .ret d => some (.ret d)
      | .exn x ρ' => some (.exn x ρ')
      | .stuck => some .stuck
    | .ok false => some (.next ρ)
    | .exn x => some (.exn x ρ)
    | .stuck => some .stuck
open Classical in
noncomputable def whD (t : En → Res Bool) (body : SDen) (ρ : En) : SRes := if h : ∃ r n, whN t body n ρ = some r then h.choose else .stuck
theorem sj_while {q : Expr} {body : List Stmt} {t : En → Res Bool} {g : SDen} (hp : PassesOwn (model X.prog X.w) X.A X.env X.xe) (ht : TJ X c q t) (hb : BJ X c body g) : SJ X c (.While q body [] pos) (whD t g) := by
  intro ρ σ F H D S o
  unfold whD at o
  split at o
  · rename_i h
    obtain ⟨n, hn⟩ := h.choose_spec
    generalize h.choose = r at o hn
    refine wps_of (ps_while hp (pt_wp q) (pss_wp body)) ⟨fun m σ' H' => ∃ ρ' F', Sim X.K c.F0 c.H0 F' H' ρ' σ' ∧ Same F F' ∧ whN t g m ρ' = some r, ⟨n, ρ, F, S, Same.refl _, hn⟩, ?_⟩
    rintro m σ' H' ⟨ρ', F', S', sm, e⟩
    cases m with
    | zero => cases e
    | succ m =>
      unfold whN at e
      refine ht ρ' σ' F' H' _ S' ?_
      cases e1 : t ρ' with
      | ok b =>
        intro F1 H1 v g1 rv
        subst rv
        have S1 := S'.grow g1
        have sm1 := sm.trans g1.f
        cases v with
        | false =>
          rw [e1] at e
          cases e
          rw [if_neg Bool.false_ne_true]
          exact o σ' F1 H1 S1 sm1
        | true =>
          rw [e1] at e
          rw [if_pos rfl]
          refine ⟨fun σ2 H2 => ∃ ρ2 F2, Sim X.K c.F0 c.H0 F2 H2 ρ2 σ2 ∧ Same F F2 ∧ whN t g m ρ2 = some r, fun σ2 H2 h => ⟨m, Nat.lt_succ_self _, h⟩, ?_⟩
          refine hb ρ' σ' F1 H1 _ S1 ?_
          cases e2 : g ρ' with
          | next ρ2 => simp only [e2] at e; exact fun σ4 F4 H4 S4 sm4 => ⟨ρ2, F4, S4, sm1.trans sm4, e⟩
          | cont ρ2 => simp only [e2] at e; exact fun σ4 F4 H4 S4 sm4 => ⟨ρ2, F4, S4, sm1.trans sm4, e⟩
          | brk ρ2 => simp only [e2] at e; cases e; exact fun σ4 F4 H4 S4 sm4 => o σ4 F4 H4 S4 (sm1.trans sm4)
          | ret d => simp only [e2] at e; cases e; exact o
          | exn x ρ2 => simp only [e2] at e; cases e; exact fun σ4 F4 H4 cls dd S4 sm4 => o σ4 F4 H4 cls dd S4 (sm1.trans sm4)
          | stuck => simp only [e2] at e; cases e; exact o.elim
      | exn x =>
        rw [e1] at e
        cases e
        exact fun F1 H1 cls dd g1 xr => o σ' F1 H1 cls dd (S'.grow g1) (sm.trans g1.f) xr
      | stuck =>
        rw [e1] at e
        cases e
        exact o.elim
  · exact o.elim

/-! ### defs -/
def runB (g : SDen) (n : Nat) (ds : List D) : Res D := match g (ds.map (fun d => some (.frz d)) ++ List.replicate (n - ds.length) none) with
  | .next _ => .ok .non
  | .ret d => .ok d
  | .exn x _ => .exn x
  | _ => .stuck
theorem start_sim {F H : Hp} {N : List Str} {vs : List V} {ds : List D} (s : Same F H) (r : Reps K F vs ds) : Sim K F H F H (ds.map (fun d => some (.frz d)) ++ List.replicate (N.length - ds.length) none) (L2.start N vs) where
  g := Grow.refl s
  len := by unfold L2.start; rw [List.length_append, List.length_append, List.length_map, List.length_map, List.length_replicate, List.length_replicate, r.length]
  frz := fun i d h => by
    by_cases hi : i < ds.length
    · rw [List.getElem?_append_left (by simpa using hi), List.getElem?_map] at h
      obtain ⟨e, e1, e2⟩ := Option.map_eq_some_iff.mp h
      cases e2
      obtain ⟨v, k1, k2⟩ := r.get e1
      refine ⟨v, ?_, k2⟩
      unfold L2.start
      rw [List.getElem?_append_left (by rw [List.length_map, r.length]; exact hi), List.getElem?_map, k1]
      rfl
    · rw [List.getElem?_append_right (by simpa using hi), List.getElem?_replicate] at h
      split at h <;> cases h
  own := fun i es h => by
    by_cases hi : i < ds.length
    · rw [List.getElem?_append_left (by simpa using hi), List.getElem?_map] at h
      obtain ⟨e, e1, e2⟩ := Option.map_eq_some_iff.mp h
      cases e2
    · rw [List.getElem?_append_right (by simpa using hi), List.getElem?_replicate] at h
      split at h <;> cases h
  dis := fun i j es fs a hn h => by
    by_cases hi : i < ds.length
    · rw [List.getElem?_append_left (by simpa using hi), List.getElem?_map] at h
      obtain ⟨e, e1, e2⟩ := Option.map_eq_some_iff.mp h
      cases e2
    · rw [List.getElem?_append_right (by simpa using hi), List.getElem?_replicate] at h
      split at h <;> cases h
  mu := fun i es h => by
    by_cases hi : i < ds.length
    · rw [List.getElem?_append_left (by simpa using hi), List.getElem?_map] at h
      obtain ⟨e, e1, e2⟩ := Option.map_eq_some_iff.mp h
      cases e2
    · rw [List.getElem?_append_right (by simpa using hi), List.getElem?_replicate] at h
      split at h <;> cases h
  mdis := fun i j es fs a hn h => by
    by_cases hi : i < ds.length
    · rw [List.getElem?_append_left (by simpa using hi), List.getElem?_map] at h
      obtain ⟨e, e1, e2⟩ := Option.map_eq_some_iff.mp h
      cases e2
    · rw [List.getElem?_append_right (by simpa using hi), List.getElem?_replicate] at h
      split at h <;> cases h
theorem body_core {P : Program} {w : World} {mg : Str → Option Value} {base : Heap} {x : Str} {st : Stmt} {N : List Str} {f : Addr} {cdv : Value} {A : Around} {outer : List PySem.Env} {s : Shared} {H F : Hp} {Q : VK} {E : XK} {g : SDen} {vs : List V} {ds : List FV.D} (sm : St F H)
    (hb : BJ (cxOf (L2.CX P w) P w K mg base N x (defScope st) f cdv A outer s H E) ⟨F, H, fun cls d _ H => E cls d H, sm⟩ (defBody st) g) (r : Reps K F vs ds)
    (h : match runB g N.length ds with | .ok d => ∀ F' H' v, Grow F H F' H' → Rep K F' v d → Q v H' | .exn x => ∀ F' H' cls dd, Grow F H F' H' → XR mg x cls dd → E cls dd H' | .stuck => False) :
    WpB (cxOf (L2.CX P w) P w K mg base N x (defScope st) f cdv A outer s H E) (defBody st) { nx := fun _ H' => Q .non H', rt := Q } (L2.start N vs) H := by
  refine hb _ _ F H _ (start_sim sm.1 r) ?_
  unfold runB at h
  cases e : g (ds.map (fun d => some (.frz d)) ++ List.replicate (N.length - ds.length) none) with
  | next ρ' => rw [e] at h; exact fun σ' F' H' S _ => h F' H' .non S.g .non
  | ret d => rw [e] at h; exact h
  | exn x ρ' => rw [e] at h; exact fun σ' F' H' cls dd S _ xr => h F' H' cls dd S.g xr
  | brk ρ' => rw [e] at h; exact h.elim
  | cont ρ' => rw [e] at h; exact h.elim
  | stuck => rw [e] at h; exact h.elim
/-- THE RULE for a def: by its body's denotation -/
theorem fun_ok {P : Program} {w : World} {mg : Str → Option Value} {base : Heap} {x qual : Str} {st : Stmt} {f : Addr} {fd : FuncData} {N ps : List Str} {k : Nat} {g : SDen} (Fn : Fun K x qual st f fd) (Sc : FnScope N ps (defScope st))
    (hbody : ∀ (cdv : Value) (A : Around) (outer : List PySem.Env) (s : Shared) (H F : Hp) (E : XK), Room k (A.deeper (envOfC qual (defScope st) s.heap.objs.size f cdv)) →
      ∀ {sm : St F H}, BJ (cxOf (L2.CX P w) P w K mg base N qual (defScope st) f cdv A outer s H E) ⟨F, H, fun cls d _ H => E cls d H, sm⟩ (defBody st) g) :
    FnOk P w K mg base (L2.CX P w) (k + 1) f fd ps (spOf K mg ps.length (runB g N.length)) := by
  refine Fn.okX Sc (fun vs H Q E h => h.1) fun cdv A outer s H vs Q E hr h => ?_
  obtain ⟨hl, F, ds, sm, r, h⟩ := h
  refine ⟨fun D σ H => WpB _ (defBody st) D σ H, pss_wp _, ?_⟩
  refine hbody cdv A outer s H F E hr (sm := sm) _ _ F H _ (start_sim sm.1 r) ?_
  unfold runB at h
  cases e : g (ds.map (fun d => some (.frz d)) ++ List.replicate (N.length - ds.length) none) with
  | next ρ' => rw [e] at h; exact fun σ' F' H' S _ => h F' H' .non S.g .non
  | ret d => rw [e] at h; exact h
  | exn x ρ' => rw [e] at h; exact fun σ' F' H' cls dd S _ xr => h F' H' cls dd S.g xr
  | brk ρ' => rw [e] at h; exact h.elim
  | cont ρ' => rw [e] at h; exact h.elim
  | stuck => rw [e] at h; exact h.elim
end
end FV

set_option maxHeartbeats 4000000
/-! FV4T: enumerate of a tuple. -/
namespace FV
open PySem PySem.Spec PyProof.Rows L2
variable [Tbs]
open AutoSeq1 (wpAny_loadPart')
theorem meets_enumerate_newT (l : Addr) (items : Array Value) (n : Nat) (dct : Option Addr) (sl : Array (Option Value)) :
    Meets (Builtin.«enumerate.__new__» ⟨[.type "enumerate", .ref l], []⟩) (fun _ R s => s.heap.get? l = some { cls := .type "tuple", dict := dct, data := .seq items n, slots := sl } ∧
      R (.ok (.ret (.ref (s.heap.push { cls := .type "tuple_iterator", data := .fields #[.ref l, .int 0 0] }).objs.size)))
        { s with heap := (s.heap.push { cls := .type "tuple_iterator", data := .fields #[.ref l, .int 0 0] }).push { cls := .type "enumerate", data := .fields #[.none, .bool false, .ref s.heap.objs.size, rawInt 0, .none, .none] } }) :=
  .of_wp fun prog w A R s h => by
    obtain ⟨hp, g, d, tk, os⟩ := s; obtain ⟨hl, h⟩ := h
    have hsub := sub_enumerate
    have hL : IsTup (Shared.heap ⟨hp, g, d, tk, os⟩) l items := ⟨_, hl, rfl, n, rfl⟩
    wp_walk using wpAny_loadPart' hl
    refine wpAny_stack_any fun st => wpAny_pure ?_
    split
    · rename_i c _ _ _ _ _
      cases (c == Value.type "enumerate")
      · wp_walk using wpAny_loadPart' hl, iter_tuple hL
        exact ⟨_, rfl, h⟩
      · wp_walk using wpAny_loadPart' hl, iter_tuple hL
        exact ⟨_, rfl, h⟩
    · wp_walk using wpAny_loadPart' hl, iter_tuple hL
      exact ⟨_, rfl, h⟩
section
variable {prog : Program} {w : World} {A : Around} {E : Value → Shared → Prop} {s : Shared}
theorem call_enumerate_tuple {l : Addr} {items : Array Value} {Q : Value → Shared → Prop} (hL : IsTup s.heap l items)
    (h : ∀ h', IsEnum h' (s.heap.objs.size + 1) s.heap.objs.size 0 .none → h'.IsTupleIter s.heap.objs.size l 0 → h'.objs.size = s.heap.objs.size + 2 →
      (∀ b o, s.heap.get? b = some o → h'.get? b = some o) → Q (.ref (s.heap.objs.size + 1)) { s with heap := h' }) :
    wpAny (model prog w) A (call (.type "enumerate") [.ref l]) Q E s := by
  obtain ⟨⟨c, dct, dt, sl⟩, hl, hc, n, hd⟩ := hL
  replace hc : c = .type "tuple" := hc
  replace hd : dt = .seq items n := hd
  subst hc hd
  refine callType_new F.called_enumerate (by decide) (F.typeCall_enumerate_1 _) (F.newCall_enumerate_1 _) (fun obj => F.args_object_init_2 obj _) F.entry_enumerate_new
    (meets_enumerate_newT l items n dct sl) ⟨hl, ?_⟩
  have hz : (s.heap.push { cls := .type "tuple_iterator", data := .fields #[.ref l, .int 0 0] }).objs.size = s.heap.objs.size + 1 := Heap.size_push ..
  show _ ∧ _
  rw [hz]
  have he : IsEnum ((s.heap.push { cls := .type "tuple_iterator", data := .fields #[.ref l, .int 0 0] }).push
      { cls := .type "enumerate", data := .fields #[.none, .bool false, .ref s.heap.objs.size, rawInt 0, .none, .none] }) (s.heap.objs.size + 1) s.heap.objs.size 0 .none := by
    have := Heap.get?_push_size (s.heap.push { cls := .type "tuple_iterator", data := .fields #[.ref l, .int 0 0] })
      (o := { cls := .type "enumerate", data := .fields #[.none, .bool false, .ref s.heap.objs.size, rawInt 0, .none, .none] }) rfl
    rw [hz] at this; exact this
  refine ⟨⟨_, he, rfl⟩, h _ he ⟨_, Heap.get?_push_of_some _ (Heap.get?_push_size _ rfl), rfl, rfl⟩ (by rw [Heap.size_push, hz]) fun b o x => Heap.get?_push_of_some _ (Heap.get?_push_of_some _ x)⟩
end
/-- the tuple at a, each item in a new pair -/
def Itet (K : PySem.W.Frag) (a : Addr) : It :=
  ⟨fun i H => ∃ (xs : List V) (x : V), SqT K H a xs ∧ xs[i]? = some x, fun i H v H' => ∃ T x, v = .ref T ∧ H T = none ∧ H' = upd H T (.tup [.int (i : Nat), x]) ∧ ∀ xs, SqT K H a xs → xs[i]? = some x, fun i H => ∃ xs : List V, SqT K H a xs ∧ xs.length ≤ i⟩
theorem turn_enumT {P : Program} {w : World} {K : PySem.W.Frag} {elts : List Expr} {kk : Nat} {tpos : Pos} (a e it : Addr) :
    Turn P w K (.Tuple elts kk tpos) (Itet K a) [e, it] e (fun i h => (∃ old, IsEnum h e it ((i : Nat) : Int) old) ∧ h.IsTupleIter it a i ∧ e ≠ it) where
  mem := by simp
  obj := fun i h st b hb => by
    obtain ⟨⟨old, he⟩, ⟨o, ho, hc, hd⟩, _⟩ := st
    have e' : b = e ∨ b = it := by simpa using hb
    rcases e' with z | z
    · rw [z]; exact ⟨_, he, fun v q => nomatch q⟩
    · rw [z]; exact ⟨o, ho, fun v q => by rw [hd] at q; cases q⟩
  keep := fun i h h' st k => let ⟨⟨old, he⟩, hi, hne⟩ := st; ⟨⟨old, k e (by simp) _ he⟩, hi.at fun o q => k it (by simp) o q, hne⟩
  item := by
    intro X hP hw hK hc i pins s σ H E I hf st hg
    subst hP hw hK
    obtain ⟨⟨old, he⟩, hit, hne⟩ := st
    obtain ⟨xs, x, hq, hx⟩ := hg
    obtain ⟨its, rv, p, hz⟩ := I.tuple hq
    obtain ⟨u, hu, ru⟩ := rv.get hx
    have hel : e < s.heap.objs.size := Heap.lt_size he
    have hil : it < s.heap.objs.size := by obtain ⟨_, q, _⟩ := hit; exact Heap.lt_size q
    have hai : a ≠ it := fun z => by
      obtain ⟨o, ho, hc, _⟩ := p
      obtain ⟨o2, ho2, hc2, _⟩ := hit
      rw [z, ho2] at ho; cases ho
      rw [hc2] at hc; injection hc with hc; exact absurd hc (by decide)
    have hae : e ≠ a := fun z => by
      obtain ⟨o, ho, hc, _⟩ := p
      rw [← z] at ho
      have he' : s.heap.get? e = _ := he
      rw [he'] at ho; cases ho
      injection hc with hc; exact absurd hc (by decide)
    have hi : i < its.toArray.size := by
      have := (List.getElem?_eq_some_iff.mp hu).1
      simpa using this
    refine wpAny_pyNext_enum_itemD (Draws.tuple (A := X.A.in1) (show X.A.in1.handled = none from I.ok.hd hc) it a hai its.toArray) he ⟨hit, (show s.heap.IsTuple a its.toArray from p)⟩ hi hne (by simp [hne, hae]) fun x' h' tk hx' ho hit' hT hsz hk => ?_
    have hxu : x' = u := by
      have : its[i]? = some x' := by simpa using hx'
      rw [hu] at this; cases this; rfl
    subst hxu
    refine ⟨_, rfl, wpAny_letOwnedTupleGo_enum (s := { s with heap := h', toks := tk + 1 }) ho fun h'' he' sb => ?_⟩
    have hT2 : h''.get? s.heap.objs.size = some { cls := .type "tuple", data := .seq #[.int i tk, x'] } := (sb.2 _ (Nat.ne_of_gt hel)).trans hT
    have new : ObjOk X.prog X.w (upd H s.heap.objs.size (.tup [.int (i : Nat), x])) h'' s.heap.objs.size (.tup [.int (i : Nat), x]) :=
      ⟨by show 2 ≤ sizeLine; decide, [.int i tk, x'], .cons ⟨_, rfl⟩ (.cons ru .nil), ⟨_, hT2, rfl, _, rfl⟩⟩
    have I1 : Inv X pins σ (upd H s.heap.objs.size (.tup [.int (i : Nat), x])) { s with heap := h'', toks := tk + 1 } :=
      I.turnedNew (ch := [e, it]) (fun b ob hb q => (sb.2 b (fun z => hb (by simp [z]))).trans (hk b ob (fun z => hb (by simp [z])) (fun z => hb (by simp [z])) q)) hf (Nat.le_refl _) new
    refine ⟨.ref s.heap.objs.size, _, I1, rfl, ⟨_, x, rfl, I.hok.fresh (Nat.le_refl _), rfl, fun ys hy => by rw [I.tuple_inj hy hq]; exact hx⟩, ⟨⟨x', ?_⟩, hit'.1.at fun o q => (sb.2 it (Ne.symm hne)).trans q, hne⟩, fun b hb => ?_⟩
    · have e1 : ((i + 1 : Nat) : Int) = (i : Int) + 1 := by omega
      rw [e1]; exact he'
    · have hb' : b < s.heap.objs.size := by
        have e' : b = e ∨ b = it := by simpa using hb
        rcases e' with z | z
        · rw [z]; exact hel
        · rw [z]; exact hil
      rw [upd_ne (Nat.ne_of_lt hb')]
      exact (hf b hb).1
  done := by
    intro X hP hw hK hc i pins s σ H E I hf st hg
    subst hP hw hK
    obtain ⟨⟨old, he⟩, hit, hne⟩ := st
    obtain ⟨xs, hq, hx⟩ := hg
    obtain ⟨its, rv, p, hz⟩ := I.tuple hq
    obtain ⟨f0, f1, f2, f3, f4, f5⟩ := hf it (by simp)
    have hl := rv.length
    have hai : a ≠ it := fun z => by
      obtain ⟨o, ho, hc, _⟩ := p
      obtain ⟨o2, ho2, hc2, _⟩ := hit
      rw [z, ho2] at ho; cases ho
      rw [hc2] at hc; injection hc with hc; exact absurd hc (by decide)
    have hgen : ∀ (n : Nat) (A : Around) (hh : A.in1.handled = none) (Q : Option Value → Shared → Prop) (E : Value → Shared → Prop), its.toArray.size ≤ i → (∀ h', Heap.ExtBut it s.heap h' → Q none { s with heap := h' }) → wpAny (model X.prog X.w) A (pyNext (.ref e)) Q E s := fun n A hh Q E hle hQ => by
      have hT : s.TypeIs (.ref e) "enumerate" := ⟨_, he, rfl⟩
      unfold pyNext
      refine wpAny_bind (wpAny_attempt (wpAny_callSpecial?_slot (name := Str.ofString "__next__") hT PySem.F.slot_enumerate_next
        (wpAny_call_entry PySem.F.slot_enumerate_next hT PySem.F.entry_enumerate_next ?_ (PySem.F.args_enumerate_next_1 _))))
      show wpAny _ _ (field (.ref e) 2 >>= _) _ _ _
      refine wpAny_bind (wpAny_field he rfl (x := .ref it) rfl ?_)
      refine wpAny_bind (wpAny_nextOf_tuple_end hh hit (show s.heap.IsTuple a its.toArray from p) (by simp at hle ⊢; omega) fun h' x he' hx' => ?_)
      obtain ⟨o, ho, hc⟩ := hx'
      refine wpAny_bind (wpAny_isInstance (T := "StopIteration") (b := true) ⟨o, ho, hc⟩ isSubtype_stop ?_)
      exact wpAny_pure (hQ _ he')
    exact hgen 0 _ (I.ok.hd hc) _ _ (by simp; omega) fun h' eb => ⟨rfl, I.turned (t' := s.toks) (fun b o hb q => eb b o hb q) f0 f1 f3 f4 f5⟩
  self := fun A i s Q E st h => let ⟨⟨_, he⟩, _⟩ := st; wpAny_pyIter_enum he h
/-- of a list or a tuple -/
def iEnumA (K : PySem.W.Frag) (ta : TA) : TI := fun σ H R => ta σ H fun vs H1 => ∃ a, vs = [.ref a] ∧ ((∃ xs, SqL K H1 a xs) ∧ R (Ite K a) H1 ∨ (∃ xs, SqT K H1 a xs) ∧ R (Itet K a) H1)
theorem pi_enumA {X : Cx} {e : Expr} {ta : TA} {p pos tpos : Pos} {elts : List Expr} {kk : Nat} (hg : Gl X "enumerate") (hm : X.mg "enumerate" = none) (ha : PA X [e] ta) (hs : starEach [e] X.env = [(false, eval e X.env)] := by rfl) :
    PI X (.Tuple elts kk tpos) (.Call (.Name "enumerate" p) [e] [] pos) (iEnumA X.K ta) := by
  refine ⟨fun pins s σ H R I h => ?_⟩
  refine Call_ (ld_blt I hg hm boot_enumerate (PyProof.Rows.callWith_type1 (thn (ha.run pos pins s σ H _ I h) fun us s1 ⟨vs, H1, I1, r1, q1⟩ => ?_) hs rfl))
  obtain ⟨a, ex, q⟩ := q1
  subst ex
  cases r1 with
  | cons r rr =>
    cases rr
    cases r
    have fin : ∀ (h' : Heap) (hk : ∀ b o, s1.heap.get? b = some o → h'.get? b = some o) (b : Addr), b ∈ [s1.heap.objs.size + 1, s1.heap.objs.size] → FpOk X pins H1 b := fun h' hk b hb => by
      have e' : b = s1.heap.objs.size + 1 ∨ b = s1.heap.objs.size := by simpa using hb
      have hle : s1.heap.objs.size ≤ b := by
        rcases e' with z | z
        · rw [z]; exact Nat.le_add_right _ _
        · rw [z]; exact Nat.le_refl _
      exact I1.fpOk hle (I1.hok.fresh hle)
    rcases q with ⟨⟨xs, hq⟩, q⟩ | ⟨⟨xs, hq⟩, q⟩
    · obtain ⟨its, rv, p', hz⟩ := I1.list hq
      refine call_enumerate_list p'.isList fun h' he hit hsz hk => wpAny_pyIter_enum he ?_
      have I2 : Inv X pins σ H1 { s1 with heap := h' } := I1.kept (t' := s1.toks) hk
      exact ⟨s1.heap.objs.size + 1, [s1.heap.objs.size + 1, s1.heap.objs.size], _, _, H1, rfl, I2, turn_enum a (s1.heap.objs.size + 1) s1.heap.objs.size, ⟨⟨.none, he⟩, hit, Nat.succ_ne_self _⟩, fun b hb => fin h' hk b hb, q⟩
    · obtain ⟨its, rv, p', hz⟩ := I1.tuple hq
      refine call_enumerate_tuple p' fun h' he hit hsz hk => wpAny_pyIter_enum he ?_
      have I2 : Inv X pins σ H1 { s1 with heap := h' } := I1.kept (t' := s1.toks) hk
      exact ⟨s1.heap.objs.size + 1, [s1.heap.objs.size + 1, s1.heap.objs.size], _, _, H1, rfl, I2, turn_enumT a (s1.heap.objs.size + 1) s1.heap.objs.size, ⟨⟨.none, he⟩, hit, Nat.succ_ne_self _⟩, fun b hb => fin h' hk b hb, q⟩
end FV

set_option maxHeartbeats 4000000
/-! FV5: built-in calls, isinstance, comprehensions, enumerate, zip, raise. -/
namespace FV
open PySem PySem.Spec PyProof.Rows L2
variable [Tbs]
section
variable {X : Cx} {c : Cc} {K : PySem.W.Frag} {F H : Hp} {pos : Pos} {tg : Expr}

/-! ### len, abs, min, max, int, list, tuple, all, any, sum, str -/
def lenD : List D → Res D
  | [.str z] => if z.length ≤ sizeLine then .ok (.int z.length) else .stuck
  | [d] => match d.items with
    | some ds => .ok (.int ds.length)
    | none => .stuck
  | _ => .stuck
theorem len_nx : NoX1 lenD := fun ds x => by unfold lenD; (repeat' split) <;> (intro h; cases h)
theorem len_ok : CallD X (.builtin "len") lenD := by
  intro ds
  refine ⟨_, call_len, fun vs F H Q s r0 o => ?_⟩
  unfold lenD at o
  split at o
  · split at o
    · obtain ⟨v, rfl, r⟩ := rds_one r0
      rw [rd_str r]
      exact ⟨_, _, rfl, ⟨by assumption, rfl⟩, o.here s (.int _)⟩
    · exact o.elim
  · split at o
    · rename_i d _ ds e
      obtain ⟨v, rfl, r⟩ := rds_one r0
      obtain ⟨a, vs, rfl, h1, h2, h3⟩ := rd_items s r e
      have l := h3.length
      rcases h1 with ⟨h1, _⟩ | ⟨h1, _⟩
      · exact ⟨_, vs.length, rfl, .inl ⟨vs, h1, rfl⟩, by rw [l]; exact o.here s (.int _)⟩
      · exact ⟨_, vs.length, rfl, .inr ⟨vs, h1, rfl⟩, by rw [l]; exact o.here s (.int _)⟩
    · exact o.elim
  · exact o.elim
def absD : List D → Res D
  | [.int i] => .ok (.int (if i < 0 then -i else i))
  | _ => .stuck
theorem abs_nx : NoX1 absD := fun ds x => by unfold absD; (repeat' split) <;> (intro h; cases h)
theorem abs_ok : CallD X (.builtin "abs") absD := by
  intro ds
  refine ⟨_, call_abs, fun vs F H Q s r0 o => ?_⟩
  unfold absD at o
  split at o
  · obtain ⟨v, rfl, r⟩ := rds_one r0
    rw [rd_int r]
    exact ⟨_, rfl, o.here s (.int _)⟩
  · exact o.elim
def max2D : List D → Res D
  | [.int i, .int j] => .ok (.int (if j > i then j else i))
  | _ => .stuck
theorem max2_nx : NoX1 max2D := fun ds x => by unfold max2D; (repeat' split) <;> (intro h; cases h)
theorem max2_ok (hc : X.calm = true) : CallD X (.builtin "max") max2D := by
  intro ds
  refine ⟨_, call_max2 hc, fun vs F H Q s r0 o => ?_⟩
  unfold max2D at o
  split at o
  · obtain ⟨v, u, rfl, r, r2⟩ := rds_two r0
    rw [rd_int r, rd_int r2]
    exact ⟨_, _, rfl, o.here s (.int _)⟩
  · exact o.elim
def min2D : List D → Res D
  | [.int i, .int j] => .ok (.int (if j < i then j else i))
  | _ => .stuck
theorem min2_nx : NoX1 min2D := fun ds x => by unfold min2D; (repeat' split) <;> (intro h; cases h)
theorem min2_ok (hc : X.calm = true) : CallD X (.builtin "min") min2D := by
  intro ds
  refine ⟨_, call_min2 hc, fun vs F H Q s r0 o => ?_⟩
  unfold min2D at o
  split at o
  · obtain ⟨v, u, rfl, r, r2⟩ := rds_two r0
    rw [rd_int r, rd_int r2]
    exact ⟨_, _, rfl, o.here s (.int _)⟩
  · exact o.elim
def int1D : List D → Res D
  | [.int i] => .ok (.int i)
  | [.bl b] => .ok (.int (if b then 1 else 0))
  | _ => .stuck
theorem int1_nx : NoX1 int1D := fun ds x => by unfold int1D; (repeat' split) <;> (intro h; cases h)
theorem int1_ok : CallD X (.type "int") int1D := by
  intro ds
  refine ⟨_, call_int1, fun vs F H Q s r0 o => ?_⟩
  unfold int1D at o
  split at o
  · obtain ⟨v, rfl, r⟩ := rds_one r0
    rw [rd_int r]
    exact .inl ⟨_, rfl, o.here s (.int _)⟩
  · obtain ⟨v, rfl, r⟩ := rds_one r0
    rw [rd_bl r]
    exact .inr ⟨_, rfl, o.here s (.int _)⟩
  · exact o.elim
def listD : List D → Res D
  | [d] => match d.items with
    | some ds => .ok (.lst ds)
    | none => .stuck
  | _ => .stuck
theorem list_nx : NoX1 listD := fun ds x => by unfold listD; (repeat' split) <;> (intro h; cases h)
theorem list_ok : CallD X (.type "list") listD := by
  intro ds
  refine ⟨_, call_list_of, fun vs F H Q s r0 o => ?_⟩
  unfold listD at o
  split at o
  · split at o
    · rename_i d ds e
      obtain ⟨v, rfl, r⟩ := rds_one r0
      obtain ⟨a, vs, rfl, h1, h2, h3⟩ := rd_items s r e
      rcases h1 with ⟨h1, _⟩ | ⟨h1, _⟩
      · exact ⟨a, vs, rfl, .inl h1, fun p hp => o.newL s h2 h3 p hp⟩
      · exact ⟨a, vs, rfl, .inr h1, fun p hp => o.newL s h2 h3 p hp⟩
    · exact o.elim
  · exact o.elim
def tupleD : List D → Res D
  | [d] => match d.items with
    | some ds => .ok (.tup ds)
    | none => .stuck
  | _ => .stuck
theorem tuple_nx : NoX1 tupleD := fun ds x => by unfold tupleD; (repeat' split) <;> (intro h; cases h)
theorem tuple_ok : CallD X (.type "tuple") tupleD := by
  intro ds
  refine ⟨_, call_tuple_of, fun vs F H Q s r0 o => ?_⟩
  unfold tupleD at o
  split at o
  · split at o
    · rename_i d ds e
      obtain ⟨v, rfl, r⟩ := rds_one r0
      obtain ⟨a, vs, rfl, h1, h2, h3⟩ := rd_items s r e
      rcases h1 with ⟨h1, _⟩ | ⟨h1, e2⟩
      · exact ⟨a, vs, rfl, .inl ⟨h1, fun p hp => o.newT s h2 h3 p hp⟩⟩
      · subst e2
        obtain ⟨a', vs', e3, k1, k2, k3, k4⟩ := rd_tup s r
        cases e3
        exact ⟨a, vs', rfl, .inr ⟨k2, o.here s (.tup k1 k3 k4)⟩⟩
    · exact o.elim
  · exact o.elim
def boolsOf : List D → Option (List Bool)
  | [] => some []
  | .bl b :: ds => (boolsOf ds).map (b :: ·)
  | _ :: _ => none
theorem bools_rel : ∀ {ds : List D} {vs : List V} {bs : List Bool}, Reps K F vs ds → boolsOf ds = some bs → vs = bs.map V.bl
  | [], _, _, r, e => by cases r; cases e; rfl
  | .bl b :: ds, _, _, r, e => by
    cases r with
    | cons r t =>
      cases r
      unfold boolsOf at e
      obtain ⟨cs, e1, e2⟩ := Option.map_eq_some_iff.mp e
      subst e2
      rw [bools_rel t e1]; rfl
  | .non :: _, _, _, _, e => by cases e
  | .int _ :: _, _, _, _, e => by cases e
  | .str _ :: _, _, _, _, e => by cases e
  | .tup _ :: _, _, _, _, e => by cases e
  | .lst _ :: _, _, _, _, e => by cases e
  | .klst _ :: _, _, _, _, e => by cases e
  | .exn _ :: _, _, _, _, e => by cases e
def allD : List D → Res D
  | [.lst ds] => match boolsOf ds with
    | some bs => .ok (.bl (bs.all id))
    | none => .stuck
  | _ => .stuck
def anyD : List D → Res D
  | [.lst ds] => match boolsOf ds with
    | some bs => .ok (.bl (bs.any id))
    | none => .stuck
  | _ => .stuck
theorem all_nx : NoX1 allD := fun ds x => by unfold allD; (repeat' split) <;> (intro h; cases h)
theorem any_nx : NoX1 anyD := fun ds x => by unfold anyD; (repeat' split) <;> (intro h; cases h)
theorem all_ok (hc : X.calm = true) : CallD X (.builtin "all") allD := by
  intro ds
  refine ⟨_, cr_all hc, fun vs F H Q s r0 o => ?_⟩
  unfold allD at o
  split at o
  · split at o
    · rename_i ds bs e
      obtain ⟨v, rfl, r⟩ := rds_one r0
      obtain ⟨a, vs, rfl, h1, h2, h3⟩ := rd_lst s r
      have q := bools_rel h3 e
      subst q
      exact ⟨a, bs, rfl, SqL.of h1, o.here s (.bl _)⟩
    · exact o.elim
  · exact o.elim
theorem any_ok (hc : X.calm = true) : CallD X (.builtin "any") anyD := by
  intro ds
  refine ⟨_, cr_any hc, fun vs F H Q s r0 o => ?_⟩
  unfold anyD at o
  split at o
  · split at o
    · rename_i ds bs e
      obtain ⟨v, rfl, r⟩ := rds_one r0
      obtain ⟨a, vs, rfl, h1, h2, h3⟩ := rd_lst s r
      have q := bools_rel h3 e
      subst q
      exact ⟨a, bs, rfl, SqL.of h1, o.here s (.bl _)⟩
    · exact o.elim
  · exact o.elim
def intsOf : List D → Option (List Int)
  | [] => some []
  | .int b :: ds => (intsOf ds).map (b :: ·)
  | _ :: _ => none
theorem ints_rel : ∀ {ds : List D} {vs : List V} {bs : List Int}, Reps K F vs ds → intsOf ds = some bs → vs = bs.map V.int
  | [], _, _, r, e => by cases r; cases e; rfl
  | .int b :: ds, _, _, r, e => by
    cases r with
    | cons r t =>
      cases r
      unfold intsOf at e
      obtain ⟨cs, e1, e2⟩ := Option.map_eq_some_iff.mp e
      subst e2
      rw [ints_rel t e1]; rfl
  | .non :: _, _, _, _, e => by cases e
  | .bl _ :: _, _, _, _, e => by cases e
  | .str _ :: _, _, _, _, e => by cases e
  | .tup _ :: _, _, _, _, e => by cases e
  | .lst _ :: _, _, _, _, e => by cases e
  | .klst _ :: _, _, _, _, e => by cases e
  | .exn _ :: _, _, _, _, e => by cases e
def sumD : List D → Res D
  | [.lst ds] => match intsOf ds with
    | some bs => .ok (.int bs.sum)
    | none => .stuck
  | _ => .stuck
theorem sum_nx : NoX1 sumD := fun ds x => by unfold sumD; (repeat' split) <;> (intro h; cases h)
theorem sum_ok (hc : X.calm = true) : CallD X (.builtin "sum") sumD := by
  intro ds
  refine ⟨_, cr_sum hc, fun vs F H Q s r0 o => ?_⟩
  unfold sumD at o
  split at o
  · split at o
    · rename_i ds bs e
      obtain ⟨v, rfl, r⟩ := rds_one r0
      obtain ⟨a, vs, rfl, h1, h2, h3⟩ := rd_lst s r
      have q := ints_rel h3 e
      subst q
      exact ⟨a, bs, rfl, SqL.of h1, o.here s (.int _)⟩
    · exact o.elim
  · exact o.elim
def strD : List D → Res D
  | [.int i] => if i.natAbs.log2 < 1920 then .ok (.str (toString i)) else .stuck
  | _ => .stuck
theorem str_nx : NoX1 strD := fun ds x => by unfold strD; (repeat' split) <;> (intro h; cases h)
theorem str_ok : CallD X (.type "str") strD := by
  intro ds
  refine ⟨_, call_str_int, fun vs F H Q s r0 o => ?_⟩
  unfold strD at o
  split at o
  · split at o
    · obtain ⟨v, rfl, r⟩ := rds_one r0
      rw [rd_int r]
      exact ⟨_, rfl, by assumption, o.here s (.str _)⟩
    · exact o.elim
  · exact o.elim
/-- list(xs), a list of the def's own -/
theorem eo_list {x : Str} {p : Pos} {e : Expr} {f : Den} (hm : X.mg x = none) (ha : ER X c e f) (hg : Gl X x := by rfl) (hv : bootBuiltins x = some (.type "list") := by decide +kernel)
    (hn : x ≠ "__name__" := by decide) (hdb : (x == ("__debug__" : Str)) = false := by decide) (he : starEach [e] X.env = (false, eval e X.env) :: starEach [] X.env := by first | with_reducible exact st_c | with_reducible exact st_n | with_reducible exact st_b | with_reducible exact st_u | with_reducible exact st_s | with_reducible exact st_f | with_reducible exact st_t | with_reducible exact st_l | with_reducible exact st_q | with_reducible exact st_o | with_reducible exact st_i | with_reducible exact st_m | with_reducible exact st_a | with_reducible exact st_h | with_reducible exact st_g | with_reducible exact st_d | rfl) (hpl : (backTo pos (starEach [] X.env)).any (·.1) = false := by ((repeat (first | with_reducible exact pl_0 | with_reducible refine Eq.trans pl_c ?_ | with_reducible refine Eq.trans pl_n ?_ | with_reducible refine Eq.trans pl_b ?_ | with_reducible refine Eq.trans pl_u ?_ | with_reducible refine Eq.trans pl_s ?_ | with_reducible refine Eq.trans pl_f ?_ | with_reducible refine Eq.trans pl_t ?_ | with_reducible refine Eq.trans pl_l ?_ | with_reducible refine Eq.trans pl_q ?_ | with_reducible refine Eq.trans pl_o ?_ | with_reducible refine Eq.trans pl_i ?_ | with_reducible refine Eq.trans pl_m ?_ | with_reducible refine Eq.trans pl_a ?_ | with_reducible refine Eq.trans pl_h ?_ | with_reducible refine Eq.trans pl_g ?_ | with_reducible refine Eq.trans pl_d ?_)); first | done | rfl)) :
    EO X c (.Call (.Name x p) [e] [] pos) (fun ρ => (f ρ).bind fun d => listD [d]) := by
  intro ρ σ F H Q S o
  refine wp_of (pe_callTy call_list_of hg hm hv (pa_cons (pe_wp e) pa_nil he) hn hdb he hpl) (ha ρ σ F H _ S (o.seq fun d F1 H1 v _ g1 r1 o1 => ?_))
  unfold listD at o1
  split at o1
  · rename_i d' e1
    cases e1
    split at o1
    · rename_i ds e
      obtain ⟨a, vs, rfl, h1, h2, h3⟩ := rd_items g1.fh r1 e
      have fin : ∀ l, H1 l = none → Q (.ref l) (upd H1 l (.lst vs)) := fun l hl => by
        have gg := (Grow.refl g1.fh).allocOwn (p := l) (o := .lst vs) hl
        have fp : F1 l = none := by
          cases q : F1 l with
          | none => rfl
          | some u => rw [g1.fh l u q] at hl; cases hl
        exact o1 _ _ _ gg ⟨l, vs, ds, rfl, rfl, upd_same, fp, g1.h.free hl, h2, h3⟩
      rcases h1 with ⟨h1, _⟩ | ⟨h1, _⟩
      · exact ⟨a, vs, rfl, .inl h1, fin⟩
      · exact ⟨a, vs, rfl, .inr h1, fin⟩
    · exact o1.elim
  · rename_i n; exact absurd rfl (n _)
/-- a + b of lists, a list of the def's own -/
def catD : D → D → Res D
  | .lst xs, .lst ys => if xs.length + ys.length ≤ sizeLine then .ok (.lst (xs ++ ys)) else .stuck
  | _, _ => .stuck
theorem eo_cat {a b : Expr} {fa fb : Den} (ha : ER X c a fa) (hb : ER X c b fb) : EO X c (.BinOp a .Add b pos) (dBin catD fa fb) := by
  intro ρ σ F H Q S o
  refine wp_of (pe_op op_cat (pe_wp a) (pe_wp b)) (ha ρ σ F H _ S (o.seq fun d1 F1 H1 v _ g1 r1 o1 => ?_))
  refine hb ρ σ F1 H1 _ (S.grow g1) (o1.seq fun d2 F2 H2 u _ g2 r2 o2 => ?_)
  unfold catD at o2
  split at o2
  · split at o2
    · rename_i xs ys z
      obtain ⟨p, vs, rfl, h1, z1, q1⟩ := rd_lst g1.fh r1
      obtain ⟨q, ws, rfl, h2, z2, q2⟩ := rd_lst g2.fh r2
      have l1 := q1.length
      have l2 := q2.length
      refine ⟨p, q, vs, ws, rfl, rfl, g2.h.k _ _ h1, h2, by omega, fun l hl => ?_⟩
      have gg := (Grow.refl g2.fh).allocOwn (p := l) (o := .lst (vs ++ ws)) hl
      have fp : F2 l = none := by
        cases q : F2 l with
        | none => rfl
        | some u => rw [g2.fh l u q] at hl; cases hl
      exact o2 _ _ _ gg ⟨l, vs ++ ws, _, rfl, rfl, upd_same, fp, g1.h.free' (g2.h.free hl), by rw [List.length_append]; omega, (q1.mono g2.f).append q2⟩
    · exact o2.elim
  · exact o2.elim

/-! ### isinstance -/
def tyName : D → Option String
  | .non => some "NoneType"
  | .bl _ => some "bool"
  | .int _ => some "int"
  | .str _ => some "str"
  | .tup _ => some "tuple"
  | .lst _ => some "list"
  | .klst _ => some "list"
  | .exn _ => none
  | .fn _ => none
  | .dic _ _ _ => some "dict"
  | .ins _ _ _ => none
  | .lam _ _ => none
def isSub (a b : String) : Bool := a == b || (a == "bool" && b == "int")
def tyList : List String := ["NoneType", "bool", "int", "str", "tuple", "list", "dict"]
def clsList : List String := ["int", "bool", "tuple", "list", "str", "dict"]
theorem kit_all : (tyList.all fun a => clsList.all fun b => kitB a b == some (isSub a b)) = true := by decide +kernel
theorem kit_one {a b : String} (ha : a ∈ tyList) (hb : b ∈ clsList) : PySem.W.kitOne K (.type a) (.type b) = some (isSub a b) := by
  have h := List.all_eq_true.mp (List.all_eq_true.mp kit_all a ha) b hb
  exact kit_ty (beq_iff_eq.mp h)
theorem ty_rel {v : V} {d : D} {t : String} (s : Same F H) (r : Rd' K F H v d) (e : tyName d = some t) : TyX K H v (.type t) ∧ t ∈ tyList := by
  have tupT : ∀ {a : Addr} {xs : List V}, SqT K H a xs → TyX K H (.ref a) (.type "tuple") := fun h => by
    rcases h with (h | ⟨o, h⟩) | ⟨o, its, n, h1, h2, _⟩
    · exact .base (.tup h)
    · exact .fTuple h
    · exact .kTuple h1 h2
  have lstT : ∀ {a : Addr} {xs : List V}, SqL K H a xs → TyX K H (.ref a) (.type "list") := fun h => by
    rcases h with (h | ⟨o, h⟩) | ⟨o, its, n, h1, h2, _⟩
    · exact .base (.lst h)
    · exact .base (.frz h)
    · exact .kList h1 h2
  cases d with
  | non => rw [rd_non r]; cases e; exact ⟨.base .non, by decide⟩
  | bl b => rw [rd_bl r]; cases e; exact ⟨.base (.bl b), by decide⟩
  | int i => rw [rd_int r]; cases e; exact ⟨.base (.int i), by decide⟩
  | str x => rw [rd_str r]; cases e; exact ⟨.base (.str x), by decide⟩
  | tup ds => cases e; obtain ⟨a, vs, rfl, _, h, _⟩ := rd_tup s r; exact ⟨tupT h, by decide⟩
  | lst ds => cases e; obtain ⟨a, vs, rfl, h, _⟩ := rd_lst s r; exact ⟨lstT (SqL.of h), by decide⟩
  | klst ds => cases e; obtain ⟨a, vs, rfl, h, _⟩ := rd_klst s r; exact ⟨lstT h, by decide⟩
  | exn _ => cases e
  | fn _ => cases e
  | lam _ _ => cases e
  | ins _ _ _ => cases e
  | dic l ks ds =>
    cases e
    rcases r with r | ⟨_, _, e0, h, e⟩
    · cases r with
      | dic h _ _ _ =>
        refine ⟨?_, by decide⟩
        rcases (h.mono s).rd with h | ⟨o, h⟩
        · exact .base (.dK h)
        · exact .fDict h
    · cases e with
      | dic _ _ _ => subst e0; exact ⟨.base (.dK h), by decide⟩
def isiD (T : String) (d : D) : Res D := match tyName d with
  | some t => .ok (.bl (isSub t T))
  | none => .stuck
/-- isinstance(e, T), T a built-in type -/
theorem ej_isi (T : String) {e : Expr} {f : Den} {p p2 : Pos} {x : Str} (he : ER X c e f) (hm : X.mg "isinstance" = none) (hm2 : X.mg x = none) (hT : T ∈ clsList := by decide) (hg : Gl X "isinstance" := by rfl) (hg2 : Gl X x := by rfl)
    (hv : bootBuiltins "isinstance" = some (.builtin "isinstance") := by decide +kernel) (hv2 : bootBuiltins x = some (.type T) := by decide +kernel) (hn2 : x ≠ "__name__" := by decide) (hd2 : (x == ("__debug__" : Str)) = false := by decide)
    (s1 : starEach [e, .Name x p2] X.env = (false, eval e X.env) :: starEach [.Name x p2] X.env := by first | with_reducible exact st_c | with_reducible exact st_n | with_reducible exact st_b | with_reducible exact st_u | with_reducible exact st_s | with_reducible exact st_f | with_reducible exact st_t | with_reducible exact st_l | with_reducible exact st_q | with_reducible exact st_o | with_reducible exact st_i | with_reducible exact st_m | with_reducible exact st_a | with_reducible exact st_h | with_reducible exact st_g | with_reducible exact st_d | rfl) (s2 : starEach [.Name x p2] X.env = (false, eval (.Name x p2) X.env) :: starEach [] X.env := by first | with_reducible exact st_c | with_reducible exact st_n | with_reducible exact st_b | with_reducible exact st_u | with_reducible exact st_s | with_reducible exact st_f | with_reducible exact st_t | with_reducible exact st_l | with_reducible exact st_q | with_reducible exact st_o | with_reducible exact st_i | with_reducible exact st_m | with_reducible exact st_a | with_reducible exact st_h | with_reducible exact st_g | with_reducible exact st_d | rfl)
    (hpl : (backTo pos (starEach [.Name x p2] X.env)).any (·.1) = false := by ((repeat (first | with_reducible exact pl_0 | with_reducible refine Eq.trans pl_c ?_ | with_reducible refine Eq.trans pl_n ?_ | with_reducible refine Eq.trans pl_b ?_ | with_reducible refine Eq.trans pl_u ?_ | with_reducible refine Eq.trans pl_s ?_ | with_reducible refine Eq.trans pl_f ?_ | with_reducible refine Eq.trans pl_t ?_ | with_reducible refine Eq.trans pl_l ?_ | with_reducible refine Eq.trans pl_q ?_ | with_reducible refine Eq.trans pl_o ?_ | with_reducible refine Eq.trans pl_i ?_ | with_reducible refine Eq.trans pl_m ?_ | with_reducible refine Eq.trans pl_a ?_ | with_reducible refine Eq.trans pl_h ?_ | with_reducible refine Eq.trans pl_g ?_ | with_reducible refine Eq.trans pl_d ?_)); first | done | rfl)) : EJ X c (.Call (.Name "isinstance" p) [e, .Name x p2] [] pos) (dUn (isiD T) f) := by
  intro ρ σ F H Q S o
  refine wp_of (pe_callB call_isi hg hm hv (pa_cons (pe_wp e) (pa_cons (pe_bltn (v := .ty T) hg2 hm2 hv2 rfl hn2 hd2) pa_nil s2) s1) (by decide) (by decide) s1 hpl) (he ρ σ F H _ S (o.seq fun d F1 H1 v _ g1 r1 o1 => ?_))
  unfold isiD at o1
  split at o1
  · rename_i t e1
    obtain ⟨h1, h2⟩ := ty_rel g1.fh r1 e1
    exact ⟨v, .ty T, _, _, _, rfl, .ty T, h1, kit_one h2 hT, o1 F1 H1 _ (Grow.refl g1.fh) (.bl _)⟩
  · exact o1.elim
def isi2D (T U : String) (d : D) : Res D := match tyName d with
  | some t => .ok (.bl (isSub t T || isSub t U))
  | none => .stuck
/-- isinstance(e, (T, U)) -/
theorem ej_isi2 (T U : String) {e : Expr} {f : Den} {p p2 p3 p4 : Pos} {k : Nat} {x y : Str} (he : ER X c e f) (hm : X.mg "isinstance" = none) (hm2 : X.mg x = none) (hm3 : X.mg y = none) (hT : T ∈ clsList := by decide) (hU : U ∈ clsList := by decide) (hg : Gl X "isinstance" := by rfl) (hg2 : Gl X x := by rfl) (hg3 : Gl X y := by rfl)
    (hv : bootBuiltins "isinstance" = some (.builtin "isinstance") := by decide +kernel) (hv2 : bootBuiltins x = some (.type T) := by decide +kernel) (hn2 : x ≠ "__name__" := by decide) (hd2 : (x == ("__debug__" : Str)) = false := by decide)
    (hv3 : bootBuiltins y = some (.type U) := by decide +kernel) (hn3 : y ≠ "__name__" := by decide) (hd3 : (y == ("__debug__" : Str)) = false := by decide)
    (s1 : starEach [e, .Tuple [.Name x p2, .Name y p3] k p4] X.env = (false, eval e X.env) :: starEach [.Tuple [.Name x p2, .Name y p3] k p4] X.env := by first | with_reducible exact st_c | with_reducible exact st_n | with_reducible exact st_b | with_reducible exact st_u | with_reducible exact st_s | with_reducible exact st_f | with_reducible exact st_t | with_reducible exact st_l | with_reducible exact st_q | with_reducible exact st_o | with_reducible exact st_i | with_reducible exact st_m | with_reducible exact st_a | with_reducible exact st_h | with_reducible exact st_g | with_reducible exact st_d | rfl)
    (s2 : starEach [.Tuple [.Name x p2, .Name y p3] k p4] X.env = (false, eval (.Tuple [.Name x p2, .Name y p3] k p4) X.env) :: starEach [] X.env := by first | with_reducible exact st_c | with_reducible exact st_n | with_reducible exact st_b | with_reducible exact st_u | with_reducible exact st_s | with_reducible exact st_f | with_reducible exact st_t | with_reducible exact st_l | with_reducible exact st_q | with_reducible exact st_o | with_reducible exact st_i | with_reducible exact st_m | with_reducible exact st_a | with_reducible exact st_h | with_reducible exact st_g | with_reducible exact st_d | rfl)
    (s3 : starEach [.Name x p2, .Name y p3] X.env = (false, eval (.Name x p2) X.env) :: starEach [.Name y p3] X.env := by first | with_reducible exact st_c | with_reducible exact st_n | with_reducible exact st_b | with_reducible exact st_u | with_reducible exact st_s | with_reducible exact st_f | with_reducible exact st_t | with_reducible exact st_l | with_reducible exact st_q | with_reducible exact st_o | with_reducible exact st_i | with_reducible exact st_m | with_reducible exact st_a | with_reducible exact st_h | with_reducible exact st_g | with_reducible exact st_d | rfl) (s4 : starEach [.Name y p3] X.env = (false, eval (.Name y p3) X.env) :: starEach [] X.env := by first | with_reducible exact st_c | with_reducible exact st_n | with_reducible exact st_b | with_reducible exact st_u | with_reducible exact st_s | with_reducible exact st_f | with_reducible exact st_t | with_reducible exact st_l | with_reducible exact st_q | with_reducible exact st_o | with_reducible exact st_i | with_reducible exact st_m | with_reducible exact st_a | with_reducible exact st_h | with_reducible exact st_g | with_reducible exact st_d | rfl)
    (hpl : (backTo pos (starEach [.Tuple [.Name x p2, .Name y p3] k p4] X.env)).any (·.1) = false := by ((repeat (first | with_reducible exact pl_0 | with_reducible refine Eq.trans pl_c ?_ | with_reducible refine Eq.trans pl_n ?_ | with_reducible refine Eq.trans pl_b ?_ | with_reducible refine Eq.trans pl_u ?_ | with_reducible refine Eq.trans pl_s ?_ | with_reducible refine Eq.trans pl_f ?_ | with_reducible refine Eq.trans pl_t ?_ | with_reducible refine Eq.trans pl_l ?_ | with_reducible refine Eq.trans pl_q ?_ | with_reducible refine Eq.trans pl_o ?_ | with_reducible refine Eq.trans pl_i ?_ | with_reducible refine Eq.trans pl_m ?_ | with_reducible refine Eq.trans pl_a ?_ | with_reducible refine Eq.trans pl_h ?_ | with_reducible refine Eq.trans pl_g ?_ | with_reducible refine Eq.trans pl_d ?_)); first | done | rfl)) : EJ X c (.Call (.Name "isinstance" p) [e, .Tuple [.Name x p2, .Name y p3] k p4] [] pos) (dUn (isi2D T U) f) := by
  intro ρ σ F H Q S o
  refine wp_of (pe_callB call_isiT hg hm hv (pa_cons (pe_wp e) (pa_cons (pe_tup (pa_cons (pe_bltn (v := .ty T) hg2 hm2 hv2 rfl hn2 hd2) (pa_cons (pe_bltn (v := .ty U) hg3 hm3 hv3 rfl hn3 hd3) pa_nil s4) s3)) pa_nil s2) s1) (by decide) (by decide) s1 hpl) (he ρ σ F H _ S (o.seq fun d F1 H1 v _ g1 r1 o1 => ?_))
  unfold isi2D at o1
  split at o1
  · rename_i t e1
    obtain ⟨h1, h2⟩ := ty_rel g1.fh r1 e1
    refine ⟨by show 2 ≤ sizeLine; decide, fun q hq => ?_⟩
    have gg := (Grow.refl g1.fh).alloc (p := q) (o := .tup [.ty T, .ty U]) hq
    have h1' : TyX X.K (upd H1 q (.tup [.ty T, .ty U])) v (.type t) := (ty_rel gg.fh (r1.grow gg) e1).1
    refine ⟨v, q, [.ty T, .ty U], _, [.type T, .type U], isSub t T || isSub t U, rfl, upd_same, .cons (.ty T) (.cons (.ty U) .nil), h1', kitAny_cons (kit_one h2 hT) (fun e2 => kitAny_cons (kit_one h2 hU) (fun e3 => ?_) (fun e3 => ?_)) (fun e2 => ?_), o1 _ _ _ gg (.bl _)⟩
    · rw [e2, e3]; rfl
    · rw [e2, e3]; rfl
    · rw [e2]; rfl
  · exact o1.elim
theorem kitAny_nil' {t : Value} : PySem.W.kitAny K t [] = some false := rfl

/-! ### comprehensions -/
abbrev Cc.no (c : Cc) : Cc := { c with W := fun _ _ _ _ => False }
def wipeE (ρ : En) : List Nat → En
  | [] => ρ
  | v :: vs => (wipeE ρ vs).set v none
theorem Sim.wipe {F0 H0 : Hp} {ρ : En} {σ : L2.St} (S : Sim K F0 H0 F H ρ σ) : ∀ vs : List Nat, Sim K F0 H0 F H (wipeE ρ vs) (L2.wipe σ vs)
  | [] => S
  | v :: vs => by unfold wipeE L2.wipe; exact (Sim.wipe S vs).wipe1 v
theorem wipe_get {σ : L2.St} : ∀ {vs : List Nat} {i : Nat}, (L2.wipe σ vs)[i]? = if i ∈ vs then (if i < σ.length then some none else none) else σ[i]?
  | [], i => by simp [L2.wipe]
  | v :: vs, i => by
    unfold L2.wipe
    by_cases e : v = i
    · subst e
      by_cases z : v < σ.length
      · rw [List.getElem?_set_self (by rw [wipe_length]; exact z)]; simp [z]
      · rw [List.getElem?_eq_none (by rw [List.length_set, wipe_length]; omega)]; simp [z]
    · rw [List.getElem?_set_ne e, wipe_get]
      have : (i ∈ v :: vs) ↔ i ∈ vs := by simp [Ne.symm e]
      simp only [this]
theorem wipe_same {σ τ : L2.St} {vs : List Nat} (hl : σ.length = τ.length) (h : ∀ i, i ∉ vs → σ[i]? = τ[i]?) : L2.wipe σ vs = L2.wipe τ vs := by
  apply List.ext_getElem?
  intro i
  rw [wipe_get, wipe_get, hl]
  by_cases e : i ∈ vs
  · rw [if_pos e, if_pos e]
  · rw [if_neg e, if_neg e]; exact h i e
theorem setsV_out : ∀ {is : List Nat} {ws : List V} {σ : L2.St} {i : Nat}, i ∉ is → (setsV is ws σ)[i]? = σ[i]?
  | [], _, _, _, _ => by unfold setsV; rfl
  | _ :: _, [], _, _, _ => by unfold setsV; rfl
  | j :: is, w :: ws, σ, i, h => by
    unfold setsV
    rw [setsV_out (fun z => h (List.mem_cons_of_mem _ z)), List.getElem?_set_ne (fun e => h (by simp [e]))]
theorem setsV_len : ∀ {is : List Nat} {ws : List V} {σ : L2.St}, (setsV is ws σ).length = σ.length
  | [], _, _ => by unfold setsV; rfl
  | _ :: _, [], _ => by unfold setsV; rfl
  | j :: is, w :: ws, σ => by unfold setsV; rw [setsV_len, List.length_set]
theorem wipe_asg {σ : L2.St} {vs : List Nat} {T : Tg} {v : V} {w : List V} (h : ∀ i ∈ slotsOf T, i ∈ vs) : L2.wipe (asgV T v w (L2.wipe σ vs)) vs = L2.wipe σ vs := by
  cases T with
  | nm i =>
    refine wipe_same (by show ((L2.wipe σ vs).set i (some v)).length = _; rw [List.length_set, wipe_length]) fun j hj => ?_
    have ne : i ≠ j := fun e => hj (e ▸ h i (by simp [slotsOf]))
    show ((L2.wipe σ vs).set i (some v))[j]? = _
    rw [List.getElem?_set_ne ne, wipe_get, if_neg hj]
  | tp is =>
    refine wipe_same (by show (setsV is w (L2.wipe σ vs)).length = _; rw [setsV_len, wipe_length]) fun j hj => ?_
    show (setsV is w (L2.wipe σ vs))[j]? = _
    have hj2 : j ∉ is := fun z => hj (h j z)
    rw [setsV_out hj2, wipe_get, if_neg hj]
def TsJ (X : Cx) (c : Cc) (ifs : List Expr) (t : En → Res Bool) : Prop := ∀ ρ σ F H Q, Sim X.K c.F0 c.H0 F H ρ σ → Out X c σ F H (fun _ _ (v : Bool) d => v = d) (t ρ) Q →
  ∀ (pins : List (Addr × Obj)) (s : Shared), Inv X pins σ H s → wpAny (model X.prog X.w) X.A (forIn ifs true fun c r => if r = true then do let ok ← isTrue c X.env (eval c X.env); pure (ForInStep.yield ok) else pure (ForInStep.yield r)) (TP X pins σ Q) X.xe s
def tYesB : En → Res Bool := fun _ => .ok true
theorem ts_nil : TsJ X c [] tYesB := fun ρ σ F H Q S o pins s I => pts_nil.run pins s σ H Q I (o F H true (Grow.refl S.g.fh) rfl)
theorem ts_one {e : Expr} {t : En → Res Bool} (h : TJ X c e t) : TsJ X c [e] t := fun ρ σ F H Q S o pins s I => (pts_one (pt_wp e)).run pins s σ H Q I (h ρ σ F H Q S o)
def compD (T : Tg) (t : En → Res Bool) (g : Den) : List D → En → Res (List D)
  | [], _ => .ok []
  | d :: ds, ρ => (asg T d ρ).bind fun ρ1 => (t ρ1).bind fun b => if b = true then (g ρ1).bind fun y => (compD T t g ds ρ).bind fun ys => .ok (y :: ys) else compD T t g ds ρ
def compR (r : Res (List D)) : Res D := match r with
  | .ok ys => .ok (.lst ys)
  | _ => .stuck
def dComp (f : DenI) (vs : List Nat) (T : Tg) (t : En → Res Bool) (g : Den) : Den := fun ρ => (f ρ).bind fun ds => if ds.length ≤ sizeLine then compR (compD T t g ds (wipeE ρ vs)) else .stuck
theorem bind_ok {α β : Type} {r : Res α} {k : α → Res β} {b : β} (h : r.bind k = .ok b) : ∃ a, r = .ok a ∧ k a = .ok b := by
  cases r with
  | ok a => exact ⟨a, rfl, h⟩
  | exn x => cases h
  | stuck => cases h

/-- the readings of a block's parts, whatever the block's frame -/
abbrev Blk (X : Cx) (scope : Scope) (s : Shared) (H : Hp) (C : Addr) (cl : List (Str × Addr)) (fp : List Addr) : Cx := X.blk s H scope (compEnvC scope cl C X.env) fp
def gB (X : Cx) (scope : Scope) (tg : Expr) : TG := fun v σ H Q => ∀ s H' C cl fp, WpG (Blk X scope s H' C cl fp) tg v σ H Q
def tB (X : Cx) (scope : Scope) (ifs : List Expr) : TT := fun σ H Q => ∀ s H' C cl fp, ∀ (pins : List (Addr × Obj)) (s1 : Shared), Inv (Blk X scope s H' C cl fp) pins σ H s1 → wpAny (model X.prog X.w) X.A (forIn ifs true fun c r => if r = true then do let ok ← isTrue c (compEnvC scope cl C X.env) (eval c (compEnvC scope cl C X.env)); pure (ForInStep.yield ok) else pure (ForInStep.yield r)) (TP (Blk X scope s H' C cl fp) pins σ Q) (fun _ _ => False) s1
def eB (X : Cx) (scope : Scope) (elt : Expr) : TE := fun σ H Q => ∀ s H' C cl fp, Wp (Blk X scope s H' C cl fp) elt σ H Q
theorem pg_b {scope : Scope} (tg : Expr) : ∀ (s : Shared) (H : Hp) (C : Addr) (cl : List (Str × Addr)) (fp : List Addr), PG (X.blk s H scope (compEnvC scope cl C X.env) fp) tg (gB X scope tg) := fun s H C cl fp => ⟨fun pins s1 σ _ v u Q I r h => h s _ C cl fp pins s1 u I r⟩
theorem pt_b {scope : Scope} (ifs : List Expr) : ∀ (s : Shared) (H : Hp) (C : Addr) (cl : List (Str × Addr)) (fp : List Addr), PTs (X.blk s H scope (compEnvC scope cl C X.env) fp) ifs (tB X scope ifs) := fun s H C cl fp => ⟨fun pins s1 σ _ Q I h => h s _ C cl fp pins s1 I⟩
theorem pe_b {scope : Scope} (elt : Expr) : ∀ (s : Shared) (H : Hp) (C : Addr) (cl : List (Str × Addr)) (fp : List Addr), PE (X.blk s H scope (compEnvC scope cl C X.env) fp) elt (eB X scope elt) := fun s H C cl fp => ⟨fun pins s1 σ _ Q I h => (h s _ C cl fp).run pins s1 I⟩
theorem comp_core {elt tg : Expr} {ifs : List Expr} {scope : Scope} {vs : List Nat} {wi : TI} {f : DenI} {T : Tg} {t : En → Res Bool} {g : Den} {ρ : En} {σ : L2.St} {Q : VK}
    (qwi : ∀ ρ σ F H R, Sim X.K c.F0 c.H0 F H ρ σ → Out X c σ F H (fun F' H' (J : It) ds => IterOk X.K J (fun F1 H1 => Same F' F1 ∧ GH H' H1) ds) (f ρ) R → wi σ H R)
    (hg : ∀ s H C cl fp, GJ (Blk X scope s H C cl fp) tg T) (ht : ∀ s H C cl fp, TsJ (Blk X scope s H C cl fp) c.no ifs t) (he : ∀ s H C cl fp, EJ (Blk X scope s H C cl fp) c.no elt g) (hsl : ∀ i ∈ slotsOf T, i ∈ vs)
    (S : Sim X.K c.F0 c.H0 F H ρ σ) (o : Out X c σ F H (fun F' H' v d => Fresh X.K H F' H' v d) (dComp f vs T t g ρ) Q) :
    tLc wi (gB X scope tg) (tB X scope ifs) (eB X scope elt) vs σ H Q := by
  refine qwi ρ σ F H _ S (o.seq fun ds F1 H1 J _ g1 it o1 => ?_)
  intro A hA
  by_cases hz : ds.length ≤ sizeLine
  · rw [if_pos hz] at o1
    unfold compR at o1
    split at o1
    · rename_i ys ey
      have fA : F1 A = none := by
        cases q : F1 A with
        | none => rfl
        | some u => rw [g1.fh A u q] at hA; cases hA
      refine ⟨fun i m H' => m = ds.length - i ∧ i ≤ ds.length ∧ ∃ F' acc es rest, Grow F1 H1 F' H' ∧ H' A = some (.lst acc) ∧ F' A = none ∧ Reps X.K F' acc es ∧ acc.length ≤ i ∧ compD T t g (ds.drop i) (wipeE ρ vs) = .ok rest ∧ es ++ rest = ys,
        ⟨ds.length, by simp, Nat.zero_le _, F1, [], [], ys, (Grow.refl g1.fh).allocOwn hA, upd_same, fA, .nil, Nat.le_refl _, by simpa using ey, rfl⟩, ?_⟩
      rintro i m H' ⟨rfl, hi, F', acc, es, rest, g', hAc, hAf, hr, hl, ec, eys⟩
      have okH : Same F1 F' ∧ GH H1 H' := ⟨g'.f, g'.h⟩
      by_cases hlt : i < ds.length
      · refine .inr ⟨it.go i F' H' hlt okH g'.fh, fun H2 => ∃ F2 acc es rest, Grow F1 H1 F2 H2 ∧ H2 A = some (.lst acc) ∧ F2 A = none ∧ Reps X.K F2 acc es ∧ acc.length ≤ i + 1 ∧ compD T t g (ds.drop (i + 1)) (wipeE ρ vs) = .ok rest ∧ es ++ rest = ys,
          fun H2 h => ⟨ds.length - (i + 1), by omega, rfl, hlt, h⟩, fun x H2 y => ?_⟩
        have ed : ds[i]? = some ds[i] := by simp [hlt]
        obtain ⟨F2, g2, r2⟩ := it.yld i ds[i] F' H' x H2 ed okH g'.fh y
        rw [List.drop_eq_getElem_cons hlt] at ec
        unfold compD at ec
        obtain ⟨ρ1, e1, ec⟩ := bind_ok ec
        obtain ⟨b, e2, ec⟩ := bind_ok ec
        have gg := g'.trans g2
        have Sw : Sim X.K c.F0 c.H0 F2 H2 (wipeE ρ vs) (L2.wipe σ vs) := ((S.grow g1).grow gg).wipe vs
        intro s0 H0' C cl fp
        refine gj_asg (c := c) (hg s0 H0' C cl fp) Sw r2 e1 fun σ' S' hw => ⟨?_, ?_⟩
        · obtain ⟨w, rfl⟩ := hw
          exact wipe_asg hsl
        · intro s0 H0' C cl fp
          refine ht s0 H0' C cl fp ρ1 σ' F2 H2 _ S' ?_
          rw [e2]
          intro F3 H3 v g3 hv
          subst hv
          have S3 := S'.grow g3
          have A3 : H3 A = some (.lst acc) := g3.h.k _ _ (g2.h.k _ _ hAc)
          have nA : H' A ≠ none := by rw [hAc]; exact fun z => nomatch z
          have f2 : F2 A = none := g2.new A _ hAc hAf True.intro
          have f3 : F3 A = none := g3.new A _ (g2.h.k _ _ hAc) f2 True.intro
          cases v with
          | false =>
            rw [if_neg Bool.false_ne_true] at ec ⊢
            exact ⟨F3, acc, es, rest, gg.trans g3, A3, f3, hr.mono (g2.f.trans g3.f), by omega, ec, eys⟩
          | true =>
            rw [if_pos rfl] at ec ⊢
            obtain ⟨yv, e3, ec⟩ := bind_ok ec
            obtain ⟨rest', e4, ec⟩ := bind_ok ec
            cases ec
            intro s0 H0' C cl fp
            refine he s0 H0' C cl fp ρ1 σ' F3 H3 _ S3 ?_
            rw [e3]
            intro F4 H4 v4 g4 r4
            have A4 : H4 A = some (.lst acc) := g4.h.k _ _ A3
            have f4 : F4 A = none := g4.new A _ A3 f3 True.intro
            refine ⟨acc, A4, by omega, F4, acc ++ [v4], es ++ [yv], rest', ?_, upd_same, f4, (hr.mono ((g2.f.trans g3.f).trans g4.f)).append (.cons r4 .nil), by rw [List.length_append, List.length_singleton]; omega, e4, by rw [List.append_assoc]; exact eys⟩
            have g5 := (gg.trans g3).trans g4
            refine ⟨g5.f, g5.h.mut (frN_none hA) A4, fun b o q => ?_, g5.new, g5.nt⟩
            · rw [upd_ne (ne_of_none q f4)]; exact g5.fh _ _ q
      · have e : i = ds.length := by omega
        subst e
        rw [List.drop_length] at ec
        cases ec
        rw [List.append_nil] at eys
        subst eys
        refine .inl ⟨it.stop _ F' H' (Nat.le_refl _) okH g'.fh, o1 F' H' _ g' ⟨A, acc, es, rfl, rfl, hAc, hAf, g1.h.free hA, by omega, hr⟩⟩
    · exact o1.elim
  · rw [if_neg hz] at o1; exact o1.elim
theorem eo_comp {elt tg iter : Expr} {ifs : List Expr} {scope : Scope} {own : List (Str × Nat)} {f : DenI} {T : Tg} {t : En → Res Bool} {g : Den} (hc : X.calm = true) (hN : X.N.Nodup) (hi : IC X c tg iter f) (ok : BlkOk X.N X.env.scope scope own)
    (hg : ∀ s H C cl fp, GJ (Blk X scope s H C cl fp) tg T) (ht : ∀ s H C cl fp, TsJ (Blk X scope s H C cl fp) c.no ifs t) (he : ∀ s H C cl fp, EJ (Blk X scope s H C cl fp) c.no elt g) (hsl : ∀ i ∈ slotsOf T, i ∈ own.map (·.2))
    (hs : ∀ x, foldedSetIterable iter X.env x = pure x := by intro _; rfl) : EO X c (.ListComp elt [⟨tg, iter, ifs, 0⟩] scope pos) (dComp f (own.map (·.2)) T t g) := by
  obtain ⟨wi, pwi, qwi⟩ := hi.ok
  intro ρ σ F H Q S o
  exact wp_of (pe_lc hc hN pwi ok (pg_b tg) (pt_b ifs) (pe_b elt) hs)
    (comp_core qwi hg ht he hsl S o)
/-- name = [..] on one line -/
theorem sj_setC (i : Nat) {y : Str} {py spos : Pos} {elt tg iter : Expr} {ifs : List Expr} {scope : Scope} {own : List (Str × Nat)} {f : DenI} {T : Tg} {t : En → Res Bool} {g : Den} (hc : X.calm = true) (hN : X.N.Nodup) (hi : IC X c tg iter f) (ok : BlkOk X.N X.env.scope scope own)
    (hg : ∀ s H C cl fp, GJ (Blk X scope s H C cl fp) tg T) (ht : ∀ s H C cl fp, TsJ (Blk X scope s H C cl fp) c.no ifs t) (he : ∀ s H C cl fp, EJ (Blk X scope s H C cl fp) c.no elt g) (hsl : ∀ i ∈ slotsOf T, i ∈ own.map (·.2))
    (hsw : swapsWith (.ListComp elt [⟨tg, iter, ifs, 0⟩] scope pos) (some (.Name y py)) spos.line X.env = pure true) (hy : X.N[i]? = some y := by rfl) (hyl : X.env.scope.names.lookup y = some .local := by rfl)
    (hs : ∀ x, foldedSetIterable iter X.env x = pure x := by intro _; rfl) : SJ X c (.Assign [.Name y py] (.ListComp elt [⟨tg, iter, ifs, 0⟩] scope pos) spos) (sSetO i (dComp f (own.map (·.2)) T t g)) := by
  obtain ⟨wi, pwi, qwi⟩ := hi.ok
  intro ρ σ F H D S o
  refine wps_of (ps_setLc hc hN hy hyl hsw pwi ok (pg_b tg) (pt_b ifs) (pe_b elt) hs) ?_
  exact comp_core (Q := fun x H1 => gName i x σ H1 D.nx) qwi hg ht he hsl S (lift_out S o fun d F' H' v _ g r o' => setO_core S g r o')

/-! ### enumerate(list), zip -/
def enumL (ds : List D) : List D := ds.zipIdx.map fun p => .tup [.int (p.2 : Int), p.1]
theorem enumL_get {ds : List D} {i : Nat} {d : D} (h : (enumL ds)[i]? = some d) : ∃ e, ds[i]? = some e ∧ d = .tup [.int (i : Int), e] := by
  unfold enumL at h
  rw [List.getElem?_map] at h
  obtain ⟨p, e1, rfl⟩ := Option.map_eq_some_iff.mp h
  rw [List.getElem?_zipIdx] at e1
  obtain ⟨q, e2, e3⟩ := Option.map_eq_some_iff.mp e1
  cases e3
  exact ⟨q, e2, by simp⟩
theorem enumL_len {ds : List D} : (enumL ds).length = ds.length := by unfold enumL; simp
theorem iter_enum {a : Addr} {vs : List V} {ds : List D} {ok : Hp → Hp → Prop} (r : Reps K F vs ds) (hok : ∀ F1 H1, ok F1 H1 → Same F1 H1 → Same F F1 ∧ SqL K H1 a vs) : IterOk K (Ite K a) ok (enumL ds) where
  go := fun i F1 H1 hi h s => by
    rw [enumL_len] at hi
    obtain ⟨k1, k2⟩ := hok F1 H1 h s
    exact ⟨vs, vs[i]'(by rw [r.length]; exact hi), k2, by simp [r.length, hi]⟩
  yld := fun i d F1 H1 x H2 e h s y => by
    obtain ⟨k1, k2⟩ := hok F1 H1 h s
    obtain ⟨p, v, rfl, hp, rfl, y⟩ := y
    obtain ⟨d', e1, rfl⟩ := enumL_get e
    obtain ⟨v', h1, h2⟩ := r.get e1
    have := y vs k2
    rw [h1] at this; cases this
    have gg := (Grow.refl s).alloc (p := p) (o := .tup [.int (i : Nat), v]) hp
    exact ⟨_, gg, .tup (SqT.of upd_same) (by show 2 ≤ sizeLine; decide) (.cons (.int _) (.cons (h2.mono (k1.trans gg.f)) .nil))⟩
  stop := fun i F1 H1 hi h s => by
    rw [enumL_len] at hi
    obtain ⟨k1, k2⟩ := hok F1 H1 h s
    exact ⟨vs, k2, by rw [r.length]; exact hi⟩
theorem iter_enumT {a : Addr} {vs : List V} {ds : List D} {ok : Hp → Hp → Prop} (r : Reps K F vs ds) (hok : ∀ F1 H1, ok F1 H1 → Same F1 H1 → Same F F1 ∧ SqT K H1 a vs) : IterOk K (Itet K a) ok (enumL ds) where
  go := fun i F1 H1 hi h s => by
    rw [enumL_len] at hi
    obtain ⟨k1, k2⟩ := hok F1 H1 h s
    exact ⟨vs, vs[i]'(by rw [r.length]; exact hi), k2, by simp [r.length, hi]⟩
  yld := fun i d F1 H1 x H2 e h s y => by
    obtain ⟨k1, k2⟩ := hok F1 H1 h s
    obtain ⟨p, v, rfl, hp, rfl, y⟩ := y
    obtain ⟨d', e1, rfl⟩ := enumL_get e
    obtain ⟨v', h1, h2⟩ := r.get e1
    have := y vs k2
    rw [h1] at this; cases this
    have gg := (Grow.refl s).alloc (p := p) (o := .tup [.int (i : Nat), v]) hp
    exact ⟨_, gg, .tup (SqT.of upd_same) (by show 2 ≤ sizeLine; decide) (.cons (.int _) (.cons (h2.mono (k1.trans gg.f)) .nil))⟩
  stop := fun i F1 H1 hi h s => by
    rw [enumL_len] at hi
    obtain ⟨k1, k2⟩ := hok F1 H1 h s
    exact ⟨vs, k2, by rw [r.length]; exact hi⟩
def lstItems : D → Option (List D)
  | .lst ds => some ds
  | .klst ds => some ds
  | _ => none
def enumR : List D → Res (List D)
  | [d] => match d.items with
    | some ds => .ok (enumL ds)
    | none => .stuck
  | _ => .stuck
def iEnumD (fs : DenA) : DenI := fun ρ => (fs ρ).bind enumR
theorem rd_lstItems {v : V} {d : D} {ds : List D} (s : Same F H) (h : Rd' K F H v d) (e : lstItems d = some ds) : ∃ a vs, v = .ref a ∧ SqL K H a vs ∧ vs.length ≤ sizeLine ∧ Reps K F vs ds := by
  cases d with
  | lst es => cases e; obtain ⟨a, vs, h1, h2, h3, h4⟩ := rd_lst s h; exact ⟨a, vs, h1, SqL.of h2, h3, h4⟩
  | klst es => cases e; obtain ⟨a, vs, h1, h2, h3, h4⟩ := rd_klst s h; exact ⟨a, vs, h1, h2, h3, h4⟩
  | _ => cases e
theorem enumR_shape {es ds : List D} (h : enumR es = .ok ds) : ∃ d l, es = [d] ∧ d.items = some l ∧ ds = enumL l := by
  unfold enumR at h
  split at h
  · split at h
    · cases h; exact ⟨_, _, rfl, by assumption, rfl⟩
    · cases h
  · cases h
theorem enumR_nx (es : List D) (x : Str) : enumR es ≠ .exn x := by unfold enumR; (repeat' split) <;> (intro h; cases h)
theorem ic_enum {e : Expr} {fs : DenA} {p tpos : Pos} {elts : List Expr} {kk : Nat} (hm : X.mg "enumerate" = none) (ha : AR X c [e] fs) (hg : Gl X "enumerate" := by rfl) (hs : starEach [e] X.env = [(false, eval e X.env)] := by rfl) :
    IC X c (.Tuple elts kk tpos) (.Call (.Name "enumerate" p) [e] [] pos) (iEnumD fs) := by
  refine ⟨_, pi_enumA hg hm (pa_wp _) hs, fun ρ σ F H R S o => ha ρ σ F H _ S (o.seq fun es F1 H1 vs e0 g1 r1 o1 => ?_)⟩
  cases q : enumR es with
  | ok ds =>
    rw [q] at o1
    obtain ⟨d, l, rfl, e1, rfl⟩ := enumR_shape q
    obtain ⟨v, rfl, r⟩ := rds_one r1
    obtain ⟨a, vs, rfl, h1, h2, h3⟩ := rd_items g1.fh r e1
    rcases h1 with ⟨h1, _⟩ | ⟨h1, _⟩
    · exact ⟨a, rfl, .inl ⟨⟨vs, h1⟩, o1 F1 H1 _ (Grow.refl g1.fh) (iter_enum h3 fun F2 H2 s s2 => ⟨s.1, s.2.seq h1⟩)⟩⟩
    · exact ⟨a, rfl, .inr ⟨⟨vs, h1⟩, o1 F1 H1 _ (Grow.refl g1.fh) (iter_enumT h3 fun F2 H2 s s2 => ⟨s.1, sqT_gh s.2 h1⟩)⟩⟩
  | exn x => exact absurd q (enumR_nx _ _)
  | stuck => rw [q] at o1; exact o1.elim
theorem rep_lstItems {v : V} {d : D} {ds : List D} (h : Rep K F v d) (e : lstItems d = some ds) : ∃ a vs, v = .ref a ∧ SqL K F a vs ∧ vs.length ≤ sizeLine ∧ Reps K F vs ds := by
  cases d with
  | lst es => cases e; cases h with | lst h1 h2 h3 => exact ⟨_, _, rfl, SqL.of h1, h2, h3⟩
  | klst es => cases e; cases h with | klst h1 h2 h3 => exact ⟨_, _, rfl, h1, h2, h3⟩
  | _ => cases e
theorem reps_one {vs : List V} {d : D} (h : Reps K F vs [d]) : ∃ v, vs = [v] ∧ Rep K F v d := by
  cases h with
  | cons r t => cases t; exact ⟨_, rfl, r⟩
theorem reps_two {vs : List V} {d e : D} (h : Reps K F vs [d, e]) : ∃ v u, vs = [v, u] ∧ Rep K F v d ∧ Rep K F u e := by
  cases h with
  | cons r t => cases t with | cons r2 t => cases t; exact ⟨_, _, rfl, r, r2⟩
theorem ij_enum {e : Expr} {fs : DenA} {p tpos : Pos} {elts : List Expr} {kk : Nat} (hm : X.mg "enumerate" = none) (ha : AJ X c [e] fs) (hg : Gl X "enumerate" := by rfl) (hs : starEach [e] X.env = [(false, eval e X.env)] := by rfl) :
    IJ X c (.Tuple elts kk tpos) (.Call (.Name "enumerate" p) [e] [] pos) (iEnumD fs) := by
  refine ⟨_, pi_enumA hg hm (pa_wp _) hs, fun ρ σ F H R S o => ha ρ σ F H _ S (o.seq fun es F1 H1 vs e0 g1 r1 o1 => ?_)⟩
  cases q : enumR es with
  | ok ds =>
    rw [q] at o1
    obtain ⟨d, l, rfl, e1, rfl⟩ := enumR_shape q
    obtain ⟨v, rfl, r⟩ := reps_one r1
    cases d with
    | tup es => cases e1; cases r with | tup h1 h2 h3 => exact ⟨_, rfl, .inr ⟨⟨_, sqT_mono g1.fh h1⟩, o1 F1 H1 _ (Grow.refl g1.fh) (iter_enumT h3 fun F2 H2 s s2 => ⟨s, sqT_mono (s.trans s2) h1⟩)⟩⟩
    | lst es => cases e1; cases r with | lst h1 h2 h3 => exact ⟨_, rfl, .inl ⟨⟨_, g1.fh.seq (SqL.of h1)⟩, o1 F1 H1 _ (Grow.refl g1.fh) (iter_enum h3 fun F2 H2 s s2 => ⟨s, (s.trans s2).seq (SqL.of h1)⟩)⟩⟩
    | klst es => cases e1; cases r with | klst h1 h2 h3 => exact ⟨_, rfl, .inl ⟨⟨_, g1.fh.seq h1⟩, o1 F1 H1 _ (Grow.refl g1.fh) (iter_enum h3 fun F2 H2 s s2 => ⟨s, (s.trans s2).seq h1⟩)⟩⟩
    | _ => cases e1
  | exn x => exact absurd q (enumR_nx _ _)
  | stuck => rw [q] at o1; exact o1.elim
/-- zip of two lists, of two tuples -/
def zipL (ds es : List D) : List D := (ds.zip es).map fun p => .tup [p.1, p.2]
theorem zipL_get {ds es : List D} {i : Nat} {d : D} (h : (zipL ds es)[i]? = some d) : ∃ e f, ds[i]? = some e ∧ es[i]? = some f ∧ d = .tup [e, f] := by
  unfold zipL at h
  rw [List.getElem?_map] at h
  obtain ⟨p, e1, rfl⟩ := Option.map_eq_some_iff.mp h
  obtain ⟨h1, h2⟩ := List.getElem?_zip_eq_some.mp e1
  exact ⟨_, _, h1, h2, rfl⟩
theorem zipL_len {ds es : List D} : (zipL ds es).length = min ds.length es.length := by unfold zipL; simp
theorem iter_zip {a b : Addr} {vs ws : List V} {ds es : List D} {ok : Hp → Hp → Prop} (r : Reps K F vs ds) (r' : Reps K F ws es) (hok : ∀ F1 H1, ok F1 H1 → Same F1 H1 → Same F F1 ∧ SqL K H1 a vs ∧ SqL K H1 b ws) : IterOk K (Itz K a b) ok (zipL ds es) where
  go := fun i F1 H1 hi h s => by
    rw [zipL_len] at hi
    obtain ⟨k1, k2, k3⟩ := hok F1 H1 h s
    have l1 := r.length
    have l2 := r'.length
    exact ⟨vs, ws, vs[i]'(by omega), ws[i]'(by omega), k2, k3, by simp, by simp⟩
  yld := fun i d F1 H1 x H2 e h s y => by
    obtain ⟨k1, k2, k3⟩ := hok F1 H1 h s
    obtain ⟨p, v, u, rfl, hp, rfl, y, y'⟩ := y
    obtain ⟨d1, d2, e1, e2, rfl⟩ := zipL_get e
    obtain ⟨v', h1, h2⟩ := r.get e1
    obtain ⟨u', h3, h4⟩ := r'.get e2
    have q1 := y vs k2
    have q2 := y' ws k3
    rw [h1] at q1; cases q1
    rw [h3] at q2; cases q2
    have gg := (Grow.refl s).alloc (p := p) (o := .tup [v, u]) hp
    exact ⟨_, gg, .tup (SqT.of upd_same) (by show 2 ≤ sizeLine; decide) (.cons (h2.mono (k1.trans gg.f)) (.cons (h4.mono (k1.trans gg.f)) .nil))⟩
  stop := fun i F1 H1 hi h s => by
    rw [zipL_len] at hi
    obtain ⟨k1, k2, k3⟩ := hok F1 H1 h s
    have l1 := r.length
    have l2 := r'.length
    exact ⟨vs, ws, k2, k3, by omega⟩
theorem iter_zipT {a b : Addr} {vs ws : List V} {ds es : List D} {ok : Hp → Hp → Prop} (r : Reps K F vs ds) (r' : Reps K F ws es) (hok : ∀ F1 H1, ok F1 H1 → Same F1 H1 → Same F F1 ∧ SqT K H1 a vs ∧ SqT K H1 b ws) : IterOk K (RZ.ItzT K a b) ok (zipL ds es) where
  go := fun i F1 H1 hi h s => by
    rw [zipL_len] at hi
    obtain ⟨k1, k2, k3⟩ := hok F1 H1 h s
    have l1 := r.length
    have l2 := r'.length
    exact ⟨vs, ws, vs[i]'(by omega), ws[i]'(by omega), k2, k3, by simp, by simp⟩
  yld := fun i d F1 H1 x H2 e h s y => by
    obtain ⟨k1, k2, k3⟩ := hok F1 H1 h s
    obtain ⟨p, v, u, rfl, hp, rfl, y, y'⟩ := y
    obtain ⟨d1, d2, e1, e2, rfl⟩ := zipL_get e
    obtain ⟨v', h1, h2⟩ := r.get e1
    obtain ⟨u', h3, h4⟩ := r'.get e2
    have q1 := y vs k2
    have q2 := y' ws k3
    rw [h1] at q1; cases q1
    rw [h3] at q2; cases q2
    have gg := (Grow.refl s).alloc (p := p) (o := .tup [v, u]) hp
    exact ⟨_, gg, .tup (SqT.of upd_same) (by show 2 ≤ sizeLine; decide) (.cons (h2.mono (k1.trans gg.f)) (.cons (h4.mono (k1.trans gg.f)) .nil))⟩
  stop := fun i F1 H1 hi h s => by
    rw [zipL_len] at hi
    obtain ⟨k1, k2, k3⟩ := hok F1 H1 h s
    have l1 := r.length
    have l2 := r'.length
    exact ⟨vs, ws, k2, k3, by omega⟩
def zipR : List D → Res (List D)
  | [.tup ds, .tup es] => .ok (zipL ds es)
  | [d, e] => match lstItems d, lstItems e with
    | some ds, some es => .ok (zipL ds es)
    | _, _ => .stuck
  | _ => .stuck
def iZipD (fs : DenA) : DenI := fun ρ => (fs ρ).bind zipR
theorem zipR_shape {es ds : List D} (h : zipR es = .ok ds) : (∃ a b, es = [.tup a, .tup b] ∧ ds = zipL a b) ∨ ∃ d e a b, es = [d, e] ∧ lstItems d = some a ∧ lstItems e = some b ∧ ds = zipL a b := by
  unfold zipR at h
  split at h
  · cases h; exact .inl ⟨_, _, rfl, rfl⟩
  · split at h
    · cases h; exact .inr ⟨_, _, _, _, rfl, by assumption, by assumption, rfl⟩
    · cases h
  · cases h
theorem zipR_nx (es : List D) (x : Str) : zipR es ≠ .exn x := by unfold zipR; (repeat' split) <;> (intro h; cases h)
theorem ic_zip {e e2 : Expr} {fs : DenA} {p tpos : Pos} {elts : List Expr} {kk : Nat} (hm : X.mg "zip" = none) (ha : AR X c [e, e2] fs) (hg : Gl X "zip" := by rfl) (hs : starEach [e, e2] X.env = (false, eval e X.env) :: starEach [e2] X.env := by first | with_reducible exact st_c | with_reducible exact st_n | with_reducible exact st_b | with_reducible exact st_u | with_reducible exact st_s | with_reducible exact st_f | with_reducible exact st_t | with_reducible exact st_l | with_reducible exact st_q | with_reducible exact st_o | with_reducible exact st_i | with_reducible exact st_m | with_reducible exact st_a | with_reducible exact st_h | with_reducible exact st_g | with_reducible exact st_d | rfl) (hpl : (backTo pos (starEach [e2] X.env)).any (·.1) = false := by ((repeat (first | with_reducible exact pl_0 | with_reducible refine Eq.trans pl_c ?_ | with_reducible refine Eq.trans pl_n ?_ | with_reducible refine Eq.trans pl_b ?_ | with_reducible refine Eq.trans pl_u ?_ | with_reducible refine Eq.trans pl_s ?_ | with_reducible refine Eq.trans pl_f ?_ | with_reducible refine Eq.trans pl_t ?_ | with_reducible refine Eq.trans pl_l ?_ | with_reducible refine Eq.trans pl_q ?_ | with_reducible refine Eq.trans pl_o ?_ | with_reducible refine Eq.trans pl_i ?_ | with_reducible refine Eq.trans pl_m ?_ | with_reducible refine Eq.trans pl_a ?_ | with_reducible refine Eq.trans pl_h ?_ | with_reducible refine Eq.trans pl_g ?_ | with_reducible refine Eq.trans pl_d ?_)); first | done | rfl)) :
    IC X c (.Tuple elts kk tpos) (.Call (.Name "zip" p) [e, e2] [] pos) (iZipD fs) := by
  refine ⟨_, RZ.pi_zipA hg hm (pa_wp _) hs hpl, fun ρ σ F H R S o => ha ρ σ F H _ S (o.seq fun es F1 H1 vs e0 g1 r1 o1 => ?_)⟩
  cases q : zipR es with
  | ok ds =>
    rw [q] at o1
    rcases zipR_shape q with ⟨x, y, rfl, rfl⟩ | ⟨d, e', x, y, rfl, e1, e3, rfl⟩
    · obtain ⟨v, u, rfl, r, r'⟩ := rds_two r1
      obtain ⟨a, vs, rfl, _, h1, h2, h3⟩ := rd_tup g1.fh r
      obtain ⟨b, ws, rfl, _, k1, k2, k3⟩ := rd_tup g1.fh r'
      exact ⟨a, b, vs, ws, rfl, .inr ⟨h1, k1, o1 F1 H1 _ (Grow.refl g1.fh) (iter_zipT h3 k3 fun F2 H2 s s2 => ⟨s.1, sqT_gh s.2 h1, sqT_gh s.2 k1⟩)⟩⟩
    · obtain ⟨v, u, rfl, r, r'⟩ := rds_two r1
      obtain ⟨a, vs, rfl, h1, h2, h3⟩ := rd_lstItems g1.fh r e1
      obtain ⟨b, ws, rfl, k1, k2, k3⟩ := rd_lstItems g1.fh r' e3
      exact ⟨a, b, vs, ws, rfl, .inl ⟨h1, k1, o1 F1 H1 _ (Grow.refl g1.fh) (iter_zip h3 k3 fun F2 H2 s s2 => ⟨s.1, s.2.seq h1, s.2.seq k1⟩)⟩⟩
  | exn x => exact absurd q (zipR_nx _ _)
  | stuck => rw [q] at o1; exact o1.elim
theorem ij_zip {e e2 : Expr} {fs : DenA} {p tpos : Pos} {elts : List Expr} {kk : Nat} (hm : X.mg "zip" = none) (ha : AJ X c [e, e2] fs) (hg : Gl X "zip" := by rfl) (hs : starEach [e, e2] X.env = (false, eval e X.env) :: starEach [e2] X.env := by first | with_reducible exact st_c | with_reducible exact st_n | with_reducible exact st_b | with_reducible exact st_u | with_reducible exact st_s | with_reducible exact st_f | with_reducible exact st_t | with_reducible exact st_l | with_reducible exact st_q | with_reducible exact st_o | with_reducible exact st_i | with_reducible exact st_m | with_reducible exact st_a | with_reducible exact st_h | with_reducible exact st_g | with_reducible exact st_d | rfl) (hpl : (backTo pos (starEach [e2] X.env)).any (·.1) = false := by ((repeat (first | with_reducible exact pl_0 | with_reducible refine Eq.trans pl_c ?_ | with_reducible refine Eq.trans pl_n ?_ | with_reducible refine Eq.trans pl_b ?_ | with_reducible refine Eq.trans pl_u ?_ | with_reducible refine Eq.trans pl_s ?_ | with_reducible refine Eq.trans pl_f ?_ | with_reducible refine Eq.trans pl_t ?_ | with_reducible refine Eq.trans pl_l ?_ | with_reducible refine Eq.trans pl_q ?_ | with_reducible refine Eq.trans pl_o ?_ | with_reducible refine Eq.trans pl_i ?_ | with_reducible refine Eq.trans pl_m ?_ | with_reducible refine Eq.trans pl_a ?_ | with_reducible refine Eq.trans pl_h ?_ | with_reducible refine Eq.trans pl_g ?_ | with_reducible refine Eq.trans pl_d ?_)); first | done | rfl)) :
    IJ X c (.Tuple elts kk tpos) (.Call (.Name "zip" p) [e, e2] [] pos) (iZipD fs) := by
  refine ⟨_, RZ.pi_zipA hg hm (pa_wp _) hs hpl, fun ρ σ F H R S o => ha ρ σ F H _ S (o.seq fun es F1 H1 vs e0 g1 r1 o1 => ?_)⟩
  cases q : zipR es with
  | ok ds =>
    rw [q] at o1
    rcases zipR_shape q with ⟨x, y, rfl, rfl⟩ | ⟨d, e', x, y, rfl, e1, e3, rfl⟩
    · obtain ⟨v, u, rfl, r, r'⟩ := reps_two r1
      cases r with
      | tup h1 h2 h3 =>
        cases r' with
        | tup k1 k2 k3 =>
          exact ⟨_, _, _, _, rfl, .inr ⟨sqT_mono g1.fh h1, sqT_mono g1.fh k1, o1 F1 H1 _ (Grow.refl g1.fh) (iter_zipT h3 k3 fun F2 H2 s s2 => ⟨s, sqT_mono (s.trans s2) h1, sqT_mono (s.trans s2) k1⟩)⟩⟩
    · obtain ⟨v, u, rfl, r, r'⟩ := reps_two r1
      obtain ⟨a, vs, rfl, h1, h2, h3⟩ := rep_lstItems r e1
      obtain ⟨b, ws, rfl, k1, k2, k3⟩ := rep_lstItems r' e3
      exact ⟨a, b, vs, ws, rfl, .inl ⟨g1.fh.seq h1, g1.fh.seq k1, o1 F1 H1 _ (Grow.refl g1.fh) (iter_zip h3 k3 fun F2 H2 s s2 => ⟨s, (s.trans s2).seq h1, (s.trans s2).seq k1⟩)⟩⟩
  | exn x => exact absurd q (zipR_nx _ _)
  | stuck => rw [q] at o1; exact o1.elim
end
end FV

set_option maxHeartbeats 4000000
/-! FV6: a def of the text, the law's end. -/
namespace FV
open PySem PySem.Spec PyProof.Rows L2
variable [Tbs]

/-- a def of the text stands behind the top -/
structure At (K : PySem.W.Frag) (mg : Str → Option Value) (x : Str) (st : Stmt) : Prop where
  ex : ∃ f fd, Fun K x x st f fd ∧ mg x = some (.ref f)
theorem at_mk {K : PySem.W.Frag} {h : Heap} {mg : Str → Option Value} (X : K.In h) (G : h.Ns mainGlobals mg) {x : Str} {st : Stmt} {f : Addr} {oc : Value} {od an : Option Addr} {osl : Array (Option Value)} {kV doc pm cdv ct : Value}
    (a : PySem.W.nsIn K mainGlobals x = some (some (.ref f))) (l : K.lookup f = some ⟨oc, od, .func (PySem.W.fnOf x x (defArgs st) (defBody st) (defScope st) .none kV doc pm an cdv ct), osl⟩)
    (c : PySem.W.codeIn K cdv x = true) (k : PySem.W.keepIn K (.ref f) = true) : At K mg x st := ⟨⟨f, _, fun_mk (st := st) l c k, PySem.W.mg_of X G a⟩⟩
def BindOk (x : Str) (st : Stmt) (ps : List Str) : Prop := ∀ (kV doc pm : Value) (an : Option Addr) (cdv ct : Value) (us : List Value), us.length = ps.length → bindArgs (PySem.W.fnOf x x (defArgs st) (defBody st) (defScope st) .none kV doc pm an cdv ct) ⟨us, []⟩ = pure (ps.zip us)
section
variable {P : Program} {w : World} {K : PySem.W.Frag} {mg : Str → Option Value} {base : Heap}
theorem fnd_of {k n : Nat} {x : Str} {st : Stmt} {N ps : List Str} {g : SDen} (A : At K mg x st) (Sc : FnScope N ps (defScope st)) (hb : BindOk x st ps) (hn : ps.length = n)
    (hbody : ∀ (f : Addr) (cdv : Value) (A : Around) (outer : List PySem.Env) (s : Shared) (H F : Hp) (E : XK), Room k (A.deeper (envOfC x (defScope st) s.heap.objs.size f cdv)) →
      ∀ {sm : St F H}, BJ (cxOf (L2.CX P w) P w K mg base N x (defScope st) f cdv A outer s H E) ⟨F, H, fun cls d _ H => E cls d H, sm⟩ (defBody st) g) : FnD P w K mg base (k + 1) x n (runB g N.length) := by
  obtain ⟨f, fd, Fn, hm⟩ := A.ex
  subst hn
  exact ⟨f, fd, ps, [], [], [], _, fun_ok Fn Sc (hbody f), hm, Fn.kp, Fn.binds hb, .nil, fun _ => .nil, by simp, fun args => by rw [List.append_nil]⟩
/-- a def with defaults, plain values -/
structure AtD (K : PySem.W.Frag) (mg : Str → Option Value) (x : Str) (st : Stmt) (dvs : List V) : Prop where
  ex : ∃ f fd, FunD K x x (defArgs st) (defBody st) (defScope st) dvs [] f fd ∧ mg x = some (.ref f)
theorem atd_mk {K : PySem.W.Frag} {h : Heap} {mg : Str → Option Value} (X : K.In h) (G : h.Ns mainGlobals mg) {x : Str} {st : Stmt} {dvs : List V} {f : Addr} {oc : Value} {od an : Option Addr} {osl : Array (Option Value)} {kV doc pm cdv ct : Value} {T : Addr} {o : Obj} {its : List Value} {m : Nat} (hne : dvs ≠ [])
    (a : PySem.W.nsIn K mainGlobals x = some (some (.ref f))) (l : K.lookup f = some ⟨oc, od, .func (PySem.W.fnOf x x (defArgs st) (defBody st) (defScope st) (.ref T) kV doc pm an cdv ct), osl⟩)
    (c : PySem.W.codeIn K cdv x = true) (k : PySem.W.keepIn K (.ref f) = true) (lt : K.lookup T = some o) (ht : o.data = .seq its.toArray m) (hv : Vals dvs its) : AtD K mg x st dvs :=
  ⟨⟨f, _, ⟨⟨_, _, _, _, _, _, _, _, _, _, rfl, l, c, .inr ⟨hne, T, o, its, m, rfl, lt, ht, hv⟩, .inl rfl⟩, k⟩, PySem.W.mg_of X G a⟩⟩
def BindOkD (x : Str) (st : Stmt) (ps : List Str) (m n j : Nat) : Prop := ∀ (T : Addr) (kV doc pm : Value) (an : Option Addr) (cdv ct : Value) (us its : List Value), us.length = n → its.length = m →
      ∃ k, bindArgs (PySem.W.fnOf x x (defArgs st) (defBody st) (defScope st) (.ref T) kV doc pm an cdv ct) ⟨us, []⟩ = seqItems? (.ref T) >>= k ∧ k (some its.toArray) = pure (ps.zip (us ++ its.drop j))
/-- called with n arguments, the defaults behind the first j fill up -/
theorem fnd_ofD {k n j : Nat} {x : Str} {st : Stmt} {N ps : List Str} {g : SDen} {dvs : List V} {dd : List D} (A : AtD K mg x st dvs) (Sc : FnScope N ps (defScope st)) (hne : dvs ≠ []) (hb : BindOkD x st ps dvs.length n j) (hn : n + (dvs.length - j) = ps.length) (hd : ∀ F, Reps K F (dvs.drop j) dd)
    (hbody : ∀ (f : Addr) (cdv : Value) (A : Around) (outer : List PySem.Env) (s : Shared) (H F : Hp) (E : XK), Room k (A.deeper (envOfC x (defScope st) s.heap.objs.size f cdv)) →
      ∀ {sm : St F H}, BJ (cxOf (L2.CX P w) P w K mg base N x (defScope st) f cdv A outer s H E) ⟨F, H, fun cls d _ H => E cls d H, sm⟩ (defBody st) g) : FnD P w K mg base (k + 1) x n (fun args => runB g N.length (args ++ dd)) := by
  obtain ⟨f, fd, Fn, hm⟩ := A.ex
  obtain ⟨ds, hv, hb⟩ := Fn.binds1 n j hne hn hb
  refine ⟨f, fd, ps, dvs.drop j, ds, dd, _, ?_, hm, Fn.kp, hb, hv, hd, ?_, fun _ => rfl⟩
  · refine Fn.ok Sc (fun vs H Q E h => h.1) fun cdv A outer s H vs Q E hr h => ?_
    obtain ⟨hl, F, ds, sm, r, h⟩ := h
    exact ⟨fun D σ H => WpB _ (defBody st) D σ H, pss_wp _, body_core sm (hbody f cdv A outer s H F E hr) r h⟩
  · have := (hd (fun _ => none)).length
    rw [← this, List.length_drop]; exact hn
theorem cx_takes {N : List Str} {x : Str} {sc : Scope} {f : Addr} {cdv : Value} {A : Around} {outer : List PySem.Env} {s : Shared} {H : Hp} {E : XK} : Takes (cxOf (L2.CX P w) P w K mg base N x sc f cdv A outer s H E) (fun cls d _ H => E cls d H) := takes_of rfl rfl rfl rfl
theorem cx_passes {N : List Str} {x : Str} {sc : Scope} {f : Addr} {cdv : Value} {A : Around} {outer : List PySem.Env} {s : Shared} {H : Hp} {E : XK} : PassesOwn (model P w) (cxOf (L2.CX P w) P w K mg base N x sc f cdv A outer s H E).A (cxOf (L2.CX P w) P w K mg base N x sc f cdv A outer s H E).env (cxOf (L2.CX P w) P w K mg base N x sc f cdv A outer s H E).xe := PassesOwn.leaving
theorem room_u {k : Nat} {A : Around} (hr : Room k A) : A.units + 64 < cLine := hr.units
theorem room_u5 {k : Nat} {A : Around} (hr : Room k A) : A.units + 65 < cLine := by have := hr.un; omega
theorem no_cx {P : Program} {w : World} {l : List PySem.Env} {H : Hp} {s s' : Shared} {e : Value} (h : L2.CX P w l H s (fun _ _ _ => False) e s') : False := by
  obtain ⟨_, _, _, _, _, _, _, _, _, _, _, _, z⟩ := h
  exact z
/-- what the law's def is asked -/
def spLaw (K : PySem.W.Frag) (n : Nat) : Sp := fun vs H Q _ => ∃ (a : Addr) (ns : List Int), vs = [.ref a] ∧ ns.length ≤ n ∧ SqL K H a (ns.map V.int) ∧ ∀ H', Q (.bl true) H'
theorem law_of {k n : Nat} {x p : Str} {st : Stmt} {N : List Str} {g : SDen} {fa : Addr} (A : At K mg x st) (hfa : mg x = some (.ref fa)) (Sc : FnScope N [p] (defScope st)) (hb : BindOk x st [p]) (hz : n ≤ sizeLine)
    (hbody : ∀ (base : Heap) (f : Addr) (cdv : Value) (A : Around) (outer : List PySem.Env) (s : Shared) (H F : Hp) (E : XK), Room k (A.deeper (envOfC x (defScope st) s.heap.objs.size f cdv)) →
      ∀ {sm : St F H}, BJ (cxOf (L2.CX P w) P w K mg base N x (defScope st) f cdv A outer s H E) ⟨F, H, fun cls d _ H => E cls d H, sm⟩ (defBody st) g)
    (h : ∀ ns : List Int, ns.length ≤ n → runB g N.length [.klst (ns.map D.int)] = .ok (.bl true)) (hT : ∀ H : Hp, LamX.Tabs Tbs.T H := by intro H p hp; cases hp) :
    ∃ fd : FuncData, (∀ (s : Shared) (u : Value), BindsTo s fd ⟨[u], []⟩ [(p, u)]) ∧ ∀ base : Heap, K.In base → base.Ns mainGlobals mg → FnOk P w K mg base (L2.CX P w) (k + 1) fa fd [p] (spLaw K n) := by
  obtain ⟨f, fd, Fn, hm⟩ := A.ex
  rw [hm] at hfa
  obtain rfl : f = fa := by cases hfa; rfl
  obtain ⟨oc, od, kV, doc, pm, an, cdv, ct, osl, e, lk, hcd⟩ := Fn.ex
  refine ⟨fd, fun s u => .of_eq (by rw [e]; exact hb kV doc pm an cdv ct [u] rfl), fun base _ _ => ?_⟩
  refine (fun_ok Fn Sc (hbody base _)).imp fun vs H Q E ⟨a, ns, e, hl, hs, q⟩ => ?_
  subst e
  refine ⟨rfl, clean H, [.klst (ns.map D.int)], ⟨clean_same H, clean_nt H, hT H⟩, .cons (.klst (clean_seq hs) (by rw [List.length_map]; omega) .ints) .nil, ?_⟩
  rw [h ns hl]
  intro F' H' v _ r
  cases r
  exact q H'
end
end FV

set_option maxHeartbeats 4000000
/-! FVX: exceptions: raised, caught and kept, asked for their class. Constants of the module. -/
namespace FV
open PySem PySem.Spec PyProof.Rows L2
variable [Tbs]

/-- an own class of exceptions, from ValueError -/
structure ExD (K : PySem.W.Frag) (mg : Str → Option Value) (x : Str) : Prop where
  ex : ∃ C : Addr, mg x = some (.ref C) ∧ PySem.W.nsIn K mainGlobals x = some (some (.ref C)) ∧ PySem.W.excIn K C [.type "ValueError", .type "Exception", .type "BaseException", .type "object"] "ValueError.__new__" = true ∧
    PySem.W.keepIn K (.ref C) = true ∧ PySem.W.subIn K (.ref C) (.type "BaseException") = some true ∧ PySem.W.typeIn K (.ref C) = some (.type "type")
theorem exd_mk {K : PySem.W.Frag} {h : Heap} {mg : Str → Option Value} (X : K.In h) (G : h.Ns mainGlobals mg) {x : Str} {C : Addr} (a : PySem.W.nsIn K mainGlobals x = some (some (.ref C)))
    (q : PySem.W.excIn K C [.type "ValueError", .type "Exception", .type "BaseException", .type "object"] "ValueError.__new__" = true) (k : PySem.W.keepIn K (.ref C) = true) (b : PySem.W.subIn K (.ref C) (.type "BaseException") = some true) (t : PySem.W.typeIn K (.ref C) = some (.type "type")) : ExD K mg x :=
  ⟨⟨C, PySem.W.mg_of X G a, a, q, k, b, t⟩⟩
section
variable {X : Cx} {c : Cc}
def sRaise (x : Str) : SDen := fun ρ => .exn x ρ
theorem sj_raise {x m : Str} {j : Nat} {p p2 pos pos' : Pos} (tk : Takes X c.W) (hx : ExD X.K X.mg x) (hc : X.calm = true := by rfl) (hg : Gl X x := by rfl) (hdb : (x == ("__debug__" : Str)) = false := by decide) :
    SJ X c (.Raise (some (.Call (.Name x p) [.Constant (.str m) j p2] [] pos)) none pos') (sRaise x) := by
  intro ρ σ F H D S o
  obtain ⟨C, hm, hn, q, kC, sb, ty⟩ := hx.ex
  refine wps_of (ps_raise hc tk (pmk_own PySem.F.excBase_ValueError q hm kC (raises_own sb ty) hg hdb)) ?_
  exact o σ F H _ none S (Same.refl _) ⟨rfl, C, rfl, hm⟩
end

/-! ### caught and kept -/
section
variable {X : Cx} {pins : List (Addr × Obj)} {σ : L2.St} {H : Hp} {s : Shared}
/-- an object that stood untracked, new since the entry, is tracked -/
theorem inv_track {a : Addr} {o : HO} (I : Inv X pins σ H s) (na : H a = none) (n0 : X.s_0.heap.get? a = none) (nL : a ≠ X.env.locals) (nC : ∀ x c, X.env.cells.lookup x = some c → a ≠ c) (nP : ∀ p ∈ X.pn ++ pins, p.1 ≠ a)
    (ok : ObjOk X.prog X.w (upd H a o) s.heap a o) : Inv X pins σ (upd H a o) s := by
  refine ⟨I.ok, I.os, I.bare, ⟨I.base.keep, I.base.slot, fun b u e n hx => ?_, I.base.there, fun b xs e => ?_, fun b u xs e => ?_, fun b ps e => ?_⟩, I.loc, I.cell, ?_, fun x c e => ?_, fun p hp => ?_, I.hok.laidN (fun _ _ q => q) na ok, I.len⟩
  · have ne : b ≠ a := fun z => by rw [z, n0] at e; cases e
    rw [upd_ne ne]; exact I.base.free b u e n hx
  · have q := I.base.tups b xs e
    rw [upd_ne (ne_of_none q na)]; exact q
  · have q := I.base.frzs b u xs e
    rw [upd_ne (ne_of_none q na)]; exact q
  · obtain ⟨m, q⟩ := I.base.tbls b ps e
    exact ⟨m, by rw [upd_ne (ne_of_none q na)]; exact q⟩
  · rw [upd_ne nL.symm]; exact I.free
  · rw [upd_ne (nC x c e).symm]; exact I.freeC x c e
  · obtain ⟨h1, h2, h3⟩ := I.pin p hp
    exact ⟨h1, by rw [upd_ne (nP p hp)]; exact h2, h3⟩
theorem inv_mark (I : Inv X pins σ H s) (a : Addr) : Inv (X.suite a (X.pn ++ pins)) [] σ H s :=
  ⟨I.ok.suite _ _, I.os, I.bare, I.base, I.loc, I.cell, I.free, I.freeC, fun p hp => I.pin p (by rw [List.append_nil] at hp; exact hp), I.hok, I.len⟩
theorem inv_unmark {a : Addr} {pn' : List (Addr × Obj)} (I : Inv (X.suite a (X.pn ++ pins)) pn' σ H s) (ok : X.Ok) : Inv X pins σ H s :=
  ⟨ok, I.os, I.bare, I.base, I.loc, I.cell, I.free, I.freeC, fun p hp => I.pin p (List.mem_append_left _ hp), I.hok, I.len⟩
/-- what 'except x as n: y = n' wishes of an exception of the body -/
def wKeep (K : PySem.W.Frag) (c : Value) (i j : Nat) (D : Ends) : WX := fun cls d σ H =>
  d = none ∧ PySem.W.exmOne K cls c = some true ∧ ∀ a, H a = none → D.nx (((σ.set i (some (.ref a))).set j (some (.ref a))).set i none) (upd H a (ExK cls a))
end
section
variable {X : Cx} {x n : Str} {c : Value} {i j : Nat} {body suite : List Stmt} {b₀ : Stmt} {np pos pos' : Pos} {tb : WX → TS}
theorem ps_try_keep (hs : X.stack = X.env :: X.outer) (hf : X.env.frame = some X.env.locals) (hex : X.ex = []) (hN : X.N.Nodup) (hi : X.N[i]? = some n) (hln : X.env.kindOf n = some .local) (hc : Names X x c)
    (hb : ∀ (W : WX) (pn : List (Addr × Obj)) (xe : Value → Shared → Prop), Takes (X.tr pn xe) W → PassesOwn (model X.prog X.w) X.A X.env xe → PSs (X.tr pn xe) body (tb W))
    (hsu : ∀ (a : Addr) (pn : List (Addr × Obj)), PSs (X.suite a pn) (b₀ :: suite) (fun D σ H => ∃ v, σ[i]? = some (some v) ∧ D.nx (σ.set j (some v)) H)) :
    PS X (.Try body [.ExceptHandler (some (.Name x np)) (some n) (b₀ :: suite) pos'] [] [] pos) (fun D σ H => tb (wKeep X.K c i j D) D σ H) := by
  refine ⟨fun pins s σ H D I h => ?_⟩
  have ok := I.ok
  have hfr : X.A.frames = some (X.env :: X.outer) := by rw [ok.frames, hs]
  have hloc : Loc X.env.scope n := .inl hln
  refine wpAny_Try_except ?_
  refine wpAny_mono ((hb (wKeep X.K c i j D) (X.pn ++ pins) (fun e s₁ => wpAny (model X.prog X.w) X.A (noteFrame e X.env) (fun _ s₂ => wpAny (model X.prog X.w) X.A (setFlight e none) (fun _ s₃ =>
    wpAny (model X.prog X.w) X.A (handleBy e X.env [.ExceptHandler (some (.Name x np)) (some n) (b₀ :: suite) pos']) (SP X pins D) X.xe s₃) X.xe s₂) X.xe s₁) (fun u s' xx => ?_) PassesOwn.looking).run [] s σ H D (I.toTry _) h) (fun f s1 hsp => ?_) (fun e s1 he => he)
  · -- the catch
    obtain ⟨a, B, sI, pins', σ', H', cls, d, rfl, J', nb, up, sky, na, os, ag, hd0, hb1, hyes⟩ := xx
    subst hd0
    have J : Inv X pins σ' H' sI := J'.ofTry ok
    have sky' : Sky B (X.env :: X.outer) a (Zc cls none) X.env.locals s'.heap := by rw [← hs]; exact sky
    show wpAny (model X.prog X.w) X.A (noteFrame (.ref a) X.env) _ _ _
    refine Sky.land Zc.steady hfr hf sky' fun h3 fl3 up3 => ?_
    have J3 : Inv X pins σ' H' { s' with heap := h3 } := J.landed nb fl3.1 (up.trans up3) os ag
    obtain ⟨oe3, vs3, he3, hz3, hd3⟩ := fl3.there
    have notFr : ∀ {h : Heap} {o : Obj} {vs : Array Value}, h.FunFrames B (X.env :: X.outer) → h.get? a = some o → o.data = .fields vs → a ∉ frs (X.env :: X.outer) := fun {h o vs} ff e dd hm => by
      obtain ⟨_, o', e', hnf⟩ := ff.mem hm
      rw [e] at e'; cases e'
      exact hnf _ dd
    have nfr := notFr fl3.2.2.1 he3 hd3
    have nL : a ≠ X.env.locals := fun z => nfr (List.mem_filterMap.mpr ⟨X.env, List.mem_cons_self, by rw [hf, z]⟩)
    have nI : sI.heap.get? a = none := by
      cases e : sI.heap.get? a with
      | none => rfl
      | some o =>
        have := nb a o e (by rw [hs]; exact nfr)
        rw [fl3.2.1] at this; cases this
    have n0 : X.s_0.heap.get? a = none := by
      cases e : X.s_0.heap.get? a with
      | none => rfl
      | some o =>
        obtain ⟨o', e'⟩ := J.base.there a o e (by rw [hex]; simp)
        rw [nI] at e'; cases e'
    have nC : ∀ x c, X.env.cells.lookup x = some c → a ≠ c := fun x c e z => by
      obtain ⟨v, o, ho, _⟩ := J.cell x c e
      rw [← z, nI] at ho; cases ho
    have nP : ∀ p ∈ X.pn ++ pins, p.1 ≠ a := fun p hp z => by
      have := (J.pin p hp).1
      rw [z, nI] at this; cases this
    have S3 := inv_mark J3 a
    refine wpAny_handleBy_cons (codeAny_handlers_test ?_) (by intro q; cases q)
    have LT : PySem.W.Looks (model X.prog X.w) h3 (typeOf (.ref a)) cls := fun A Q E s k q => wpAny_typeOf_ref (k _ _ he3) (by rw [hz3.1]; exact q)
    have LM := PySem.W.exm_one (M := model X.prog X.w) (J3.kIn) LT hb1
    have test : ∀ {Q : Value → Shared → Prop} {E : Value → Shared → Prop}, Q c { s' with heap := h3 } → wpAny (model X.prog X.w) (X.A.mark (some (.ref a))) (eval (.Name x np) X.env) Q E { s' with heap := h3 } := fun {Q E} q => by
      obtain ⟨hg, hdbg, hm | ⟨hm, hv, hnn⟩⟩ := hc
      · exact ld_glob (X := X.suite a (X.pn ++ pins)) S3 hg hm q hdbg
      · exact ld_blt (X := X.suite a (X.pn ++ pins)) S3 hg hm hv q hnn hdbg
    refine test (LM.here ?_)
    refine codeAny_handlers_suite_as ?_
    refine HandSPX.lands_againZ fl3 fun h4 fl4 up4 => ?_
    have J4 : Inv X pins σ' H' { s' with heap := h4 } := J.landed nb fl4.1 ((up.trans up3).trans up4) os ag
    obtain ⟨oe4, vs4, he4, hz4, hd4⟩ := fl4.there
    have J5 : Inv X pins σ' (upd H' a (ExK cls a)) { s' with heap := h4 } := inv_track J4 na n0 nL nC nP
      ⟨⟨oe4, vs4, he4, hz4, hd4⟩, ⟨oe4, he4⟩, fun _ _ ⟨o, v, q, r⟩ k => ⟨o, v, k o q, r⟩⟩
    have S4 := inv_mark J5 a
    refine store_ok (X := X.suite a (X.pn ++ pins)) (v := .ref a) S4 hN hi hloc rfl (fun s5 S5 => ?_) (.inr hln)
    have hiσ : i < σ'.length := by rw [J.len]; exact (List.getElem?_eq_some_iff.mp hi).1
    refine wpAny_mono ((hsu a (X.pn ++ pins)).run [] s5 _ (upd H' a (ExK cls a)) { D with nx := fun σ' H' => D.nx (σ'.set i none) H', bk := fun _ _ => False, ct := fun _ _ => False, rt := fun _ _ => False } S5 ⟨.ref a, by rw [List.getElem?_set_self hiσ], hyes a na⟩) (fun f s6 hsp => ?_) (fun _ _ z => False.elim z)
    cases f with
    | next =>
      obtain ⟨σ6, H6, S6, q6⟩ := hsp
      exact gone_ok (inv_unmark S6 ok) hN hi hln fun s7 J7 => ⟨_, _, J7, q6⟩
    | brk =>
      obtain ⟨σ6, H6, S6, q6⟩ := hsp
      exact False.elim q6
    | cont =>
      obtain ⟨σ6, H6, S6, q6⟩ := hsp
      exact False.elim q6
    | ret u =>
      obtain ⟨v6, σ6, H6, S6, r6, q6⟩ := hsp
      exact False.elim q6
  · cases f with
    | next =>
      obtain ⟨σ', H', J', q⟩ := hsp
      exact wpAny_execs_nil ⟨σ', H', J'.ofTry ok, q⟩
    | brk =>
      obtain ⟨σ', H', J', q⟩ := hsp
      exact ⟨σ', H', J'.ofTry ok, q⟩
    | cont =>
      obtain ⟨σ', H', J', q⟩ := hsp
      exact ⟨σ', H', J'.ofTry ok, q⟩
    | ret u =>
      obtain ⟨v, σ', H', J', r, q⟩ := hsp
      exact ⟨v, σ', H', J'.ofTry ok, r, q⟩
end

/-- the names' classes, all beneath L -/
inductive Under (K : PySem.W.Frag) (L : Addr) : List Str → Prop
  | nil : Under K L []
  | cons {x : Str} {xs : List Str} {C : Addr} : PySem.W.nsIn K mainGlobals x = some (some (.ref C)) → PySem.W.subIn K (.ref C) (.ref L) = some true → Under K L xs → Under K L (x :: xs)
theorem Under.get {K : PySem.W.Frag} {L : Addr} {xs : List Str} (h : Under K L xs) {x : Str} (m : x ∈ xs) : ∃ C, PySem.W.nsIn K mainGlobals x = some (some (.ref C)) ∧ PySem.W.subIn K (.ref C) (.ref L) = some true := by
  induction h with
  | nil => cases m
  | cons a b _ ih =>
    cases m with
    | head => exact ⟨_, a, b⟩
    | tail _ m => exact ih m
/-- what an except clause's class must say -/
structure ClD (K : PySem.W.Frag) (mg : Str → Option Value) (l : Str) (xs : List Str) : Prop where
  mgof : ∀ {x : Str} {v : Value}, PySem.W.nsIn K mainGlobals x = some (some v) → mg x = some v
  ex : ∃ L : Addr, mg l = some (.ref L) ∧ PySem.W.subIn K (.ref L) (.type "BaseException") = some true ∧ PySem.W.hasDictIn K L = true ∧ PySem.W.typeIn K (.ref L) = some (.type "type") ∧ Under K L xs
theorem cld_mk {K : PySem.W.Frag} {h : Heap} {mg : Str → Option Value} (X : K.In h) (G : h.Ns mainGlobals mg) {l : Str} {xs : List Str} {L : Addr} (a : PySem.W.nsIn K mainGlobals l = some (some (.ref L)))
    (b : PySem.W.subIn K (.ref L) (.type "BaseException") = some true) (d : PySem.W.hasDictIn K L = true) (t : PySem.W.typeIn K (.ref L) = some (.type "type")) (u : Under K L xs) : ClD K mg l xs :=
  ⟨fun e => PySem.W.mg_of X G e, ⟨L, PySem.W.mg_of X G a, b, d, t, u⟩⟩
def sTryK (i j : Nat) (xs : List Str) (g : SDen) : SDen := fun ρ => match g ρ with
  | .exn x ρ' => if x ∈ xs then .next (((ρ'.set i (some (.frz (.exn x)))).set j (some (.frz (.exn x)))).set i none) else .stuck
  | r => r
theorem sj_tryK {X : Cx} {c : Cc} (i j : Nat) {x n y : Str} {xs : List Str} {body : List Stmt} {g : SDen} {np p3 p4 p5 pos pos' : Pos} (hl : ClD X.K X.mg x xs) (hN : X.N.Nodup)
    (hb : ∀ (W : WX) (pn : List (Addr × Obj)) (xe : Value → Shared → Prop), Takes (X.tr pn xe) W → PassesOwn (model X.prog X.w) X.A X.env xe → BJ (X.tr pn xe) ⟨c.F0, c.H0, W, c.st⟩ body g)
    (hi : X.N[i]? = some n := by rfl) (hj : X.N[j]? = some y := by rfl) (hln : X.env.kindOf n = some .local := by rfl) (hy : Loc X.env.scope y := by first | exact Or.inl rfl | exact Or.inr rfl) (hfy : X.fn y = true ∨ X.env.scope.names.lookup y = some .local := by first | exact .inl rfl | exact .inr rfl | assumption)
    (hs : X.stack = X.env :: X.outer := by rfl) (hf : X.env.frame = some X.env.locals := by rfl) (hex : X.ex = [] := by rfl) (hg : Gl X x := by rfl) (hdx : (x == ("__debug__" : Str)) = false := by decide)
    (hdn : (n == ("__debug__" : Str)) = false := by decide) (hcn : (n == ("__classdict__" : Str)) = false := by decide) (hsw : swapsWith (.Name n p4) (some (.Name y p3)) p5.line X.env = pure false := by rfl) :
    SJ X c (.Try body [.ExceptHandler (some (.Name x np)) (some n) [.Assign [.Name y p3] (.Name n p4) p5] pos'] [] [] pos) (sTryK i j xs g) := by
  obtain ⟨L, hL, sb, hd, ty, un⟩ := hl.ex
  intro ρ σ F H D S o
  refine wps_of (ps_try_keep (i := i) (j := j) (tb := fun W D σ H => ∀ (pn : List (Addr × Obj)) (xe : Value → Shared → Prop), Takes (X.tr pn xe) W → PassesOwn (model X.prog X.w) X.A X.env xe → WpB (X.tr pn xe) body D σ H)
    hs hf hex hN hi hln ⟨hg, hdx, .inl hL⟩ (fun W pn xe tk po => ⟨fun pins s σ H D I h => (h pn xe tk po).run pins s I⟩)
    (fun a pn => (pss_one (ps_set (X := X.suite a pn) hN hj hy (pe_var (X := X.suite a pn) hi (.inl hln) hdn hcn) hsw hfy)))) ?_
  intro pn xe tk po
  refine hb _ pn xe tk po ρ σ F H D S ?_
  unfold sTryK at o
  cases e : g ρ with
  | next ρ' => rw [e] at o; exact o
  | brk ρ' => rw [e] at o; exact o
  | cont ρ' => rw [e] at o; exact o
  | ret d => rw [e] at o; exact o
  | stuck => rw [e] at o; exact o
  | exn z ρ' =>
    rw [e] at o
    dsimp only at o
    split at o
    · rename_i m
      rintro σ' F' H' cls dd S' sm ⟨rfl, C, rfl, hC⟩
      obtain ⟨C', h1, h2⟩ := un.get m
      have := hl.mgof h1
      rw [hC] at this; cases this
      refine ⟨rfl, PySem.W.exm_ref sb hd ty h2, fun a na => ?_⟩
      have fa : F' a = none := by
        cases q : F' a with
        | none => rfl
        | some u => rw [S'.g.fh a u q] at na; cases na
      have gr : Grow F' H' (upd F' a (ExK (.ref C) a)) (upd H' a (ExK (.ref C) a)) := (Grow.refl S'.g.fh).alloc na
      have r : Rep X.K (upd F' a (ExK (.ref C) a)) (.ref a) (.exn z) := .exn upd_same h1
      exact o _ (upd F' a (ExK (.ref C) a)) _ ((((S'.grow gr).set i r).set j r).wipe1 i) (sm.trans gr.f)
    · exact o.elim

/-! ### isinstance of a kept exception -/
inductive Kits (K : PySem.W.Frag) (T : Value) (sup : List Str) : List Str → Prop
  | nil : Kits K T sup []
  | cons {x : Str} {xs : List Str} {C : Addr} {b : Bool} : PySem.W.nsIn K mainGlobals x = some (some (.ref C)) → PySem.W.kitOne K (.ref C) T = some b → decide (x ∈ sup) = b → Kits K T sup xs → Kits K T sup (x :: xs)
theorem Kits.get {K : PySem.W.Frag} {T : Value} {sup xs : List Str} (h : Kits K T sup xs) {x : Str} (m : x ∈ xs) : ∃ C, PySem.W.nsIn K mainGlobals x = some (some (.ref C)) ∧ PySem.W.kitOne K (.ref C) T = some (decide (x ∈ sup)) := by
  induction h with
  | nil => cases m
  | cons a b e _ ih =>
    cases m with
    | head => exact ⟨_, a, by rw [e]; exact b⟩
    | tail _ m => exact ih m
inductive Excs (K : PySem.W.Frag) : List Str → Prop
  | nil : Excs K []
  | cons {x : Str} {xs : List Str} {C : Addr} : PySem.W.nsIn K mainGlobals x = some (some (.ref C)) → ExcC K C → Excs K xs → Excs K (x :: xs)
theorem Excs.get {K : PySem.W.Frag} {xs : List Str} (h : Excs K xs) {x : Str} (m : x ∈ xs) : ∃ C, PySem.W.nsIn K mainGlobals x = some (some (.ref C)) ∧ ExcC K C := by
  induction h with
  | nil => cases m
  | cons a b _ ih =>
    cases m with
    | head => exact ⟨_, a, b⟩
    | tail _ m => exact ih m
/-- T as a class of the module that isinstance is asked for: its names beneath are sup -/
structure IsO (K : PySem.W.Frag) (mg : Str → Option Value) (t : Str) (sup xs : List Str) : Prop where
  ex : ∃ A : Addr, mg t = some (.ref A) ∧ Kits K (.ref A) sup xs
theorem iso_mk {K : PySem.W.Frag} {h : Heap} {mg : Str → Option Value} (X : K.In h) (G : h.Ns mainGlobals mg) {t : Str} {sup xs : List Str} {A : Addr} (a : PySem.W.nsIn K mainGlobals t = some (some (.ref A))) (k : Kits K (.ref A) sup xs) : IsO K mg t sup xs :=
  ⟨⟨A, PySem.W.mg_of X G a, k⟩⟩
def isXD (xs sup : List Str) : D → Res D
  | .exn c => if c ∈ xs then .ok (.bl (decide (c ∈ sup))) else .stuck
  | _ => .stuck
section
variable {X : Cx} {c : Cc}
/-- isinstance(e, c), e a kept exception -/
def rIsK (K : PySem.W.Frag) : List V → Hp → VK → Prop := fun xs H Q => ∃ (a C : Addr) (t : V) (tv : Value) (b : Bool), xs = [.ref a, t] ∧ H a = some (ExK (.ref C) a) ∧ ExcC K C ∧ ClsV t tv ∧ PySem.W.kitOne K (.ref C) tv = some b ∧ Q (.bl b) H
theorem call_isK : CallR X (.builtin "isinstance") (rIsK X.K) := by
  intro pins s σ H xs us Q I r h
  obtain ⟨a, D, t, tv, b, rfl, ha, C, cv, e, q⟩ := h
  obtain ⟨u1, u2, rfl, r1, r2⟩ := vals2 r
  cases (show u1 = Value.ref a from r1)
  have ec := cv.eq r2
  subst ec
  obtain ⟨⟨oe, vs, ho, hz, hd⟩, _, _⟩ := (show ObjOk X.prog X.w H s.heap a (ExK (.ref D) a) from I.hok a _ ha)
  have J : PySem.W.InstAt s.heap a oe D none := by
    obtain ⟨oc, od, oda, osl⟩ := oe
    obtain ⟨h1, h2⟩ := hz
    dsimp only at h1 h2 hd
    subst h1 h2 hd
    exact ⟨ho, rfl, rfl, trivial⟩
  exact PySem.W.kia_one (PySem.W.handS_kitx_exc C.hg C.hk C.hs C.hd C.ha C.hn C.ht C.hm) I.kIn J e (fun z => nomatch z) fun tk => ⟨.bl b, H, I.tok tk, rfl, q⟩
theorem isX_core {v t : V} {tv : Value} {d : D} {F H : Hp} {xs sup : List Str} {Q : VK} (hx : Excs X.K xs) (hk : Kits X.K tv sup xs) (ht : ClsV t tv) (s : Same F H) (r : Rd' X.K F H v d) (o : OutV X F H (isXD xs sup d) Q) : rIsK X.K [v, t] H Q := by
  unfold isXD at o
  split at o
  · rename_i c0
    split at o
    · rename_i m
      rcases r with r | ⟨_, _, _, _, e⟩
      · cases r with
        | exn h1 h2 =>
          obtain ⟨C1, a1, b1⟩ := hx.get m
          obtain ⟨C2, a2, b2⟩ := hk.get m
          rw [h2] at a1 a2; cases a1; cases a2
          exact ⟨_, _, t, tv, _, rfl, s _ _ h1, b1, ht, b2, o _ _ _ (Grow.refl s) (.bl _)⟩
      · cases e
    · exact o.elim
  · exact o.elim
theorem ej_isO {xs sup : List Str} {e : Expr} {f : Den} {p p2 pos : Pos} {x : Str} (he : ER X c e f) (hm : X.mg "isinstance" = none) (hx : Excs X.K xs) (ho : IsO X.K X.mg x sup xs) (hg : Gl X "isinstance" := by rfl) (hg2 : Gl X x := by rfl)
    (hv : bootBuiltins "isinstance" = some (.builtin "isinstance") := by decide +kernel) (hd2 : (x == ("__debug__" : Str)) = false := by decide)
    (s1 : starEach [e, .Name x p2] X.env = (false, eval e X.env) :: starEach [.Name x p2] X.env := by first | with_reducible exact st_c | with_reducible exact st_n | with_reducible exact st_b | with_reducible exact st_u | with_reducible exact st_s | with_reducible exact st_f | with_reducible exact st_t | with_reducible exact st_l | with_reducible exact st_q | with_reducible exact st_o | with_reducible exact st_i | with_reducible exact st_m | with_reducible exact st_a | with_reducible exact st_h | with_reducible exact st_g | with_reducible exact st_d | rfl) (s2 : starEach [.Name x p2] X.env = (false, eval (.Name x p2) X.env) :: starEach [] X.env := by first | with_reducible exact st_c | with_reducible exact st_n | with_reducible exact st_b | with_reducible exact st_u | with_reducible exact st_s | with_reducible exact st_f | with_reducible exact st_t | with_reducible exact st_l | with_reducible exact st_q | with_reducible exact st_o | with_reducible exact st_i | with_reducible exact st_m | with_reducible exact st_a | with_reducible exact st_h | with_reducible exact st_g | with_reducible exact st_d | rfl)
    (hpl : (backTo pos (starEach [.Name x p2] X.env)).any (·.1) = false := by ((repeat (first | with_reducible exact pl_0 | with_reducible refine Eq.trans pl_c ?_ | with_reducible refine Eq.trans pl_n ?_ | with_reducible refine Eq.trans pl_b ?_ | with_reducible refine Eq.trans pl_u ?_ | with_reducible refine Eq.trans pl_s ?_ | with_reducible refine Eq.trans pl_f ?_ | with_reducible refine Eq.trans pl_t ?_ | with_reducible refine Eq.trans pl_l ?_ | with_reducible refine Eq.trans pl_q ?_ | with_reducible refine Eq.trans pl_o ?_ | with_reducible refine Eq.trans pl_i ?_ | with_reducible refine Eq.trans pl_m ?_ | with_reducible refine Eq.trans pl_a ?_ | with_reducible refine Eq.trans pl_h ?_ | with_reducible refine Eq.trans pl_g ?_ | with_reducible refine Eq.trans pl_d ?_)); first | done | rfl)) : EJ X c (.Call (.Name "isinstance" p) [e, .Name x p2] [] pos) (dUn (isXD xs sup) f) := by
  obtain ⟨A, hA, hk⟩ := ho.ex
  intro ρ σ F H Q S o
  refine wp_of (pe_callB call_isK hg hm hv (pa_cons (pe_wp e) (pa_cons (pe_glob hg2 hA (v := .ref A) rfl hd2) pa_nil s2) s1) (by decide) (by decide) s1 hpl) (he ρ σ F H _ S (o.seq fun d F1 H1 v _ g1 r1 o1 => ?_))
  exact isX_core hx hk (.own A) g1.fh r1 (o1.v fun x h => by unfold isXD at h; split at h <;> first | (cases h; done) | (split at h <;> cases h))
theorem ej_isB (T : String) {xs sup : List Str} {e : Expr} {f : Den} {p p2 pos : Pos} {x : Str} (he : ER X c e f) (hm : X.mg "isinstance" = none) (hx : Excs X.K xs) (hk : Kits X.K (.type T) sup xs) (hm2 : X.mg x = none) (hg : Gl X "isinstance" := by rfl) (hg2 : Gl X x := by rfl)
    (hv : bootBuiltins "isinstance" = some (.builtin "isinstance") := by decide +kernel) (hv2 : bootBuiltins x = some (.type T) := by decide +kernel) (hn2 : x ≠ "__name__" := by decide) (hd2 : (x == ("__debug__" : Str)) = false := by decide)
    (s1 : starEach [e, .Name x p2] X.env = (false, eval e X.env) :: starEach [.Name x p2] X.env := by first | with_reducible exact st_c | with_reducible exact st_n | with_reducible exact st_b | with_reducible exact st_u | with_reducible exact st_s | with_reducible exact st_f | with_reducible exact st_t | with_reducible exact st_l | with_reducible exact st_q | with_reducible exact st_o | with_reducible exact st_i | with_reducible exact st_m | with_reducible exact st_a | with_reducible exact st_h | with_reducible exact st_g | with_reducible exact st_d | rfl) (s2 : starEach [.Name x p2] X.env = (false, eval (.Name x p2) X.env) :: starEach [] X.env := by first | with_reducible exact st_c | with_reducible exact st_n | with_reducible exact st_b | with_reducible exact st_u | with_reducible exact st_s | with_reducible exact st_f | with_reducible exact st_t | with_reducible exact st_l | with_reducible exact st_q | with_reducible exact st_o | with_reducible exact st_i | with_reducible exact st_m | with_reducible exact st_a | with_reducible exact st_h | with_reducible exact st_g | with_reducible exact st_d | rfl)
    (hpl : (backTo pos (starEach [.Name x p2] X.env)).any (·.1) = false := by ((repeat (first | with_reducible exact pl_0 | with_reducible refine Eq.trans pl_c ?_ | with_reducible refine Eq.trans pl_n ?_ | with_reducible refine Eq.trans pl_b ?_ | with_reducible refine Eq.trans pl_u ?_ | with_reducible refine Eq.trans pl_s ?_ | with_reducible refine Eq.trans pl_f ?_ | with_reducible refine Eq.trans pl_t ?_ | with_reducible refine Eq.trans pl_l ?_ | with_reducible refine Eq.trans pl_q ?_ | with_reducible refine Eq.trans pl_o ?_ | with_reducible refine Eq.trans pl_i ?_ | with_reducible refine Eq.trans pl_m ?_ | with_reducible refine Eq.trans pl_a ?_ | with_reducible refine Eq.trans pl_h ?_ | with_reducible refine Eq.trans pl_g ?_ | with_reducible refine Eq.trans pl_d ?_)); first | done | rfl)) : EJ X c (.Call (.Name "isinstance" p) [e, .Name x p2] [] pos) (dUn (isXD xs sup) f) := by
  intro ρ σ F H Q S o
  refine wp_of (pe_callB call_isK hg hm hv (pa_cons (pe_wp e) (pa_cons (pe_bltn (v := .ty T) hg2 hm2 hv2 rfl hn2 hd2) pa_nil s2) s1) (by decide) (by decide) s1 hpl) (he ρ σ F H _ S (o.seq fun d F1 H1 v _ g1 r1 o1 => ?_))
  exact isX_core hx hk (.ty T) g1.fh r1 (o1.v fun x h => by unfold isXD at h; split at h <;> first | (cases h; done) | (split at h <;> cases h))
end

/-! ### constants of the module -/
abbrev Cst (K : PySem.W.Frag) (mg : Str → Option Value) (x : Str) (d : D) : Prop := ∃ v u, mg x = some u ∧ RelV v u ∧ ∀ F, Rep K F v d
section
variable {K : PySem.W.Frag} {h : Heap} {mg : Str → Option Value} {x : Str}
/-! written values as data -/
mutual
inductive KR (K : PySem.W.Frag) : Value → V → D → Prop
  | int (i : Int) (t : Nat) : KR K (.int i t) (.int i) (.int i)
  | str (x : Str) (t : Nat) : KR K (.str x t) (.str x) (.str x)
  | bl (b : Bool) : KR K (.bool b) (.bl b) (.bl b)
  | non : KR K .none .non .non
  | tup {a : Addr} {o : Obj} {its : Array Value} {n : Nat} {vs : List V} {ds : List D} : K.lookup a = some o → o.cls = .type "tuple" → o.data = .seq its n → its.size ≤ sizeLine → KRs K its.toList vs ds → KR K (.ref a) (.ref a) (.tup ds)
  | lst {a : Addr} {o : Obj} {its : Array Value} {n : Nat} {vs : List V} {ds : List D} : K.lookup a = some o → o.cls = .type "list" → o.dict = none → o.data = .seq its n → its.size ≤ sizeLine → KRs K its.toList vs ds → KR K (.ref a) (.ref a) (.klst ds)
inductive KRs (K : PySem.W.Frag) : List Value → List V → List D → Prop
  | nil : KRs K [] [] []
  | cons {u : Value} {us : List Value} {v : V} {vs : List V} {d : D} {ds : List D} : KR K u v d → KRs K us vs ds → KRs K (u :: us) (v :: vs) (d :: ds)
end
mutual
theorem KR.rep {F : Hp} : ∀ {u : Value} {v : V} {d : D}, KR K u v d → RelV v u ∧ Rep K F v d
  | _, _, _, .int i t => ⟨⟨t, rfl⟩, .int i⟩
  | _, _, _, .str x t => ⟨⟨t, rfl⟩, .str x⟩
  | _, _, _, .bl b => ⟨rfl, .bl b⟩
  | _, _, _, .non => ⟨rfl, .non⟩
  | _, _, _, .tup l c d z r => ⟨rfl, .tup (.inr ⟨_, _, _, l, c, d, z, (KRs.reps (F := F) r).1⟩) (by rw [(KRs.reps (F := F) r).1.length]; exact z) (KRs.reps r).2⟩
  | _, _, _, .lst l c e d z r => ⟨rfl, .klst (.inr ⟨_, _, _, l, c, e, d, z, (KRs.reps (F := F) r).1⟩) (by rw [(KRs.reps (F := F) r).1.length]; exact z) (KRs.reps r).2⟩
theorem KRs.reps {F : Hp} : ∀ {us : List Value} {vs : List V} {ds : List D}, KRs K us vs ds → Vals vs us ∧ Reps K F vs ds
  | _, _, _, .nil => ⟨.nil, .nil⟩
  | _, _, _, .cons r t => ⟨.cons (KR.rep (F := F) r).1 (KRs.reps (F := F) t).1, .cons (KR.rep r).2 (KRs.reps t).2⟩
end
theorem cst_mk (X : K.In h) (G : h.Ns mainGlobals mg) {u : Value} {v : V} {d : D} (a : PySem.W.nsIn K mainGlobals x = some (some u)) (r : KR K u v d) : Cst K mg x d :=
  ⟨v, u, PySem.W.mg_of X G a, (r.rep (F := fun _ => none)).1, fun F => (r.rep).2⟩
end

theorem fnd_ofD0 {P : Program} {w : World} {K : PySem.W.Frag} {mg : Str → Option Value} {base : Heap} {k n j : Nat} {x : Str} {st : Stmt} {N ps : List Str} {g : SDen} {dvs : List V} (A : AtD K mg x st dvs) (Sc : FnScope N ps (defScope st)) (hne : dvs ≠ []) (hb : BindOkD x st ps dvs.length n j) (hn : n = ps.length) (hj : j = dvs.length)
    (hbody : ∀ (f : Addr) (cdv : Value) (A : Around) (outer : List PySem.Env) (s : Shared) (H F : Hp) (E : XK), Room k (A.deeper (envOfC x (defScope st) s.heap.objs.size f cdv)) →
      ∀ {sm : St F H}, BJ (cxOf (L2.CX P w) P w K mg base N x (defScope st) f cdv A outer s H E) ⟨F, H, fun cls d _ H => E cls d H, sm⟩ (defBody st) g) : FnD P w K mg base (k + 1) x n (runB g N.length) := by
  have h := fnd_ofD (dd := []) A Sc hne hb (by omega) (fun F => by rw [hj, List.drop_length]; exact .nil) hbody
  simpa only [List.append_nil] using h
end FV

set_option maxHeartbeats 4000000
/-! FVY: own lists: insert; count and index of data; += and -= of ints. -/
namespace FV
open PySem PySem.Spec PyProof.Rows L2
variable [Tbs]
section
variable {X : Cx} {c : Cc} {pos : Pos}
def insD (i : Nat) (ρ : En) (ds : List D) (a b : D) : SRes := match a with
  | .int k => if ds.length < sizeLine ∧ 0 ≤ k ∧ k < 2 ^ 63 then .next (ρ.set i (some (.own (ds.take k.toNat ++ [b] ++ ds.drop k.toNat)))) else .stuck
  | _ => .stuck
def sIns (i : Nat) (f g : Den) : SDen := fun ρ => match ρ[i]? with
  | some (some (.own ds)) => lift (f ρ) ρ fun a => lift (g ρ) ρ fun b => insD i ρ ds a b
  | _ => .stuck
theorem sj_ins (i : Nat) {x : Str} {e e2 : Expr} {f g : Den} {p apos cpos : Pos} (he : EJ X c e f) (he2 : EJ X c e2 g) (hN : X.N[i]? = some x := by rfl) (hv : Vis X.env.scope x := by first | exact Or.inl rfl | exact Or.inr (Or.inl rfl) | exact Or.inr (Or.inr rfl))
    (hline : (apos.endLine == cpos.line) = true := by rfl) (hst : starEach [e, e2] X.env = (false, eval e X.env) :: starEach [e2] X.env := by first | with_reducible exact st_c | with_reducible exact st_n | with_reducible exact st_b | with_reducible exact st_f | with_reducible exact st_s | rfl)
    (hst2 : starEach [e2] X.env = (false, eval e2 X.env) :: starEach [] X.env := by first | with_reducible exact st_c | with_reducible exact st_n | with_reducible exact st_b | with_reducible exact st_f | with_reducible exact st_s | with_reducible exact st_t | rfl) (hd : (x == ("__debug__" : Str)) = false := by decide) (hcd : (x == ("__classdict__" : Str)) = false := by decide)
    (hbase : attributeBase (.Name x p) "insert" X.env (eval (.Name x p) X.env) = eval (.Name x p) X.env := by rfl)
    (hfew : ((backTo cpos (starEach [e, e2] X.env)).all (fun x => !x.1) && (backToKw cpos (keywordEach [] X.env)).all (fun x => x.1.isSome) && decide ([e, e2].length + ([] : List Keyword).length + (if ([] : List Keyword).isEmpty then 0 else 1) < 30)) = true := by rfl)
    (hplain : (backTo cpos (starEach [e2] X.env)).any (·.1) = false := by rfl) (hs : swapsWith (.Call (.Attribute (.Name x p) "insert" apos) [e, e2] [] cpos) none pos.line X.env = pure false := by rfl) :
    SJ X c (.Expr (.Call (.Attribute (.Name x p) "insert" apos) [e, e2] [] cpos) pos) (sIns i f g) := by
  intro ρ σ F H D S o
  refine wps_of (ps_expr (pe_bm PySem.F.plainAttrs_list PySem.F.slot_list_insert PySem.F.type_list_insert mt_insert (pe_var hN hv hd hcd) (pa_cons (pe_wp e) (pa_cons (pe_wp e2) pa_nil hst2) hst) hbase hfew hline hst hplain) hs) ?_
  unfold sIns at o
  split at o
  · rename_i ds q
    obtain ⟨a, vs, h1, h2, h3, h4, h5, h6⟩ := S.own i ds q
    refine ⟨_, h1, .inl ⟨rfl, vs, SqL.of h2⟩, ?_⟩
    refine he ρ σ F H _ S (lift_out S o fun d F' H' v _ g1 r1 o' => ?_)
    refine he2 ρ σ F' H' _ (S.grow g1) (lift_out (S.grow g1) o' fun d2 F2 H2 w _ g2 r2 o2 => ?_)
    unfold insD at o2
    split at o2
    · rename_i k _
      split at o2
      · rename_i z
        cases r1
        have l := h6.length
        have gg := g1.trans g2
        have rr := h6.mono gg.f
        refine ⟨a, vs, k, w, rfl, rfl, gg.h.k _ _ h2, by omega, z.2.1, z.2.2, ?_⟩
        exact o2 σ F2 _ ((S.grow gg).mut i q h1 (by rw [List.length_append, List.length_append, List.length_take, List.length_drop, List.length_singleton]; omega) (((rr.take k.toNat).append (.cons r2 .nil)).append (rr.drop k.toNat))) (Same.refl _)
      · exact o2.elim
    · exact o2.elim
  · exact o.elim
end
/-! ### l.count(x), l.index(x) of data -/
section
variable {X : Cx} {c : Cc} {cpos : Pos}
def rCountD (K : PySem.W.Frag) : V → List V → Hp → VK → Prop := fun x xs H Q => ∃ (a : Addr) (y : V) (d : PyData) (ds : List PyData), x = V.ref a ∧ xs = [y] ∧ Dp K H (V.ref a) (.list ds) ∧ Dp K H y d ∧
  SeqAt.shaped (.list ds) = true ∧ SeqAt.shaped d = true ∧ Q (.int ((ds.countP fun z => PyData.eqv z d : Nat) : Int)) H
theorem mt_countD (hu : X.A.units + 65 < cLine) : MtR X "list.count" (rCountD X.K) := by
  intro pins s σ H x xs v us Q I rx rxs h
  obtain ⟨a, y, d, ds, rfl, rfl, hl, hy, sl, sd, q⟩ := h
  cases rx
  cases rxs with
  | cons ry rt =>
    rename_i uy ut
    cases rt
    obtain ⟨bs, r1⟩ := Dp.reads I d y uy hy ry
    have hxs : PyData.canLayAll0 ds = true := SeqAt.canLay_of_shaped sl
    have hroom : X.A.units + 1 + min (PyData.depthAll ds) d.depth < cLine := room_in_shaped sd hu
    cases hl with
    | lst hs ha =>
      obtain ⟨its, rv, ⟨⟨cls, dd, data, sls⟩, n, ho, hc, hdn, hdt⟩, hlen⟩ := I.list hs
      simp only at hc hdt
      subst hc hdt
      obtain ⟨as, h4⟩ := Dp.readsAll I ds _ its ha rv
      have hmap : its.map (SeqAt.readOf s.heap) = ds := SeqAt.readsAll_map ds its as hxs h4
      refine call_meets PySem.F.slot_list_count ⟨_, ho, rfl⟩ PySem.F.entry_list_count (PySem.F.args_list_count_2 _ _)
        (SeqAt.list_countAt a its.toArray n dd sls uy (fun u => PyData.eqv (SeqAt.readOf s.heap u) d)) ⟨ho, SeqAt.items_eqAt (vs := its.toArray) (show ReadsAll s.heap its.toArray.toList ds as from h4) r1 hxs (SeqAt.canLay_of_shaped sd) hroom, ?_⟩
      have ec : its.toArray.toList.countP (fun u => PyData.eqv (SeqAt.readOf s.heap u) d) = ds.countP fun z => PyData.eqv z d := by
        rw [← hmap, List.countP_map]; rfl
      refine ⟨.int ((ds.countP fun z => PyData.eqv z d : Nat) : Int), H, I.tok _, ⟨s.toks, ?_⟩, q⟩
      show Value.int ((its.toArray.toList.countP _ : Nat) : Int) s.toks = _
      rw [ec]
theorem lst_ty {K : PySem.W.Frag} {F H : Hp} {v : V} {d : D} {qs : List PyData} (s : Same F H) (r : Rd' K F H v d) (e : toP d = some (.list qs)) : ∃ a xs, v = .ref a ∧ SqL K H a xs := by
  cases d with
  | lst ds => obtain ⟨a, vs, rfl, h1, _⟩ := rd_lst s r; exact ⟨a, vs, rfl, SqL.of h1⟩
  | klst ds => obtain ⟨a, vs, rfl, h1, _⟩ := rd_klst s r; exact ⟨a, vs, rfl, h1⟩
  | tup ds => simp only [toP] at e; obtain ⟨ps, _, z⟩ := Option.map_eq_some_iff.mp e; cases z
  | non => simp only [toP] at e; cases e
  | bl b => simp only [toP] at e; cases e
  | int i => simp only [toP] at e; cases e
  | str x => simp only [toP] at e; cases e
  | exn x => simp only [toP] at e; cases e
  | fn x => simp only [toP] at e; cases e
  | dic _ _ _ => simp only [toP] at e; cases e
  | ins _ _ _ => simp only [toP] at e; cases e
  | lam j k => simp only [toP] at e; cases e
/-- l.m(x) for a list of data -/
def dLM (k : List PyData → PyData → Res D) (f g : Den) : Den := fun ρ => (f ρ).bind fun d1 => match toP d1 with
  | some (.list qs) => (g ρ).bind fun d2 => match toP d2 with
    | some p => if SeqAt.shaped (.list qs) = true ∧ SeqAt.shaped p = true then k qs p else .stuck
    | none => .stuck
  | _ => .stuck
def cntK (qs : List PyData) (p : PyData) : Res D := .ok (.int ((qs.countP fun z => PyData.eqv z p : Nat) : Int))
def idxK (qs : List PyData) (p : PyData) : Res D := match qs.findIdx? fun z => PyData.eqv z p with
  | some j => .ok (.int (j : Nat))
  | none => .stuck
theorem lm_core {r : V → List V → Hp → VK → Prop} {k : List PyData → PyData → Res D} {o e : Expr} {f g : Den} {M : Expr} (nx : ∀ qs p x, k qs p ≠ .exn x)
    (h : ∀ (a : Addr) (y : V) (qs : List PyData) (p : PyData) (F H : Hp) (Q : VK), Dp X.K H (.ref a) (.list qs) → Dp X.K H y p → SeqAt.shaped (.list qs) = true → SeqAt.shaped p = true → Same F H → OutV X F H (k qs p) Q → r (.ref a) [y] H Q)
    (ho : ER X c o f) (he : ER X c e g) (hp : PE X M (tBM X.K "list" r (Wp X o) (tCons (Wp X e) tNil))) : EJ X c M (dLM k f g) := by
  intro ρ σ F H Q S o'
  refine wp_of hp ?_
  refine ho ρ σ F H _ S (o'.seq fun d1 F1 H1 v _ g1 r1 o1 => ?_)
  split at o1
  · rename_i qs e1
    obtain ⟨a, xs, rfl, hs⟩ := lst_ty g1.fh r1 e1
    refine ⟨.inl ⟨rfl, xs, hs⟩, ?_⟩
    refine he ρ σ F1 H1 _ (S.grow g1) (o1.seq fun d2 F2 H2 w _ g2 r2 o2 => ?_)
    split at o2
    · rename_i p e2
      split at o2
      · rename_i z
        exact h a w qs p F2 H2 Q (rd_dp g2.fh (r1.grow g2) e1) (rd_dp g2.fh r2 e2) z.1 z.2 g2.fh (o2.v (nx qs p))
      · exact o2.elim
    · exact o2.elim
  · exact o1.elim
theorem ej_cnt {o e : Expr} {f g : Den} {apos : Pos} (hu : X.A.units + 65 < cLine) (ho : ER X c o f) (he : ER X c e g) (hline : (apos.endLine == cpos.line) = true := by rfl)
    (hst : starEach [e] X.env = (false, eval e X.env) :: starEach [] X.env := by first | with_reducible exact st_c | with_reducible exact st_n | with_reducible exact st_b | with_reducible exact st_f | with_reducible exact st_s | with_reducible exact st_t | rfl)
    (hbase : attributeBase o "count" X.env (eval o X.env) = eval o X.env := by rfl)
    (hfew : ((backTo cpos (starEach [e] X.env)).all (fun x => !x.1) && (backToKw cpos (keywordEach [] X.env)).all (fun x => x.1.isSome) && decide ([e].length + ([] : List Keyword).length + (if ([] : List Keyword).isEmpty then 0 else 1) < 30)) = true := by rfl)
    (hplain : (backTo cpos (starEach [] X.env)).any (·.1) = false := by rfl) : EJ X c (.Call (.Attribute o "count" apos) [e] [] cpos) (dLM cntK f g) :=
  lm_core (fun qs p x h => by cases h) (fun a y qs p F H Q h1 h2 z1 z2 s o => ⟨a, y, p, qs, rfl, rfl, h1, h2, z1, z2, o _ _ _ (Grow.refl s) (.int _)⟩) ho he (pe_bm PySem.F.plainAttrs_list PySem.F.slot_list_count PySem.F.type_list_count (mt_countD hu) (pe_wp o) (pa_cons (pe_wp e) pa_nil hst) hbase hfew hline hst hplain)
theorem idx_first {qs : List PyData} {p : PyData} {j : Nat} (h : qs.findIdx? (fun z => PyData.eqv z p) = some j) : ∃ z, qs[j]? = some z ∧ PyData.eqv z p = true ∧ ∀ (m : Nat) (z' : PyData), m < j → qs[m]? = some z' → PyData.eqv z' p = false := by
  obtain ⟨hj, h1, h2⟩ := List.findIdx?_eq_some_iff_getElem.mp h
  refine ⟨qs[j], List.getElem?_eq_getElem hj, h1, fun m z' hm hz => ?_⟩
  obtain ⟨hm2, rfl⟩ := List.getElem?_eq_some_iff.mp hz
  have := h2 m hm
  simpa using this
theorem ej_idx {o e : Expr} {f g : Den} {apos : Pos} (hu : X.A.units + 65 < cLine) (ho : ER X c o f) (he : ER X c e g) (hline : (apos.endLine == cpos.line) = true := by rfl)
    (hst : starEach [e] X.env = (false, eval e X.env) :: starEach [] X.env := by first | with_reducible exact st_c | with_reducible exact st_n | with_reducible exact st_b | with_reducible exact st_f | with_reducible exact st_s | with_reducible exact st_t | rfl)
    (hbase : attributeBase o "index" X.env (eval o X.env) = eval o X.env := by rfl)
    (hfew : ((backTo cpos (starEach [e] X.env)).all (fun x => !x.1) && (backToKw cpos (keywordEach [] X.env)).all (fun x => x.1.isSome) && decide ([e].length + ([] : List Keyword).length + (if ([] : List Keyword).isEmpty then 0 else 1) < 30)) = true := by rfl)
    (hplain : (backTo cpos (starEach [] X.env)).any (·.1) = false := by rfl) : EJ X c (.Call (.Attribute o "index" apos) [e] [] cpos) (dLM idxK f g) :=
  lm_core (fun qs p x h => by unfold idxK at h; split at h <;> cases h) (fun a y qs p F H Q h1 h2 z1 z2 s o => by
    unfold idxK at o
    split at o
    · rename_i j e
      obtain ⟨z, a1, a2, a3⟩ := idx_first e
      exact ⟨a, y, p, qs, j, z, rfl, rfl, h1, h2, z1, z2, a1, a2, a3, o _ _ _ (Grow.refl s) (.int _)⟩
    · exact o.elim) ho he (pe_bm PySem.F.plainAttrs_list PySem.F.slot_list_index PySem.F.type_list_index (mt_indexD hu) (pe_wp o) (pa_cons (pe_wp e) pa_nil hst) hbase hfew hline hst hplain)
end
end FV

/-! FVP1: denotations that many laws share (printed by mklib.py). -/
namespace FVP
open PySem PySem.Spec PyProof.Rows L2 FV
noncomputable section
def g_MOST_ROWS : D := .int 300
def g_NOUGHT : D := .tup [.int 0, .int 1]
def s_is_whole : SDen :=
  (sRet (dAnd (dUn (isiD "int") (dVarR 0)) (dUn notD (dUn (isiD "bool") (dVarR 0)))))
def d_is_whole : List D → Res D := runB s_is_whole 1
def s_common : SDen :=
  (bSeq (whD (tVal (dBin gtD (dVarR 1) (dC (.int 0))))
  (sPar 0 1 (dVar 1) (dBin modD (dVarR 0) (dVarR 1))))
  (sRet (dVar 0)))
def d_common : List D → Res D := runB s_common 2
def s_is_part : SDen :=
  (bSeq (sIf (tOrB (tNotB (tVal (dUn (isiD "tuple") (dVarR 0)))) (tOrB (tVal (dBin neD (dCall lenD (aCons (dVarR 0) aNil)) (dC (.int 2)))) (tOrB (tNotB (tVal (dCall d_is_whole (aCons (dBin ixD (dVarR 0) (dC (.int 0))) aNil)))) (tNotB (tVal (dCall d_is_whole (aCons (dBin ixD (dVarR 0) (dC (.int 1))) aNil)))))))
  (sRet (dC (.bl false)))
  bNil)
  (sRet (dAnd (dBin gtD (dBin ixD (dVarR 0) (dC (.int 1))) (dC (.int 0))) (dBin eqD (dCall d_common (aCons (dCall absD (aCons (dBin ixD (dVarR 0) (dC (.int 0))) aNil)) (aCons (dBin ixD (dVarR 0) (dC (.int 1))) aNil))) (dC (.int 1))))))
def d_is_part : List D → Res D := runB s_is_part 1
def s_part : SDen :=
  (bSeq (sIf (tOrB (tNotB (tVal (dCall d_is_whole (aCons (dVar 0) aNil)))) (tOrB (tNotB (tVal (dCall d_is_whole (aCons (dVar 1) aNil)))) (tVal (dBin eqD (dVarR 1) (dC (.int 0))))))
  (sRaise "NoPart")
  bNil)
  (bSeq (sSet 2 (dCall d_common (aCons (dCall absD (aCons (dVarR 0) aNil)) (aCons (dCall absD (aCons (dVarR 1) aNil)) aNil))))
  (bSeq (sIf (tVal (dBin ltD (dVarR 1) (dC (.int 0))))
  (sSet 2 (dUn negD (dVarR 2)))
  bNil)
  (sRet (dTup (aCons (dBin fdivD (dVarR 0) (dVarR 2)) (aCons (dBin fdivD (dVarR 1) (dVarR 2)) aNil)))))))
def d_part : List D → Res D := runB s_part 3
abbrev d_part_2 : List D → Res D := runB s_part 3
def d_part_1 : List D → Res D := fun args => runB s_part 3 (args ++ [.int 1])
def s_plus : SDen :=
  (sRet (dCall d_part_2 (aCons (dBin addD (dBin mulD (dBin ixD (dVarR 0) (dC (.int 0))) (dBin ixD (dVarR 1) (dC (.int 1)))) (dBin mulD (dBin ixD (dVarR 1) (dC (.int 0))) (dBin ixD (dVarR 0) (dC (.int 1))))) (aCons (dBin mulD (dBin ixD (dVarR 0) (dC (.int 1))) (dBin ixD (dVarR 1) (dC (.int 1)))) aNil))))
def d_plus : List D → Res D := runB s_plus 2
def s_minus : SDen :=
  (sRet (dCall d_part_2 (aCons (dBin subD (dBin mulD (dBin ixD (dVarR 0) (dC (.int 0))) (dBin ixD (dVarR 1) (dC (.int 1)))) (dBin mulD (dBin ixD (dVarR 1) (dC (.int 0))) (dBin ixD (dVarR 0) (dC (.int 1))))) (aCons (dBin mulD (dBin ixD (dVarR 0) (dC (.int 1))) (dBin ixD (dVarR 1) (dC (.int 1)))) aNil))))
def d_minus : List D → Res D := runB s_minus 2
def s_times : SDen :=
  (sRet (dCall d_part_2 (aCons (dBin mulD (dBin ixD (dVarR 0) (dC (.int 0))) (dBin ixD (dVarR 1) (dC (.int 0)))) (aCons (dBin mulD (dBin ixD (dVarR 0) (dC (.int 1))) (dBin ixD (dVarR 1) (dC (.int 1)))) aNil))))
def d_times : List D → Res D := runB s_times 2
def s_below : SDen :=
  (sRet (dBin ltD (dBin mulD (dBin ixD (dVarR 0) (dC (.int 0))) (dBin ixD (dVarR 1) (dC (.int 1)))) (dBin mulD (dBin ixD (dVarR 1) (dC (.int 0))) (dBin ixD (dVarR 0) (dC (.int 1))))))
def d_below : List D → Res D := runB s_below 2
def s_is_row : SDen :=
  (sRet (dAnd (dUn (isiD "tuple") (dVarR 0)) (dAnd (dBin eqD (dCall lenD (aCons (dVarR 0) aNil)) (dC (.int 4))) (dCall allD (aCons (dComp (iSeq (dVarR 0)) [1] (.nm 1) tYesB (dCall d_is_part (aCons (dVar 1) aNil))) aNil)))))
def d_is_row : List D → Res D := runB s_is_row 2
def s_are_rows : SDen :=
  (bSeq (sIf (tOrB (tNotB (tVal (dUn (isi2D "list" "tuple") (dVarR 0)))) (tOrB (tVal (dBin eqD (dCall lenD (aCons (dVarR 0) aNil)) (dC (.int 0)))) (tNotB (tVal (dCall allD (aCons (dComp (iSeq (dVarR 0)) [1] (.nm 1) tYesB (dCall d_is_row (aCons (dVar 1) aNil))) aNil))))))
  (sRet (dC (.bl false)))
  bNil)
  (bSeq (sIf (tVal (dBin neD (dBin ixD (dBin ixD (dVarR 0) (dC (.int 0))) (dC (.int 0))) (dC g_NOUGHT)))
  (sRet (dC (.bl false)))
  bNil)
  (sRet (dCall allD (aCons (dComp (iZipD (aCons (dVarR 0) (aCons (dSl (dVarR 0) (oSome (dC (.int 1))) oNone) aNil))) [2, 3] (.tp [2, 3]) tYesB (dCall d_below (aCons (dBin ixD (dVarR 2) (dC (.int 0))) (aCons (dBin ixD (dVarR 3) (dC (.int 0))) aNil)))) aNil)))))
def d_are_rows : List D → Res D := runB s_are_rows 4
def s_come_to : SDen :=
  (sRet (dCall d_plus (aCons (dBin ixD (dVarR 0) (dC (.int 2))) (aCons (dCall d_times (aCons (dBin ixD (dVarR 0) (dC (.int 3))) (aCons (dCall d_minus (aCons (dVar 1) (aCons (dBin ixD (dVarR 0) (dC (.int 0))) aNil))) aNil))) aNil))))
def d_come_to : List D → Res D := runB s_come_to 2
def s_goes_on : SDen :=
  (sRet (dAnd (dBin eqD (dBin ixD (dVarR 1) (dC (.int 3))) (dBin ixD (dVarR 0) (dC (.int 3)))) (dAnd (dBin eqD (dBin ixD (dVarR 1) (dC (.int 1))) (dBin ixD (dVarR 1) (dC (.int 2)))) (dBin eqD (dBin ixD (dVarR 1) (dC (.int 1))) (dCall d_come_to (aCons (dVar 0) (aCons (dBin ixD (dVarR 1) (dC (.int 0))) aNil)))))))
def d_goes_on : List D → Res D := runB s_goes_on 2
def s_thinned_l1 : SDen :=
  (sIf (tOrB (tVal (dBin eqD (dVarR 1) (dLst aNil))) (tNotB (tVal (dCall d_goes_on (aCons (dBin ixD (dVarR 1) (dUn negD (dC (.int 1)))) (aCons (dVar 2) aNil))))))
    (sApp 1 (dVar 2))
    bNil)
def s_thinned : SDen :=
  (bSeq (sSetO 1 (dLst aNil))
  (bSeq (sFor (iSeq (dVar 0)) (.nm 2) s_thinned_l1)
  (sRet (dCall tupleD (aCons (dVarR 1) aNil)))))
def d_thinned : List D → Res D := runB s_thinned 3
def s_line_of : SDen :=
  (bSeq (sIf (tNotB (tVal (dCall d_are_rows (aCons (dVar 0) aNil))))
  (sRaise "NoLine")
  bNil)
  (bSeq (sSet 1 (dCall d_thinned (aCons (dVar 0) aNil)))
  (bSeq (sIf (tVal (dBin gtD (dCall lenD (aCons (dVarR 1) aNil)) (dC g_MOST_ROWS)))
  (sRaise "TooMany")
  bNil)
  (sRet (dVar 1)))))
def d_line_of : List D → Res D := runB s_line_of 2
def s_is_line : SDen :=
  (sRet (dAnd (dUn (isiD "tuple") (dVarR 0)) (dAnd (dBin leD (dCall lenD (aCons (dVarR 0) aNil)) (dC g_MOST_ROWS)) (dAnd (dCall d_are_rows (aCons (dVar 0) aNil)) (dBin eqD (dCall d_thinned (aCons (dVar 0) aNil)) (dVarR 0))))))
def d_is_line : List D → Res D := runB s_is_line 1
def s__law_mixed : SDen :=
  (bSeq (sSet 2 (dBin modD (dBin mulD (dBin addD (dVarR 0) (dBin mulD (dC (.int 7919)) (dVarR 1))) (dC (.int 48271))) (dC (.int 2147483647))))
  (sRet (dBin modD (dBin mulD (dVarR 2) (dBin addD (dBin addD (dVarR 2) (dBin mulD (dC (.int 2)) (dVarR 1))) (dC (.int 1)))) (dC (.int 2147483629)))))
def d__law_mixed : List D → Res D := runB s__law_mixed 3
def s__law_cell_at : SDen :=
  (bSeq (sIf (tVal (dBin ltD (dVarR 1) (dCall lenD (aCons (dVarR 0) aNil))))
  (sRet (dBin ixD (dVarR 0) (dVarR 1)))
  bNil)
  (sRet (dC (.int 0))))
def d__law_cell_at : List D → Res D := runB s__law_cell_at 2
def s__law_reduced : SDen :=
  (bSeq (sPar 2 3 (dCall absD (aCons (dVarR 0) aNil)) (dCall absD (aCons (dVarR 1) aNil)))
  (bSeq (whD (tVal (dBin gtD (dVarR 3) (dC (.int 0))))
  (sPar 2 3 (dVar 3) (dBin modD (dVarR 2) (dVarR 3))))
  (bSeq (sIf (tVal (dBin ltD (dVarR 1) (dC (.int 0))))
  (sSet 2 (dUn negD (dVarR 2)))
  bNil)
  (sRet (dTup (aCons (dBin fdivD (dVarR 0) (dVarR 2)) (aCons (dBin fdivD (dVarR 1) (dVarR 2)) aNil)))))))
def d__law_reduced : List D → Res D := runB s__law_reduced 4
def s__law_sum : SDen :=
  (sRet (dCall d__law_reduced (aCons (dBin addD (dBin mulD (dBin ixD (dVarR 0) (dC (.int 0))) (dBin ixD (dVarR 1) (dC (.int 1)))) (dBin mulD (dBin ixD (dVarR 1) (dC (.int 0))) (dBin ixD (dVarR 0) (dC (.int 1))))) (aCons (dBin mulD (dBin ixD (dVarR 0) (dC (.int 1))) (dBin ixD (dVarR 1) (dC (.int 1)))) aNil))))
def d__law_sum : List D → Res D := runB s__law_sum 2
def s__law_less : SDen :=
  (sRet (dCall d__law_reduced (aCons (dBin subD (dBin mulD (dBin ixD (dVarR 0) (dC (.int 0))) (dBin ixD (dVarR 1) (dC (.int 1)))) (dBin mulD (dBin ixD (dVarR 1) (dC (.int 0))) (dBin ixD (dVarR 0) (dC (.int 1))))) (aCons (dBin mulD (dBin ixD (dVarR 0) (dC (.int 1))) (dBin ixD (dVarR 1) (dC (.int 1)))) aNil))))
def d__law_less : List D → Res D := runB s__law_less 2
def s__law_product : SDen :=
  (sRet (dCall d__law_reduced (aCons (dBin mulD (dBin ixD (dVarR 0) (dC (.int 0))) (dBin ixD (dVarR 1) (dC (.int 0)))) (aCons (dBin mulD (dBin ixD (dVarR 0) (dC (.int 1))) (dBin ixD (dVarR 1) (dC (.int 1)))) aNil))))
def d__law_product : List D → Res D := runB s__law_product 2
def s__law_is_below : SDen :=
  (sRet (dBin ltD (dBin mulD (dBin ixD (dVarR 0) (dC (.int 0))) (dBin ixD (dVarR 1) (dC (.int 1)))) (dBin mulD (dBin ixD (dVarR 1) (dC (.int 0))) (dBin ixD (dVarR 0) (dC (.int 1))))))
def d__law_is_below : List D → Res D := runB s__law_is_below 2
def s__law_some : SDen :=
  (bSeq (sIf (tVal (dBin eqD (dBin modD (dVarR 0) (dC (.int 2))) (dC (.int 0))))
  (sRet (dCall d__law_reduced (aCons (dBin subD (dBin modD (dBin fdivD (dVarR 0) (dC (.int 2))) (dC (.int 9))) (dC (.int 4))) (aCons (dBin addD (dC (.int 1)) (dBin modD (dBin fdivD (dVarR 0) (dC (.int 18))) (dC (.int 3)))) aNil))))
  bNil)
  (bSeq (sSet 1 (dBin ixD (dLst (aCons (dC (.int 0)) (aCons (dC (.int 1)) (aCons (dUn negD (dC (.int 1))) (aCons (dC (.int 2)) (aCons (dUn negD (dC (.int 3))) (aCons (dC (.int 7)) (aCons (dC (.int 12)) (aCons (dUn negD (dC (.int 40))) (aCons (dC (.int 100)) (aCons (dBin addD (dBin powD (dC (.int 10)) (dC (.int 18))) (dC (.int 1))) (aCons (dUn negD (dBin powD (dC (.int 10)) (dC (.int 18)))) (aCons (dC (.int 3)) aNil))))))))))))) (dBin modD (dBin fdivD (dVarR 0) (dC (.int 2))) (dC (.int 12)))))
  (sRet (dCall d__law_reduced (aCons (dVar 1) (aCons (dBin ixD (dLst (aCons (dC (.int 1)) (aCons (dC (.int 1)) (aCons (dC (.int 2)) (aCons (dC (.int 3)) (aCons (dC (.int 10)) (aCons (dC (.int 1000)) (aCons (dC (.int 1)) (aCons (dC (.int 999983)) aNil))))))))) (dBin modD (dBin fdivD (dVarR 0) (dC (.int 24))) (dC (.int 8)))) aNil))))))
def d__law_some : List D → Res D := runB s__law_some 2
def s__law_gap : SDen :=
  (bSeq (sIf (tVal (dBin eqD (dBin modD (dVarR 0) (dC (.int 2))) (dC (.int 0))))
  (sRet (dCall d__law_reduced (aCons (dBin addD (dC (.int 1)) (dBin modD (dBin fdivD (dVarR 0) (dC (.int 2))) (dC (.int 6)))) (aCons (dBin addD (dC (.int 1)) (dBin modD (dBin fdivD (dVarR 0) (dC (.int 12))) (dC (.int 3)))) aNil))))
  bNil)
  (bSeq (sSet 1 (dBin ixD (dLst (aCons (dC (.int 1)) (aCons (dC (.int 2)) (aCons (dC (.int 5)) (aCons (dC (.int 7)) (aCons (dC (.int 1)) (aCons (dC (.int 3)) (aCons (dC (.int 10)) (aCons (dBin powD (dC (.int 10)) (dC (.int 18))) aNil))))))))) (dBin modD (dBin fdivD (dVarR 0) (dC (.int 2))) (dC (.int 8)))))
  (sRet (dCall d__law_reduced (aCons (dVar 1) (aCons (dBin ixD (dLst (aCons (dC (.int 1)) (aCons (dC (.int 1)) (aCons (dC (.int 2)) (aCons (dC (.int 3)) (aCons (dC (.int 10)) (aCons (dC (.int 1000)) aNil))))))) (dBin modD (dBin fdivD (dVarR 0) (dC (.int 16))) (dC (.int 6)))) aNil))))))
def d__law_gap : List D → Res D := runB s__law_gap 2
def s__law_comes : SDen :=
  (sRet (dCall d__law_sum (aCons (dBin ixD (dVarR 0) (dC (.int 2))) (aCons (dCall d__law_product (aCons (dBin ixD (dVarR 0) (dC (.int 3))) (aCons (dCall d__law_less (aCons (dVar 1) (aCons (dBin ixD (dVarR 0) (dC (.int 0))) aNil))) aNil))) aNil))))
def d__law_comes : List D → Res D := runB s__law_comes 2
def s__law_rows_l1 : SDen :=
  (bSeq (sSet 5 (dCall d__law_mixed (aCons (dVar 0) (aCons (dBin addD (dC (.int 10)) (dVarR 4)) aNil))))
    (bSeq (sSet 6 (dCall d__law_some (aCons (dCall d__law_mixed (aCons (dVar 0) (aCons (dBin addD (dC (.int 80)) (dVarR 4)) aNil))) aNil)))
    (bSeq (sSet 7 (dCall d__law_some (aCons (dBin fdivD (dVarR 5) (dC (.int 7))) aNil)))
    (bSeq (sSet 8 (dVar 7))
    (bSeq (sIf (tVal (dBin neD (dVarR 2) (dLst aNil)))
    (bSeq (sSet 8 (dCall d__law_comes (aCons (dBin ixD (dVarR 2) (dUn negD (dC (.int 1)))) (aCons (dVar 3) aNil))))
      (sSet 6 (dBin ixD (dLst (aCons (dVar 6) (aCons (dVar 6) (aCons (dBin ixD (dBin ixD (dVarR 2) (dUn negD (dC (.int 1)))) (dC (.int 3))) aNil)))) (dBin modD (dBin fdivD (dVarR 5) (dC (.int 90))) (dC (.int 3))))))
    bNil)
    (bSeq (sSet 9 (dCall d__law_some (aCons (dBin fdivD (dVarR 5) (dC (.int 900))) aNil)))
    (bSeq (sSet 10 (dBin ixD (dLst (aCons (dVar 8) (aCons (dVar 7) (aCons (dVar 8) (aCons (dVar 7) (aCons (dVar 7) (aCons (dVar 8) (aCons (dVar 8) aNil)))))))) (dBin modD (dVarR 5) (dC (.int 7)))))
    (bSeq (sSet 11 (dBin ixD (dLst (aCons (dVar 8) (aCons (dVar 8) (aCons (dVar 7) (aCons (dVar 7) (aCons (dVar 9) (aCons (dVar 8) (aCons (dVar 8) aNil)))))))) (dBin modD (dVarR 5) (dC (.int 7)))))
    (bSeq (sApp 2 (dTup (aCons (dVar 3) (aCons (dVar 10) (aCons (dVar 11) (aCons (dVar 6) aNil))))))
    (sSet 3 (dCall d__law_sum (aCons (dVar 3) (aCons (dCall d__law_gap (aCons (dBin fdivD (dVarR 5) (dC (.int 11))) aNil)) aNil)))))))))))))
def s__law_rows : SDen :=
  (bSeq (sSetO 2 (dLst aNil))
  (bSeq (sSet 3 (dTup (aCons (dC (.int 0)) (aCons (dC (.int 1)) aNil))))
  (bSeq (sFor (iRng (aCons (dVarR 1) aNil)) (.nm 4) s__law_rows_l1)
  (sFrz 2 (sRet (dVar 2))))))
def d__law_rows : List D → Res D := runB s__law_rows 12
def s__law_thin_l1 : SDen :=
  (bSeq (sSet 3 (dC .non))
    (bSeq (sIf (tVal (dBin neD (dVarR 1) (dLst aNil)))
    (sSet 3 (dCall d__law_comes (aCons (dBin ixD (dVarR 1) (dUn negD (dC (.int 1)))) (aCons (dBin ixD (dVarR 2) (dC (.int 0))) aNil))))
    bNil)
    (sIf (tOrB (tVal (dBin isD (dVarR 3) (dC .non))) (tVal (dBin neD (dSl (dVarR 2) (oSome (dC (.int 1))) oNone) (dTup (aCons (dVar 3) (aCons (dVar 3) (aCons (dBin ixD (dBin ixD (dVarR 1) (dUn negD (dC (.int 1)))) (dC (.int 3))) aNil)))))))
    (sApp 1 (dVar 2))
    bNil)))
def s__law_thin : SDen :=
  (bSeq (sSetO 1 (dLst aNil))
  (bSeq (sFor (iSeq (dVar 0)) (.nm 2) s__law_thin_l1)
  (sRet (dCall tupleD (aCons (dVarR 1) aNil)))))
def d__law_thin : List D → Res D := runB s__law_thin 4
def s__law_alike_l1 : SDen :=
  (sIf (tVal (dBin neD (dComp (iSeq (dVarR 3)) [4] (.nm 4) (tOrB (tNotB (tVal (dUn (isiD "int") (dVarR 4)))) (tVal (dUn (isiD "bool") (dVarR 4)))) (dC (.int 1))) (dLst aNil)))
      (sRet (dC (.bl false)))
      bNil)
def s__law_alike_l2 : SDen :=
  (bSeq (sIf (tOrB (tNotB (tVal (dUn (isiD "tuple") (dVarR 2)))) (tNotB (tVal (dCall allD (aCons (dComp (iSeq (dVarR 2)) [3] (.nm 3) tYesB (dUn (isiD "tuple") (dVarR 3))) aNil)))))
    (sRet (dC (.bl false)))
    bNil)
    (sFor (iSeq (dVar 2)) (.nm 3) s__law_alike_l1))
def s__law_alike : SDen :=
  (bSeq (sIf (tOrB (tNotB (tVal (dUn (isiD "tuple") (dVarR 0)))) (tOrB (tVal (dBin neD (dCall lenD (aCons (dVarR 0) aNil)) (dCall lenD (aCons (dVarR 1) aNil)))) (tVal (dBin neD (dCall tupleD (aCons (dVarR 0) aNil)) (dVarR 1)))))
  (sRet (dC (.bl false)))
  bNil)
  (bSeq (sFor (iSeq (dVar 0)) (.nm 2) s__law_alike_l2)
  (sRet (dC (.bl true)))))
def d__law_alike : List D → Res D := runB s__law_alike 5
def s__law_filled_l1 : SDen :=
  (bSeq (sApp 2 (dVar 4))
    (bSeq (sSet 5 (dCall d__law_mixed (aCons (dVar 1) (aCons (dBin addD (dC (.int 150)) (dVarR 3)) aNil))))
    (bSeq (sSet 6 (dCall d__law_sum (aCons (dBin ixD (dVarR 4) (dC (.int 0))) (aCons (dCall d__law_gap (aCons (dBin fdivD (dVarR 5) (dC (.int 5))) aNil)) aNil))))
    (sIf (tAndB (tVal (dBin eqD (dBin modD (dVarR 5) (dC (.int 3))) (dC (.int 0)))) (tOrB (tVal (dBin eqD (dBin addD (dVarR 3) (dC (.int 1))) (dCall lenD (aCons (dVarR 0) aNil)))) (tVal (dCall d__law_is_below (aCons (dVar 6) (aCons (dBin ixD (dBin ixD (dVarR 0) (dBin addD (dVarR 3) (dC (.int 1)))) (dC (.int 0))) aNil))))))
    (bSeq (sSet 7 (dCall d__law_comes (aCons (dVar 4) (aCons (dVar 6) aNil))))
      (sApp 2 (dTup (aCons (dVar 6) (aCons (dVar 7) (aCons (dVar 7) (aCons (dBin ixD (dVarR 4) (dC (.int 3))) aNil)))))))
    bNil))))
def s__law_filled : SDen :=
  (bSeq (sSetO 2 (dLst aNil))
  (bSeq (sFor (iEnumD (aCons (dVar 0) aNil)) (.tp [3, 4]) s__law_filled_l1)
  (sFrz 2 (sRet (dVar 2)))))
def d__law_filled : List D → Res D := runB s__law_filled 8
end
end FVP

set_option maxHeartbeats 4000000
/-! FVZ: += and -= of ints. -/
namespace FV
open PySem PySem.Spec PyProof.Rows L2
variable [Tbs]
section
variable {X : Cx} {c : Cc} {pos : Pos}
def augAdd : D → D → Res D
  | .int i, .int j => .ok (.int (i + j))
  | _, _ => .stuck
def augSub : D → D → Res D
  | .int i, .int j => .ok (.int (i - j))
  | _, _ => .stuck
@[simp] theorem augAdd_int {i j : Int} : augAdd (.int i) (.int j) = .ok (.int (i + j)) := rfl
@[simp] theorem augSub_int {i j : Int} : augSub (.int i) (.int j) = .ok (.int (i - j)) := rfl
theorem sj_augAdd (i : Nat) {x : Str} {e : Expr} {f : Den} {pos' : Pos} (he : EJ X c e f)
    (hN : X.N.Nodup) (hi : X.N[i]? = some x := by rfl) (hx : Loc X.env.scope x := by first | exact Or.inl rfl | exact Or.inr rfl) (hf : X.fn x = true ∨ X.env.scope.names.lookup x = some .local := by first | exact .inl rfl | exact .inr rfl | assumption) :
    SJ X c (.AugAssign (.Name x pos') .Add e pos) (sAugI i augAdd f) := by
  refine sj_augI i (h := fun i j => i + j) ip_add (fun a b => ?_) he (fun a b d h => ?_) (fun a b x h => ?_) hN hi hx hf
  · cases a <;> cases b <;> rfl
  · unfold augAdd at h; split at h
    · exact ⟨_, _, rfl, rfl⟩
    · cases h
  · unfold augAdd at h; split at h <;> cases h
theorem sj_augSub (i : Nat) {x : Str} {e : Expr} {f : Den} {pos' : Pos} (he : EJ X c e f)
    (hN : X.N.Nodup) (hi : X.N[i]? = some x := by rfl) (hx : Loc X.env.scope x := by first | exact Or.inl rfl | exact Or.inr rfl) (hf : X.fn x = true ∨ X.env.scope.names.lookup x = some .local := by first | exact .inl rfl | exact .inr rfl | assumption) :
    SJ X c (.AugAssign (.Name x pos') .Sub e pos) (sAugI i augSub f) := by
  refine sj_augI i (h := fun i j => i - j) ip_sub (fun a b => ?_) he (fun a b d h => ?_) (fun a b x h => ?_) hN hi hx hf
  · cases a <;> cases b <;> rfl
  · unfold augSub at h; split at h
    · exact ⟨_, _, rfl, rfl⟩
    · cases h
  · unfold augSub at h; split at h <;> cases h
theorem sAugI_ev {i : Nat} {op : D → D → Res D} {f : Den} {ρ : En} : sAugI i op f ρ = lift (dVar i ρ) ρ fun a => lift (f ρ) ρ fun b => lift (op a b) ρ fun d => .next (ρ.set i (some (.frz d))) := rfl
end
end FV

set_option maxHeartbeats 4000000
/-! FVW: defs that hand out a list of their own, and what may be done with it. -/
namespace FV
open PySem PySem.Spec PyProof.Rows L2
variable [Tbs]
def OwnAt (i : Nat) (ρ : En) : Prop := ∃ ds, ρ[i]? = some (some (Sl.own ds))
/-- goes on with slot i an own list -/
def Keeps (i : Nat) (g : SDen) : Prop := ∀ ρ, OwnAt i ρ → match g ρ with
  | .next ρ' => OwnAt i ρ'
  | .cont ρ' => OwnAt i ρ'
  | .brk ρ' => OwnAt i ρ'
  | .ret _ => False
  | _ => True
section
variable {i : Nat}
theorem own_set {ρ : En} {j : Nat} {x : Option Sl} (h : OwnAt i ρ) (n : j ≠ i) : OwnAt i (ρ.set j x) := by
  obtain ⟨ds, e⟩ := h
  exact ⟨ds, by rw [List.getElem?_set_ne n]; exact e⟩
theorem own_any {ρ : En} {j : Nat} {ds : List D} (h : OwnAt i ρ) : OwnAt i (ρ.set j (some (.own ds))) := by
  by_cases n : j = i
  · subst n
    obtain ⟨es, e⟩ := h
    exact ⟨ds, by rw [List.getElem?_set_self (List.getElem?_eq_some_iff.mp e).1]⟩
  · exact own_set h n
theorem kp_lift {α : Type} {r : Res α} {k : α → SRes} {ρ : En} (h : ∀ a, match k a with | .next ρ' => OwnAt i ρ' | .cont ρ' => OwnAt i ρ' | .brk ρ' => OwnAt i ρ' | .ret _ => False | _ => True) :
    match lift r ρ k with | .next ρ' => OwnAt i ρ' | .cont ρ' => OwnAt i ρ' | .brk ρ' => OwnAt i ρ' | .ret _ => False | _ => True := by
  cases r with
  | ok a => exact h a
  | exn x => exact True.intro
  | stuck => exact True.intro
theorem kp_set {j : Nat} {f : Den} (n : j ≠ i) : Keeps i (sSet j f) := fun ρ h => kp_lift fun d => own_set h n
theorem kp_setO {j : Nat} {f : Den} : Keeps i (sSetO j f) := fun ρ h => kp_lift fun d => by
  cases d <;> first | exact own_any h | exact True.intro
theorem kp_par {j k : Nat} {f g : Den} (n : j ≠ i) (m : k ≠ i) : Keeps i (sPar j k f g) := fun ρ h => kp_lift fun a => kp_lift fun b => own_set (own_set h n) m
theorem kp_aug {j : Nat} {op : D → D → Res D} {f : Den} (n : j ≠ i) : Keeps i (sAugI j op f) := fun ρ h => kp_lift fun a => kp_lift fun b => kp_lift fun d => own_set h n
theorem own_sets : ∀ {is : List Nat} {ds : List D} {ρ : En}, OwnAt i ρ → i ∉ is → OwnAt i (sets is ds ρ)
  | [], ds, ρ, h, _ => by cases ds <;> exact h
  | j :: is, [], ρ, h, _ => by simpa [sets] using h
  | j :: is, d :: ds, ρ, h, n => by
    rw [sets]
    exact own_sets (own_set h fun z => n (by rw [z]; simp)) fun z => n (List.mem_cons_of_mem _ z)
theorem own_asg {T : Tg} {d : D} {ρ ρ' : En} (h : OwnAt i ρ) (n : i ∉ slotsOf T) (e : asg T d ρ = .ok ρ') : OwnAt i ρ' := by
  unfold asg at e
  split at e
  · cases e
    exact own_set h fun z => n (by rw [z]; simp [slotsOf])
  · split at e
    · cases e; exact own_sets h n
    · cases e
  · cases e
theorem kp_asg {T : Tg} {f : Den} (n : i ∉ slotsOf T) : Keeps i (sAsg T f) := fun ρ h => kp_lift fun d => by
  cases e : asg T d ρ with
  | ok ρ' => exact own_asg h n e
  | exn x => exact True.intro
  | stuck => exact True.intro
theorem kp_expr {f : Den} : Keeps i (sExpr f) := fun ρ h => kp_lift fun _ => h
theorem kp_pass : Keeps i sPass := fun ρ h => h
theorem kp_nil : Keeps i bNil := fun ρ h => h
theorem kp_cont : Keeps i sCont := fun ρ h => h
theorem kp_brk : Keeps i sBrk := fun ρ h => h
theorem kp_seq {g h : SDen} (a : Keeps i g) (b : Keeps i h) : Keeps i (bSeq g h) := fun ρ o => by
  have a' := a ρ o
  unfold bSeq
  cases e : g ρ with
  | next ρ' => rw [e] at a'; exact b ρ' a'
  | cont ρ' => rw [e] at a'; exact a'
  | brk ρ' => rw [e] at a'; exact a'
  | ret d => rw [e] at a'; exact a'
  | exn x ρ' => exact True.intro
  | stuck => exact True.intro
theorem kp_if {t : En → Res Bool} {g h : SDen} (a : Keeps i g) (b : Keeps i h) : Keeps i (sIf t g h) := fun ρ o => by
  unfold sIf
  cases t ρ with
  | ok v => cases v with
    | true => exact a ρ o
    | false => exact b ρ o
  | exn x => exact True.intro
  | stuck => exact True.intro
theorem kp_frz {j : Nat} {g : SDen} (n : j ≠ i) (a : Keeps i g) : Keeps i (sFrz j g) := fun ρ o => by
  unfold sFrz
  refine a _ ?_
  unfold frzE
  split
  · exact own_set o n
  · exact own_set o n
  · exact o
theorem kp_app {j : Nat} {f : Den} : Keeps i (sApp j f) := fun ρ o => by
  have key : ∀ r : SRes, r = sApp j f ρ → match r with | .next ρ' => OwnAt i ρ' | .cont ρ' => OwnAt i ρ' | .brk ρ' => OwnAt i ρ' | .ret _ => False | _ => True := fun r e => by
    unfold sApp at e
    split at e
    · rename_i ds _
      subst e
      refine kp_lift fun d => ?_
      by_cases z : ds.length < sizeLine
      · rw [if_pos z]; exact own_any o
      · rw [if_neg z]; exact True.intro
    · subst e; exact True.intro
  exact key _ rfl
theorem kp_forD {T : Tg} {g : SDen} (n : i ∉ slotsOf T) (a : Keeps i g) : ∀ (ds : List D) (ρ : En), OwnAt i ρ → match forD T g ds ρ with | .next ρ' => OwnAt i ρ' | .cont ρ' => OwnAt i ρ' | .brk ρ' => OwnAt i ρ' | .ret _ => False | _ => True
  | [], ρ, o => o
  | d :: ds, ρ, o => by
    unfold forD
    cases e : asg T d ρ with
    | ok ρ1 =>
      have a' := a ρ1 (own_asg o n e)
      cases e2 : g ρ1 with
      | next ρ2 => rw [e2] at a'; simp only [e2]; exact kp_forD n a ds ρ2 a'
      | cont ρ2 => rw [e2] at a'; simp only [e2]; exact kp_forD n a ds ρ2 a'
      | brk ρ2 => rw [e2] at a'; simp only [e2]; exact a'
      | ret d => rw [e2] at a'; exact a'.elim
      | exn x ρ2 => simp only [e2]
      | stuck => simp only [e2]
    | exn x => exact True.intro
    | stuck => exact True.intro
theorem kp_for {f : DenI} {T : Tg} {g : SDen} (n : i ∉ slotsOf T) (a : Keeps i g) : Keeps i (sFor f T g) := fun ρ o => by
  unfold sFor
  cases f ρ with
  | ok ds => exact kp_forD n a _ ρ o
  | exn x => exact True.intro
  | stuck => exact True.intro
end
/-! ### blocks that hand out an own list -/
section
variable {X : Cx} {c : Cc} {pos : Pos}
def SOutF (X : Cx) (c : Cc) (F : Hp) (D : Ends) : SRes → Prop
  | .ret d => ∀ F' H' v, Grow c.F0 c.H0 F' H' → Fresh X.K c.H0 F' H' v d → D.rt v H'
  | r => SOut X c F D r
theorem SOutF.mono {F F' : Hp} {D : Ends} {r : SRes} (h : SOutF X c F D r) (s : Same F F') : SOutF X c F' D r := by
  cases r with
  | ret d => exact h
  | next ρ => exact SOut.mono (r := .next ρ) h s
  | cont ρ => exact SOut.mono (r := .cont ρ) h s
  | brk ρ => exact SOut.mono (r := .brk ρ) h s
  | exn x ρ => exact SOut.mono (D := D) (r := .exn x ρ) h s
  | stuck => exact h
def BF (X : Cx) (c : Cc) (i : Nat) (st : List Stmt) (g : SDen) : Prop := ∀ ρ σ F H D, Sim X.K c.F0 c.H0 F H ρ σ → OwnAt i ρ → SOutF X c F D (g ρ) → WpB X st D σ H
def BF0 (X : Cx) (c : Cc) (n : Nat) (st : List Stmt) (g : SDen) : Prop := ∀ ρ σ F H D, Sim X.K c.F0 c.H0 F H ρ σ → n ≤ ρ.length → SOutF X c F D (g ρ) → WpB X st D σ H
def sRetO (i : Nat) : SDen := fun ρ => match ρ[i]? with
  | some (some (.own ds)) => .ret (.lst ds)
  | _ => .stuck
/-- never falls off its end -/
def NoNx (g : SDen) : Prop := ∀ ρ ρ', g ρ ≠ .next ρ'
theorem nx_retO {i : Nat} : NoNx (sRetO i) := fun ρ ρ' h => by
  unfold sRetO at h
  split at h <;> cases h
theorem nx_seq {g h : SDen} (n : NoNx h) : NoNx (bSeq g h) := fun ρ ρ' e => by
  unfold bSeq at e
  split at e
  · exact n _ _ e
  · rename_i q; exact q _ e
theorem bf_ret (i : Nat) {x : Str} {p : Pos} (hN : X.N[i]? = some x := by rfl) (hv : Vis X.env.scope x := by first | exact Or.inl rfl | exact Or.inr (Or.inl rfl) | exact Or.inr (Or.inr rfl)) (hd : (x == ("__debug__" : Str)) = false := by decide)
    (hcd : (x == ("__classdict__" : Str)) = false := by decide) : BF X c i [.Return (some (.Name x p)) pos] (sRetO i) := by
  intro ρ σ F H D S ⟨ds, e⟩ o
  unfold sRetO at o
  simp only [e] at o
  obtain ⟨a, vs, h1, h2, h3, h4, h5, h6⟩ := S.own i ds e
  exact wpb_of (pss_one (ps_ret (pe_var hN hv hd hcd))) ⟨_, h1, o F H _ S.g ⟨a, vs, ds, rfl, rfl, h2, h3, h4, h5, h6⟩⟩
theorem bf_cons {i : Nat} {st : Stmt} {rest : List Stmt} {g h : SDen} (h1 : SJ X c st g) (k : Keeps i g) (h2 : BF X c i rest h) : BF X c i (st :: rest) (bSeq g h) := by
  intro ρ σ F H D S w o
  refine wpb_of (pss_cons (ps_wp st) (pss_wp rest)) (h1 ρ σ F H _ S ?_)
  have k' := k ρ w
  unfold bSeq at o
  cases q : g ρ with
  | next ρ' => rw [q] at o k'; exact fun σ' F' H' S' sm => h2 ρ' σ' F' H' D S' k' (o.mono sm)
  | brk ρ' => rw [q] at o; exact o
  | cont ρ' => rw [q] at o; exact o
  | ret d => rw [q] at k'; exact k'.elim
  | exn x ρ' => rw [q] at o; exact o
  | stuck => rw [q] at o; exact o
theorem bf0_doc {n : Nat} {st : Stmt} {rest : List Stmt} {h : SDen} (h1 : SJ X c st sPass) (h2 : BF0 X c n rest h) : BF0 X c n (st :: rest) (bSeq sPass h) := by
  intro ρ σ F H D S w o
  refine wpb_of (pss_cons (ps_wp st) (pss_wp rest)) (h1 ρ σ F H _ S ?_)
  exact fun σ' F' H' S' sm => h2 ρ σ' F' H' D S' w (SOutF.mono (r := h ρ) o sm)
theorem bf0_start {n : Nat} (i : Nat) {st : Stmt} {rest : List Stmt} {f : Den} {h : SDen} (hi : i < n) (h1 : SJ X c st (sSetO i f)) (h2 : BF X c i rest h) : BF0 X c n (st :: rest) (bSeq (sSetO i f) h) := by
  intro ρ σ F H D S w o
  refine wpb_of (pss_cons (ps_wp st) (pss_wp rest)) (h1 ρ σ F H _ S ?_)
  unfold bSeq at o
  cases q : sSetO i f ρ with
  | next ρ' =>
    rw [q] at o
    have k' : OwnAt i ρ' := by
      unfold sSetO at q
      cases e : f ρ with
      | ok d =>
        rw [e] at q
        have q : setO ρ i d = .next ρ' := q
        unfold setO at q
        split at q
        · cases q; exact ⟨_, List.getElem?_set_self (by omega)⟩
        · cases q
      | exn x => rw [e] at q; cases q
      | stuck => rw [e] at q; cases q
    exact fun σ' F' H' S' sm => h2 ρ' σ' F' H' D S' k' (o.mono sm)
  | brk ρ' => rw [q] at o; exact o
  | cont ρ' => rw [q] at o; exact o
  | ret d =>
    unfold sSetO at q
    cases e : f ρ with
    | ok d =>
      rw [e] at q
      have q : setO ρ i d = _ := q
      unfold setO at q
      split at q <;> cases q
    | exn x => rw [e] at q; cases q
    | stuck => rw [e] at q; cases q
  | exn x ρ' => rw [q] at o; exact o
  | stuck => rw [q] at o; exact o
/-- the promise: the answer is a new list that nobody else holds -/
def spF (K : PySem.W.Frag) (mg : Str → Option Value) (n : Nat) (g : List D → Res D) : Sp := fun vs H Q E => vs.length = n ∧ ∃ F ds, St F H ∧ Reps K F vs ds ∧
  match g ds with
  | .ok d => ∀ F' H' v, Grow F H F' H' → Fresh K H F' H' v d → Q v H'
  | .exn x => ∀ F' H' cls dd, Grow F H F' H' → XR mg x cls dd → E cls dd H'
  | .stuck => False
structure FnF (P : Program) (w : World) (K : PySem.W.Frag) (mg : Str → Option Value) (base : Heap) (k : Nat) (x : Str) (n : Nat) (g : List D → Res D) : Prop where
  ok : ∃ f fd ps, FnOk P w K mg base (L2.CX P w) k f fd ps (spF K mg ps.length g) ∧ mg x = some (.ref f) ∧ PySem.W.keepIn K (.ref f) = true ∧ Binds K fd ps [] ∧ n = ps.length
/-- it may be frozen at once -/
theorem FnF.d {P : Program} {w : World} {K : PySem.W.Frag} {mg : Str → Option Value} {base : Heap} {k n : Nat} {x : Str} {g : List D → Res D} (h : FnF P w K mg base k x n g) : FnD P w K mg base k x n g := by
  obtain ⟨f, fd, ps, F, hm, hk, hb, hn⟩ := h.ok
  refine ⟨f, fd, ps, [], [], [], g, F.imp fun vs H Q E z => ?_, hm, hk, hb, .nil, fun _ => .nil, by simp [hn], fun args => by rw [List.append_nil]⟩
  obtain ⟨hl, F, ds, sm, r, q⟩ := z
  refine ⟨hl, F, ds, sm, r, ?_⟩
  cases e : g ds with
  | ok d =>
    rw [e] at q
    have q : ∀ F' H' v, Grow F H F' H' → Rep K F' v d → Q v H' := q
    intro F' H' v gr fr
    obtain ⟨a, ws, es, rfl, rfl, k1, k2, k3, k4, k5⟩ := fr
    exact q _ _ _ (gr.freeze k3 k1 k2) (.lst upd_same k4 (k5.mono (same_upd k2)))
  | exn y => rw [e] at q; exact q
  | stuck => rw [e] at q; exact q
theorem fnf_of {P : Program} {w : World} {K : PySem.W.Frag} {mg : Str → Option Value} {base : Heap} {k n m : Nat} {x : Str} {st : Stmt} {N ps : List Str} {g : SDen} (A : At K mg x st) (Sc : FnScope N ps (defScope st)) (hb : BindOk x st ps) (hn : ps.length = n) (hm : m ≤ N.length) (hnx : NoNx g)
    (hbody : ∀ (f : Addr) (cdv : Value) (A : Around) (outer : List PySem.Env) (s : Shared) (H F : Hp) (E : XK), Room k (A.deeper (envOfC x (defScope st) s.heap.objs.size f cdv)) →
      ∀ {sm : St F H}, BF0 (cxOf (L2.CX P w) P w K mg base N x (defScope st) f cdv A outer s H E) ⟨F, H, fun cls d _ H => E cls d H, sm⟩ m (defBody st) g) : FnF P w K mg base (k + 1) x n (runB g N.length) := by
  obtain ⟨f, fd, Fn, hmg⟩ := A.ex
  subst hn
  refine ⟨f, fd, ps, ?_, hmg, Fn.kp, Fn.binds hb, rfl⟩
  refine Fn.okX Sc (fun vs H Q E h => h.1) fun cdv A outer s H vs Q E hr h => ?_
  obtain ⟨hl, F, ds, sm, r, h⟩ := h
  refine ⟨fun D σ H => WpB _ (defBody st) D σ H, pss_wp _, ?_⟩
  have S := start_sim (N := N) sm.1 r
  refine hbody f cdv A outer s H F E hr (sm := sm) _ _ F H _ S (by
    rw [List.length_append, List.length_map, List.length_replicate]
    omega) ?_
  unfold runB at h
  cases e : g (ds.map (fun d => some (.frz d)) ++ List.replicate (N.length - ds.length) none) with
  | next ρ' => exact absurd e (hnx _ _)
  | ret d => rw [e] at h; exact h
  | exn x ρ' => rw [e] at h; exact fun σ' F' H' cls dd S _ xr => h F' H' cls dd S.g xr
  | brk ρ' => rw [e] at h; exact h.elim
  | cont ρ' => rw [e] at h; exact h.elim
  | stuck => rw [e] at h; exact h.elim
theorem eo_callF {k n : Nat} {x : Str} {g : List D → Res D} {p : Pos} {e : Expr} {es : List Expr} {fs : DenA} (hf : FnF X.prog X.w X.K X.mg X.base k x n g) (hr : Room k X.A) (tk : Takes X c.W) (ha : AJ X c (e :: es) fs) [hl : ALen fs n] (hg : Gl X x := by rfl)
    (hdb : (x == ("__debug__" : Str)) = false := by decide) (he : starEach (e :: es) X.env = (false, eval e X.env) :: starEach es X.env := by first | with_reducible exact st_c | with_reducible exact st_n | with_reducible exact st_b | with_reducible exact st_u | with_reducible exact st_s | with_reducible exact st_f | with_reducible exact st_t | with_reducible exact st_l | with_reducible exact st_q | with_reducible exact st_o | with_reducible exact st_i | with_reducible exact st_m | with_reducible exact st_a | with_reducible exact st_h | with_reducible exact st_g | with_reducible exact st_d | rfl) (hpl : (backTo pos (starEach es X.env)).any (·.1) = false := by ((repeat (first | with_reducible exact pl_0 | with_reducible refine Eq.trans pl_c ?_ | with_reducible refine Eq.trans pl_n ?_ | with_reducible refine Eq.trans pl_b ?_ | with_reducible refine Eq.trans pl_u ?_ | with_reducible refine Eq.trans pl_s ?_ | with_reducible refine Eq.trans pl_f ?_ | with_reducible refine Eq.trans pl_t ?_ | with_reducible refine Eq.trans pl_l ?_ | with_reducible refine Eq.trans pl_q ?_ | with_reducible refine Eq.trans pl_o ?_ | with_reducible refine Eq.trans pl_i ?_ | with_reducible refine Eq.trans pl_m ?_ | with_reducible refine Eq.trans pl_a ?_ | with_reducible refine Eq.trans pl_h ?_ | with_reducible refine Eq.trans pl_g ?_ | with_reducible refine Eq.trans pl_d ?_)); first | done | rfl)) :
    EO X c (.Call (.Name x p) (e :: es) [] pos) (dCall g fs) := by
  obtain ⟨f, fd, ps, FO, hm, hk, hb, hn⟩ := hf.ok
  intro ρ σ F H Q S o
  refine wp_of (pe_callSD (dvs := []) FO hr hg hm hk hb .nil (fun σ => passAt tk σ) (pa_wp _) hdb he hpl) (ha ρ σ F H _ S (o.seq fun ds F1 H1 vs q1 g1 r1 o1 => ?_))
  have l1 := hl.len ρ ds q1
  refine ⟨by rw [List.length_append, r1.length, List.length_nil]; omega, F1, ds, (S.grow g1).st, by rw [List.append_nil]; exact r1, ?_⟩
  cases e2 : g ds with
  | ok d =>
    rw [e2] at o1
    intro F' H' v gr fr
    refine o1 F' H' v gr ?_
    obtain ⟨a, ws, es, rfl, rfl, k1, k2, k3, k4, k5⟩ := fr
    exact ⟨a, ws, es, rfl, rfl, k1, k2, g1.h.free' k3, k4, k5⟩
  | exn x => rw [e2] at o1; exact o1
  | stuck => rw [e2] at o1; exact o1.elim
/-- xs[k] = e, xs a list of the def's own -/
def setIx (i : Nat) (ρ : En) (ds : List D) (d k : D) : SRes := match k with
  | .int k => match ixN ds.length k with
    | some j => .next (ρ.set i (some (.own (ds.set j d))))
    | none => .stuck
  | _ => .stuck
def sSetIx (i : Nat) (fi fv : Den) : SDen := fun ρ => match ρ[i]? with
  | some (some (.own ds)) => lift (fv ρ) ρ fun d => lift (fi ρ) ρ fun k => setIx i ρ ds d k
  | _ => .stuck
theorem sj_setIx (i : Nat) {x : Str} {e ie : Expr} {fi fv : Den} {p pos' : Pos} (hi : EJ X c ie fi) (he : EJ X c e fv) (hN : X.N[i]? = some x := by rfl) (hv : Vis X.env.scope x := by first | exact Or.inl rfl | exact Or.inr (Or.inl rfl) | exact Or.inr (Or.inr rfl))
    (hd : (x == ("__debug__" : Str)) = false := by decide) (hcd : (x == ("__classdict__" : Str)) = false := by decide)
    (hs : swapsWithSole [.Subscript (.Name x p) ie pos'] e pos.line X.env = pure false := by rfl) (hw : swappedStores [.Subscript (.Name x p) ie pos'] e X.env = pure none := by rfl)
    (ha : ∀ v, assign (.Subscript (.Name x p) ie pos') X.env v = (do
      let ov ← holding [v] (eval (.Name x p) X.env)
      let iv ← holding [v, ov] (eval ie X.env)
      standAt pos'
      holding [v, ov, iv] (setItem ov iv v)
      release [v, ov, iv] []) := by intro v; rfl)
    (h1 : (assignEach [.Subscript (.Name x p) ie pos'] X.env).map (·.2) = [assign (.Subscript (.Name x p) ie pos') X.env] := by rfl) :
    SJ X c (.Assign [.Subscript (.Name x p) ie pos'] e pos) (sSetIx i fi fv) := by
  intro ρ σ F H D S o
  unfold sSetIx at o
  split at o
  · rename_i ds q
    refine wps_of (ps_asg (pe_wp e) (pg_sub (pe_var hN hv hd hcd) (pe_wp ie) set_list ha) hs hw h1) (he ρ σ F H _ S (lift_out S o fun d F' H' v _ g r o' => ?_))
    obtain ⟨a, vs, k1, k2, k3, k4, k5, k6⟩ := (S.grow g).own i ds q
    refine ⟨_, k1, hi ρ σ F' H' _ (S.grow g) (lift_out (S.grow g) o' fun kd F2 H2 u _ g2 r2 o2 => ?_)⟩
    obtain ⟨a', ws, m1, m2, m3, m4, m5, m6⟩ := ((S.grow g).grow g2).own i ds q
    rw [k1] at m1; cases m1
    unfold setIx at o2
    split at o2
    · rename_i kk _
      cases r2
      split at o2
      · rename_i j hj
        have hl := m6.length
        refine ⟨a, ws, kk, j, rfl, rfl, m2, by rw [hl]; exact hj, ?_⟩
        exact o2 _ _ _ (((S.grow g).grow g2).mut i q k1 (by rw [List.length_set]; exact m5) (m6.set j (r.mono g2.f))) (Same.refl _)
      · exact o2.elim
    · exact o2.elim
  · exact o.elim
theorem kp_setIx {i j : Nat} {f g : Den} : Keeps i (sSetIx j f g) := fun ρ o => by
  have key : ∀ r : SRes, r = sSetIx j f g ρ → match r with | .next ρ' => OwnAt i ρ' | .cont ρ' => OwnAt i ρ' | .brk ρ' => OwnAt i ρ' | .ret _ => False | _ => True := fun r e => by
    unfold sSetIx at e
    split at e
    · subst e
      refine kp_lift fun d => kp_lift fun k => ?_
      cases k with
      | int k =>
        rename_i ds _
        show match (match ixN ds.length k with | some j' => SRes.next (ρ.set j (some (.own (ds.set j' d)))) | none => .stuck) with | .next ρ' => OwnAt i ρ' | .cont ρ' => OwnAt i ρ' | .brk ρ' => OwnAt i ρ' | .ret _ => False | _ => True
        cases ixN ds.length k with
        | some j' => exact own_any o
        | none => exact True.intro
      | _ => exact True.intro
    · subst e; exact True.intro
  exact key _ rfl
/-! ### calls that only look at lists of the def's own -/
mutual
def D.scalar : D → Bool
  | .non => true
  | .bl _ => true
  | .int _ => true
  | .str _ => true
  | .tup ds => scalars ds
  | .lst _ => false
  | .klst _ => false
  | .exn _ => false
  | .fn _ => false
  | .dic _ _ _ => false
  | .lam _ _ => false
  | .ins _ _ _ => false
def scalars : List D → Bool
  | [] => true
  | d :: ds => d.scalar && scalars ds
end
/-- F, and the tuples of F' -/
def tupF (F F' : Hp) : Hp := fun a => match F' a with
  | some (.tup vs) => some (.tup vs)
  | some (.frz o (.tup vs)) => some (.frz o (.tup vs))
  | _ => F a
theorem tupF_same {F F' : Hp} (s : Same F F') : Same F (tupF F F') := fun a o h => by
  have e := s a o h
  unfold tupF; split
  · rename_i q; rw [← e, q]
  · rename_i q; rw [← e, q]
  · exact h
theorem tupF_sub {F F' H : Hp} (s : Same F F') (s2 : Same F' H) : Same (tupF F F') H := fun a o h => by
  unfold tupF at h; split at h
  · rename_i e; rw [← h]; exact s2 _ _ e
  · rename_i e; rw [← h]; exact s2 _ _ e
  · exact s2 _ _ (s _ _ h)
theorem tupF_t {F F' : Hp} {a : Addr} {vs : List V} (h : F' a = some (.tup vs)) : tupF F F' a = some (.tup vs) := by unfold tupF; rw [h]
theorem tupF_z {F F' : Hp} {a : Addr} {o : Obj} {vs : List V} (h : F' a = some (.frz o (.tup vs))) : tupF F F' a = some (.frz o (.tup vs)) := by unfold tupF; rw [h]
theorem tupF_grow {F H F' H' : Hp} (s : Same F F') (g : GH H H') (fh : Same F' H') : Grow F H (tupF F F') H' :=
  ⟨tupF_same s, g, tupF_sub s fh, fun a o h1 h2 m => by
    have h3 := g.k a o h1 m.nt
    unfold tupF; split
    · rename_i e; rw [fh _ _ e] at h3; cases h3; exact m.elim
    · rename_i e; rw [fh _ _ e] at h3; cases h3; exact m.elim
    · exact h2, fun n a o h => by
    unfold tupF at h; split at h
    · cases h; intro ps z; cases z
    · cases h; intro ps z; cases z
    · exact n a o h⟩
mutual
theorem Rep.scalar {K : PySem.W.Frag} {F F' : Hp} : ∀ {v : V} {d : D}, Rep K F' v d → d.scalar = true → Rep K (tupF F F') v d
  | _, _, .non, _ => .non
  | _, _, .bl b, _ => .bl b
  | _, _, .int i, _ => .int i
  | _, _, .str x, _ => .str x
  | _, _, .tup h1 h2 h3, h => .tup (by
      rcases h1 with (h1 | ⟨o, h1⟩) | h1
      · exact .inl (.inl (tupF_t h1))
      · exact .inl (.inr ⟨o, tupF_z h1⟩)
      · exact .inr h1) h2 (Reps.scalar h3 (by simpa [D.scalar] using h))
  | _, _, .lst _ _ _, h => by simp [D.scalar] at h
  | _, _, .klst _ _ _, h => by simp [D.scalar] at h
  | _, _, .exn _ _, h => by simp [D.scalar] at h
  | _, _, .fn _, h => by simp [D.scalar] at h
  | _, _, .dic _ _ _ _, h => by simp [D.scalar] at h
  | _, _, .ins _ _ _ _ _, h => by simp [D.scalar] at h
  | _, _, .lam _ _, h => by simp [D.scalar] at h
theorem Reps.scalar {K : PySem.W.Frag} {F F' : Hp} : ∀ {vs : List V} {ds : List D}, Reps K F' vs ds → scalars ds = true → Reps K (tupF F F') vs ds
  | _, _, .nil, _ => .nil
  | _, _, .cons r t, h => by
    simp only [scalars, Bool.and_eq_true] at h
    exact .cons (Rep.scalar r h.1) (Reps.scalar t h.2)
end
theorem Rds.reps {K : PySem.W.Frag} {F H : Hp} (s : Same F (clean H)) : ∀ {vs : List V} {ds : List D}, Rds K F H vs ds → Reps K (clean H) vs ds
  | _, _, .nil => .nil
  | _, _, .cons r t => by
    refine .cons ?_ (Rds.reps s t)
    rcases r with r | ⟨a, o, rfl, h3, h4⟩
    · exact r.mono s
    · exact (h4.mono s).rep (clean_of h3 h4.mu.nt)
def dCallS (g : List D → Res D) (fs : DenA) : Den := fun ρ => (fs ρ).bind fun ds => (g ds).bind fun d => if d.scalar = true then .ok d else .stuck
@[simp] theorem dCallS_ev {g : List D → Res D} {fs : DenA} {ρ : En} : dCallS g fs ρ = (fs ρ).bind fun ds => (g ds).bind fun d => if d.scalar = true then .ok d else .stuck := rfl
@[simp] theorem scalar_bl {b : Bool} : (D.bl b).scalar = true := by simp [D.scalar]
theorem ej_callS {k n : Nat} {x : Str} {g : List D → Res D} {p : Pos} {e : Expr} {es : List Expr} {fs : DenA} (hf : FnD X.prog X.w X.K X.mg X.base k x n g) (hr : Room k X.A) (tk : Takes X c.W) (ha : AR X c (e :: es) fs) [hl : ALen fs n] (hg : Gl X x := by rfl)
    (hdb : (x == ("__debug__" : Str)) = false := by decide) (he : starEach (e :: es) X.env = (false, eval e X.env) :: starEach es X.env := by first | with_reducible exact st_c | with_reducible exact st_n | with_reducible exact st_b | with_reducible exact st_u | with_reducible exact st_s | with_reducible exact st_f | with_reducible exact st_t | with_reducible exact st_l | with_reducible exact st_q | with_reducible exact st_o | with_reducible exact st_i | with_reducible exact st_m | with_reducible exact st_a | with_reducible exact st_h | with_reducible exact st_g | with_reducible exact st_d | rfl) (hpl : (backTo pos (starEach es X.env)).any (·.1) = false := by ((repeat (first | with_reducible exact pl_0 | with_reducible refine Eq.trans pl_c ?_ | with_reducible refine Eq.trans pl_n ?_ | with_reducible refine Eq.trans pl_b ?_ | with_reducible refine Eq.trans pl_u ?_ | with_reducible refine Eq.trans pl_s ?_ | with_reducible refine Eq.trans pl_f ?_ | with_reducible refine Eq.trans pl_t ?_ | with_reducible refine Eq.trans pl_l ?_ | with_reducible refine Eq.trans pl_q ?_ | with_reducible refine Eq.trans pl_o ?_ | with_reducible refine Eq.trans pl_i ?_ | with_reducible refine Eq.trans pl_m ?_ | with_reducible refine Eq.trans pl_a ?_ | with_reducible refine Eq.trans pl_h ?_ | with_reducible refine Eq.trans pl_g ?_ | with_reducible refine Eq.trans pl_d ?_)); first | done | rfl)) :
    EJ X c (.Call (.Name x p) (e :: es) [] pos) (dCallS g fs) := by
  obtain ⟨f, fd, ps, dvs, ds', dd, g', FO, hm, hk, hb, hd, hdd, hn, hgg⟩ := hf.ok
  intro ρ σ F H Q S o
  refine wp_of (pe_callSD FO hr hg hm hk hb hd (fun σ => passAt tk σ) (pa_wp _) hdb he hpl) (ha ρ σ F H _ S (o.seq fun ds F1 H1 vs q1 g1 r1 o1 => ?_))
  have l1 := hl.len ρ ds q1
  have l2 := (hdd H1).length
  have st1 := (S.grow g1).st
  have r2 := r1.reps (same_clean st1.1 st1.2.1)
  refine ⟨by rw [List.length_append, r2.length]; omega, clean H1, ds ++ dd, ⟨clean_same H1, clean_nt H1, st1.2.2⟩, r2.append (hdd _), ?_⟩
  have gr : ∀ {F' H' : Hp}, Grow (clean H1) H1 F' H' → Grow F1 H1 F1 H' := fun gg => ⟨Same.refl F1, gg.h, (same_clean st1.1 st1.2.1).trans (gg.f.trans gg.fh), fun _ _ _ h _ => h, fun h => h⟩
  rw [hgg] at o1
  cases e2 : g' (ds ++ dd) with
  | ok d =>
    rw [e2] at o1
    intro F' H' v gg rr
    have o1 : Out X c σ F1 H1 (fun F' _ v d => Rep X.K F' v d) (if d.scalar = true then Res.ok d else .stuck) Q := o1
    by_cases z : d.scalar = true
    · rw [if_pos z] at o1
      exact o1 (tupF F1 F') H' v (tupF_grow ((same_clean st1.1 st1.2.1).trans gg.f) gg.h gg.fh) (rr.scalar z)
    · rw [if_neg z] at o1; exact o1.elim
  | exn x =>
    rw [e2] at o1
    exact fun F' H' cls dd gg xr => o1 F1 H' cls dd (gr gg) xr
  | stuck => rw [e2] at o1; exact o1.elim
end
end FV

/-! FVP1B: denotations that many laws share (printed by mklib.py). -/
namespace FVP
open PySem PySem.Spec PyProof.Rows L2 FV
noncomputable section
def s_number_at : SDen :=
  (bSeq (sSet 2 (dC (.int 0)))
  (bSeq (sSet 3 (dCall lenD (aCons (dVarR 0) aNil)))
  (bSeq (whD (tVal (dBin gtD (dBin subD (dVarR 3) (dVarR 2)) (dC (.int 1))))
  (bSeq (sSet 4 (dBin fdivD (dBin addD (dVarR 2) (dVarR 3)) (dC (.int 2))))
    (sIf (tVal (dCall d_below (aCons (dVar 1) (aCons (dBin ixD (dBin ixD (dVarR 0) (dVarR 4)) (dC (.int 0))) aNil))))
    (sSet 3 (dVar 4))
    (sSet 2 (dVar 4)))))
  (sRet (dVar 2)))))
def d_number_at : List D → Res D := runB s_number_at 5
def s_merged : SDen :=
  (bSeq (sSetO 2 (dLst aNil))
  (bSeq (sSet 3 (dC (.int 0)))
  (bSeq (sSet 4 (dC (.int 0)))
  (bSeq (whD (tAndB (tVal (dBin ltD (dVarR 3) (dCall lenD (aCons (dVarR 0) aNil)))) (tVal (dBin ltD (dVarR 4) (dCall lenD (aCons (dVarR 1) aNil)))))
  (sIf (tVal (dBin eqD (dBin ixD (dVarR 0) (dVarR 3)) (dBin ixD (dVarR 1) (dVarR 4))))
    (sAugI 4 augAdd (dC (.int 1)))
    (sIf (tVal (dCall d_below (aCons (dBin ixD (dVarR 1) (dVarR 4)) (aCons (dBin ixD (dVarR 0) (dVarR 3)) aNil))))
      (bSeq (sApp 2 (dBin ixD (dVarR 1) (dVarR 4)))
        (sAugI 4 augAdd (dC (.int 1))))
      (bSeq (sApp 2 (dBin ixD (dVarR 0) (dVarR 3)))
        (sAugI 3 augAdd (dC (.int 1)))))))
  (sRet (dBin addD (dBin addD (dVarR 2) (dCall listD (aCons (dSl (dVarR 0) (oSome (dVarR 3)) oNone) aNil))) (dCall listD (aCons (dSl (dVarR 1) (oSome (dVarR 4)) oNone) aNil))))))))
def d_merged : List D → Res D := runB s_merged 5
def s_begins_of : SDen :=
  (sRet (dComp (iSeq (dVarR 0)) [1] (.nm 1) tYesB (dBin ixD (dVarR 1) (dC (.int 0)))))
def d_begins_of : List D → Res D := runB s_begins_of 2
def s_seen_at : SDen :=
  (bSeq (sSet 2 (dBin ixD (dVarR 0) (dCall d_number_at (aCons (dVar 0) (aCons (dVar 1) aNil)))))
  (bSeq (sIf (tVal (dBin eqD (dBin ixD (dVarR 2) (dC (.int 0))) (dVarR 1)))
  (sRet (dSl (dVarR 2) (oSome (dC (.int 1))) oNone))
  bNil)
  (bSeq (sSet 3 (dCall d_come_to (aCons (dVar 2) (aCons (dVar 1) aNil))))
  (sRet (dTup (aCons (dVar 3) (aCons (dVar 3) (aCons (dBin ixD (dVarR 2) (dC (.int 3))) aNil))))))))
def d_seen_at : List D → Res D := runB s_seen_at 4
def s__law_quotient : SDen :=
  (sRet (dCall d__law_reduced (aCons (dBin mulD (dBin ixD (dVarR 0) (dC (.int 0))) (dBin ixD (dVarR 1) (dC (.int 1)))) (aCons (dBin mulD (dBin ixD (dVarR 0) (dC (.int 1))) (dBin ixD (dVarR 1) (dC (.int 0)))) aNil))))
def d__law_quotient : List D → Res D := runB s__law_quotient 2
def s__law_value_l1 : SDen :=
  (sIf (tNotB (tVal (dCall d__law_is_below (aCons (dVar 1) (aCons (dBin ixD (dVarR 3) (dC (.int 0))) aNil)))))
    (sSet 2 (dVar 3))
    bNil)
def s__law_value : SDen :=
  (bSeq (sSet 2 (dBin ixD (dVarR 0) (dC (.int 0))))
  (bSeq (sFor (iSeq (dVar 0)) (.nm 3) s__law_value_l1)
  (bSeq (sIf (tVal (dBin eqD (dBin ixD (dVarR 2) (dC (.int 0))) (dVarR 1)))
  (sRet (dBin ixD (dVarR 2) (dC (.int 1))))
  bNil)
  (sRet (dCall d__law_comes (aCons (dVar 2) (aCons (dVar 1) aNil)))))))
def d__law_value : List D → Res D := runB s__law_value 4
def s__law_folded_l1 : SDen :=
  (sSet 1 (dCall d__law_mixed (aCons (dBin addD (dVarR 1) (dVarR 3)) (aCons (dBin addD (dVarR 2) (dC (.int 3))) aNil))))
def s__law_folded : SDen :=
  (bSeq (sSet 1 (dBin addD (dCall lenD (aCons (dVarR 0) aNil)) (dC (.int 5))))
  (bSeq (sFor (iEnumD (aCons (dSl (dVarR 0) oNone (oSome (dC (.int 63)))) aNil)) (.tp [2, 3]) s__law_folded_l1)
  (sRet (dVar 1))))
def d__law_folded : List D → Res D := runB s__law_folded 4
def s__law_rising_l1 : SDen :=
  (bSeq (sSet 3 (dCall lenD (aCons (dComp (iSeq (dVarR 1)) [4] (.nm 4) (tVal (dCall d__law_is_below (aCons (dVar 4) (aCons (dVar 2) aNil)))) (dVar 4)) aNil)))
    (sIf (tVal (dBin neD (dSl (dVarR 1) (oSome (dVarR 3)) (oSome (dBin addD (dVarR 3) (dC (.int 1))))) (dLst (aCons (dVar 2) aNil))))
    (sIns 1 (dVar 3) (dVar 2))
    bNil))
def s__law_rising : SDen :=
  (bSeq (sSetO 1 (dLst aNil))
  (bSeq (sFor (iSeq (dVar 0)) (.nm 2) s__law_rising_l1)
  (sFrz 1 (sRet (dVar 1)))))
def d__law_rising : List D → Res D := runB s__law_rising 5
def s__law_step : SDen :=
  (bSeq (sIf (tVal (dBin eqD (dBin addD (dVarR 1) (dC (.int 1))) (dCall lenD (aCons (dVarR 0) aNil))))
  (sRet (dTup (aCons (dC (.int 1)) (aCons (dC (.int 1)) aNil))))
  bNil)
  (sRet (dCall d__law_quotient (aCons (dCall d__law_less (aCons (dBin ixD (dVarR 0) (dBin addD (dVarR 1) (dC (.int 1)))) (aCons (dBin ixD (dVarR 0) (dVarR 1)) aNil))) (aCons (dTup (aCons (dC (.int 3)) (aCons (dC (.int 1)) aNil))) aNil)))))
def d__law_step : List D → Res D := runB s__law_step 2
def s__law_alike_b (rec : List D → Res D) : SDen :=
  (bSeq (sIf (tVal (dBin isD (dVarR 1) (dC .non)))
  (sRet (dBin isD (dVarR 0) (dC .non)))
  bNil)
  (bSeq (sIf (tVal (dUn (isi2D "list" "tuple") (dVarR 1)))
  (bSeq (sSet 2 (dLst (aCons (dUn (isiD "list") (dVarR 1)) (aCons (dUn (isiD "tuple") (dVarR 1)) aNil))))
    (bSeq (sIf (tOrB (tVal (dBin neD (dVarR 2) (dLst (aCons (dUn (isiD "list") (dVarR 0)) (aCons (dUn (isiD "tuple") (dVarR 0)) aNil))))) (tVal (dBin neD (dCall lenD (aCons (dVarR 0) aNil)) (dCall lenD (aCons (dVarR 1) aNil)))))
    (sRet (dC (.bl false)))
    bNil)
    (sRet (dCall allD (aCons (dComp (iRng (aCons (dCall lenD (aCons (dVarR 1) aNil)) aNil)) [3] (.nm 3) tYesB (dCall rec (aCons (dBin ixD (dVarR 0) (dVarR 3)) (aCons (dBin ixD (dVarR 1) (dVarR 3)) aNil)))) aNil)))))
  bNil)
  (bSeq (sIf (tOrB (tVal (dBin neD (dUn (isiD "str") (dVarR 1)) (dUn (isiD "str") (dVarR 0)))) (tVal (dBin neD (dUn (isiD "bool") (dVarR 1)) (dUn (isiD "bool") (dVarR 0)))))
  (sRet (dC (.bl false)))
  bNil)
  (sRet (dBin eqD (dVarR 0) (dVarR 1))))))
def dn__law_alike_b : Nat → List D → Res D
  | 0 => runB (fun _ => .stuck) 4
  | m + 1 => runB (s__law_alike_b (dn__law_alike_b m)) 4
def d__law_alike_b : List D → Res D := dn__law_alike_b 12
def s__law_low : SDen :=
  (bSeq (sPar 2 3 (dCall absD (aCons (dVarR 0) aNil)) (dVar 1))
  (bSeq (whD (tVal (dBin gtD (dVarR 3) (dC (.int 0))))
  (sPar 2 3 (dVar 3) (dBin modD (dVarR 2) (dVarR 3))))
  (sRet (dTup (aCons (dBin fdivD (dVarR 0) (dVarR 2)) (aCons (dBin fdivD (dVarR 1) (dVarR 2)) aNil))))))
def d__law_low : List D → Res D := runB s__law_low 4
def s__law_sum_b : SDen :=
  (sRet (dCall d__law_low (aCons (dBin addD (dBin mulD (dBin ixD (dVarR 0) (dC (.int 0))) (dBin ixD (dVarR 1) (dC (.int 1)))) (dBin mulD (dBin ixD (dVarR 1) (dC (.int 0))) (dBin ixD (dVarR 0) (dC (.int 1))))) (aCons (dBin mulD (dBin ixD (dVarR 0) (dC (.int 1))) (dBin ixD (dVarR 1) (dC (.int 1)))) aNil))))
def d__law_sum_b : List D → Res D := runB s__law_sum_b 2
def s__law_less_b : SDen :=
  (sRet (dCall d__law_low (aCons (dBin subD (dBin mulD (dBin ixD (dVarR 0) (dC (.int 0))) (dBin ixD (dVarR 1) (dC (.int 1)))) (dBin mulD (dBin ixD (dVarR 1) (dC (.int 0))) (dBin ixD (dVarR 0) (dC (.int 1))))) (aCons (dBin mulD (dBin ixD (dVarR 0) (dC (.int 1))) (dBin ixD (dVarR 1) (dC (.int 1)))) aNil))))
def d__law_less_b : List D → Res D := runB s__law_less_b 2
def s__law_by : SDen :=
  (sRet (dCall d__law_low (aCons (dBin mulD (dBin ixD (dVarR 0) (dC (.int 0))) (dBin ixD (dVarR 1) (dC (.int 0)))) (aCons (dBin mulD (dBin ixD (dVarR 0) (dC (.int 1))) (dBin ixD (dVarR 1) (dC (.int 1)))) aNil))))
def d__law_by : List D → Res D := runB s__law_by 2
def s__law_under : SDen :=
  (sRet (dBin ltD (dBin mulD (dBin ixD (dVarR 0) (dC (.int 0))) (dBin ixD (dVarR 1) (dC (.int 1)))) (dBin mulD (dBin ixD (dVarR 1) (dC (.int 0))) (dBin ixD (dVarR 0) (dC (.int 1))))))
def d__law_under : List D → Res D := runB s__law_under 2
def s__law_amount : SDen :=
  (bSeq (sSet 2 (dBin modD (dBin fdivD (dCall d__law_mixed (aCons (dVar 0) (aCons (dC (.int 91)) aNil))) (dC (.int 3))) (dC (.int 8))))
  (bSeq (sSet 3 (dBin fdivD (dCall d__law_mixed (aCons (dVar 0) (aCons (dC (.int 92)) aNil))) (dC (.int 3))))
  (bSeq (sSet 4 (dBin ixD (dLst (aCons (dC (.int 1)) (aCons (dC (.int 1)) (aCons (dC (.int 1)) (aCons (dC (.int 2)) (aCons (dC (.int 3)) (aCons (dC (.int 4)) (aCons (dC (.int 7)) (aCons (dC (.int 1000003)) aNil))))))))) (dBin modD (dBin fdivD (dCall d__law_mixed (aCons (dVar 0) (aCons (dC (.int 93)) aNil))) (dC (.int 3))) (dC (.int 8)))))
  (bSeq (sIf (tVal (dBin eqD (dVarR 2) (dC (.int 0))))
  (sSet 3 (dBin mulD (dBin mulD (dVarR 3) (dC (.int 2147483629))) (dCall d__law_mixed (aCons (dVar 0) (aCons (dC (.int 94)) aNil)))))
  (sIf (tVal (dBin ltD (dVarR 2) (dC (.int 3))))
    (sSet 3 (dBin modD (dVarR 3) (dC (.int 1000))))
    (sSet 3 (dBin modD (dVarR 3) (dC (.int 21))))))
  (sRet (dCall d__law_low (aCons (dBin addD (dBin mulD (dVarR 1) (dVarR 4)) (dVarR 3)) (aCons (dVar 4) aNil))))))))
def d__law_amount : List D → Res D := runB s__law_amount 5
def s__law_come : SDen :=
  (sRet (dCall d__law_sum_b (aCons (dBin ixD (dVarR 0) (dC (.int 2))) (aCons (dCall d__law_by (aCons (dBin ixD (dVarR 0) (dC (.int 3))) (aCons (dCall d__law_less_b (aCons (dVar 1) (aCons (dBin ixD (dVarR 0) (dC (.int 0))) aNil))) aNil))) aNil))))
def d__law_come : List D → Res D := runB s__law_come 2
def s__law_line_l1 : SDen :=
  (bSeq (sSet 5 (dBin fdivD (dCall d__law_mixed (aCons (dVar 0) (aCons (dBin addD (dC (.int 200)) (dVarR 4)) aNil))) (dC (.int 3))))
    (bSeq (sSet 6 (dCall d__law_amount (aCons (dCall d__law_mixed (aCons (dVar 0) (aCons (dBin addD (dC (.int 230)) (dVarR 4)) aNil))) (aCons (dUn negD (dC (.int 9))) aNil))))
    (bSeq (sSet 7 (dCall d__law_amount (aCons (dCall d__law_mixed (aCons (dVar 0) (aCons (dBin addD (dC (.int 260)) (dVarR 4)) aNil))) (aCons (dUn negD (dC (.int 9))) aNil))))
    (bSeq (sSet 8 (dCall d__law_low (aCons (dBin subD (dBin modD (dBin fdivD (dVarR 5) (dC (.int 64))) (dC (.int 9))) (dC (.int 4))) (aCons (dBin addD (dC (.int 1)) (dBin modD (dBin fdivD (dVarR 5) (dC (.int 640))) (dC (.int 3)))) aNil))))
    (bSeq (sIf (tAndB (tVal (dBin neD (dVarR 2) (dLst aNil))) (tVal (dBin gtD (dBin modD (dVarR 5) (dC (.int 4))) (dC (.int 0)))))
    (sSet 6 (dCall d__law_come (aCons (dBin ixD (dVarR 2) (dUn negD (dC (.int 1)))) (aCons (dVar 3) aNil))))
    bNil)
    (bSeq (sIf (tVal (dBin gtD (dBin modD (dBin fdivD (dVarR 5) (dC (.int 4))) (dC (.int 4))) (dC (.int 0))))
    (sSet 7 (dVar 6))
    bNil)
    (bSeq (sApp 2 (dTup (aCons (dVar 3) (aCons (dVar 6) (aCons (dVar 7) (aCons (dVar 8) aNil))))))
    (sSet 3 (dCall d__law_sum_b (aCons (dVar 3) (aCons (dCall d__law_sum_b (aCons (dCall d__law_amount (aCons (dCall d__law_mixed (aCons (dVar 0) (aCons (dBin addD (dC (.int 290)) (dVarR 4)) aNil))) (aCons (dC (.int 0)) aNil))) (aCons (dTup (aCons (dC (.int 1)) (aCons (dC (.int 3)) aNil))) aNil))) aNil)))))))))))
def s__law_line : SDen :=
  (bSeq (sSetO 2 (dLst aNil))
  (bSeq (sSet 3 (dTup (aCons (dC (.int 0)) (aCons (dC (.int 1)) aNil))))
  (bSeq (sFor (iRng (aCons (dVarR 1) aNil)) (.nm 4) s__law_line_l1)
  (sFrz 2 (sRet (dCall d_line_of (aCons (dVar 2) aNil)))))))
def d__law_line : List D → Res D := runB s__law_line 9
def s__law_at : SDen :=
  (bSeq (sSet 2 (dBin ixD (dComp (iSeq (dVarR 0)) [3] (.nm 3) (tNotB (tVal (dCall d__law_under (aCons (dVar 1) (aCons (dBin ixD (dVarR 3) (dC (.int 0))) aNil))))) (dVar 3)) (dUn negD (dC (.int 1)))))
  (bSeq (sIf (tVal (dBin eqD (dBin ixD (dVarR 2) (dC (.int 0))) (dVarR 1)))
  (sRet (dBin ixD (dVarR 2) (dC (.int 1))))
  bNil)
  (sRet (dCall d__law_come (aCons (dVar 2) (aCons (dVar 1) aNil))))))
def d__law_at : List D → Res D := runB s__law_at 4
end
end FVP

set_option maxHeartbeats 4000000
/-! FVV: reversed lists; defs of the module as values, and called by a local name. -/
namespace FV
open PySem PySem.Spec PyProof.Rows L2
variable [Tbs]
/-! ### reversed -/
section
variable {X : Cx} {c : Cc} {K : PySem.W.Frag} {F H : Hp} {pos : Pos} {tg : Expr}
theorem iter_rev {a : Addr} {vs : List V} {ds : List D} {ok : Hp → Hp → Prop} (r : Reps K F vs ds) (hok : ∀ F1 H1, ok F1 H1 → Same F1 H1 → Same F F1 ∧ SqL K H1 a vs) : IterOk K (Itv K a vs.length) ok ds.reverse where
  go := fun i F1 H1 hi h s => by
    rw [List.length_reverse] at hi
    have hl := r.length
    obtain ⟨k1, k2⟩ := hok F1 H1 h s
    exact ⟨by omega, vs, vs[vs.length - 1 - i]'(by omega), k2, List.getElem?_eq_getElem (by omega)⟩
  yld := fun i d F1 H1 x H2 e h s y => by
    obtain ⟨k1, k2⟩ := hok F1 H1 h s
    obtain ⟨rfl, y⟩ := y
    have hl := r.length
    have hi := (List.getElem?_eq_some_iff.mp e).1
    rw [List.length_reverse] at hi
    rw [List.getElem?_reverse hi] at e
    obtain ⟨v, h1, h2⟩ := r.get e
    have := y vs k2
    rw [hl, h1] at this; cases this
    exact ⟨F1, Grow.refl s, h2.mono k1⟩
  stop := fun i F1 H1 hi h s => by
    rw [List.length_reverse] at hi
    have hl := r.length
    show vs.length ≤ i
    omega
def revR : List D → Res (List D)
  | [d] => match lstItems d with
    | some ds => .ok ds.reverse
    | none => .stuck
  | _ => .stuck
@[simp] theorem revR_lst {ds : List D} : revR [.lst ds] = .ok ds.reverse := rfl
def iRevD (fs : DenA) : DenI := fun ρ => (fs ρ).bind revR
@[simp] theorem iRevD_ev {fs : DenA} {ρ : En} : iRevD fs ρ = (fs ρ).bind revR := rfl
theorem revR_shape {es ds : List D} (h : revR es = .ok ds) : ∃ d l, es = [d] ∧ lstItems d = some l ∧ ds = l.reverse := by
  unfold revR at h
  split at h
  · split at h
    · cases h; exact ⟨_, _, rfl, by assumption, rfl⟩
    · cases h
  · cases h
theorem revR_nx (es : List D) (x : Str) : revR es ≠ .exn x := by unfold revR; (repeat' split) <;> (intro h; cases h)
theorem ic_rev {e : Expr} {fs : DenA} {p : Pos} (hm : X.mg "reversed" = none) (ha : AR X c [e] fs) (hg : Gl X "reversed" := by rfl) (hs : starEach [e] X.env = [(false, eval e X.env)] := by rfl) :
    IC X c tg (.Call (.Name "reversed" p) [e] [] pos) (iRevD fs) := by
  refine ⟨_, pi_reversed hg hm (pa_wp _) hs, fun ρ σ F H R S o => ha ρ σ F H _ S (o.seq fun es F1 H1 vs e0 g1 r1 o1 => ?_)⟩
  cases q : revR es with
  | ok ds =>
    rw [q] at o1
    obtain ⟨d, l, rfl, e1, rfl⟩ := revR_shape q
    obtain ⟨v, rfl, r⟩ := rds_one r1
    obtain ⟨a, vs, rfl, h1, h2, h3⟩ := rd_lstItems g1.fh r e1
    exact ⟨a, vs, rfl, h1, o1 F1 H1 _ (Grow.refl g1.fh) (iter_rev h3 fun F2 H2 s s2 => ⟨s.1, s.2.seq h1⟩)⟩
  | exn x => exact absurd q (revR_nx _ _)
  | stuck => rw [q] at o1; exact o1.elim
theorem ij_rev {e : Expr} {fs : DenA} {p : Pos} (hm : X.mg "reversed" = none) (ha : AJ X c [e] fs) (hg : Gl X "reversed" := by rfl) (hs : starEach [e] X.env = [(false, eval e X.env)] := by rfl) :
    IJ X c tg (.Call (.Name "reversed" p) [e] [] pos) (iRevD fs) := by
  refine ⟨_, pi_reversed hg hm (pa_wp _) hs, fun ρ σ F H R S o => ha ρ σ F H _ S (o.seq fun es F1 H1 vs e0 g1 r1 o1 => ?_)⟩
  cases q : revR es with
  | ok ds =>
    rw [q] at o1
    obtain ⟨d, l, rfl, e1, rfl⟩ := revR_shape q
    obtain ⟨v, rfl, r⟩ := reps_one r1
    obtain ⟨a, vs, rfl, h1, h2, h3⟩ := rep_lstItems r e1
    exact ⟨a, vs, rfl, g1.fh.seq h1, o1 F1 H1 _ (Grow.refl g1.fh) (iter_rev h3 fun F2 H2 s s2 => ⟨s, (s.trans s2).seq h1⟩)⟩
  | exn x => exact absurd q (revR_nx _ _)
  | stuck => rw [q] at o1; exact o1.elim
end
/-- with more room -/
theorem FnD.up {P : Program} {w : World} {K : PySem.W.Frag} {mg : Str → Option Value} {base : Heap} {j k n : Nat} {x : Str} {g : List D → Res D} (h : FnD P w K mg base j x n g) (hk : j ≤ k) : FnD P w K mg base k x n g := by
  obtain ⟨f, fd, ps, dvs, ds', dd, g', FO, z⟩ := h.ok
  exact ⟨f, fd, ps, dvs, ds', dd, g', FO.mono hk, z⟩
/-! ### defs as values -/
theorem fnv_mk {K : PySem.W.Frag} {h : Heap} {mg : Str → Option Value} (X : K.In h) (G : h.Ns mainGlobals mg) {x : Str} {f : Addr} (a : PySem.W.nsIn K mainGlobals x = some (some (.ref f))) : Cst K mg x (.fn x) :=
  ⟨.ref f, .ref f, PySem.W.mg_of X G a, rfl, fun _ => .fn a⟩
/-- what the module's names stand for, the heap's table tells -/
def MgOf (K : PySem.W.Frag) (mg : Str → Option Value) : Prop := ∀ (x : Str) (v : Value), PySem.W.nsIn K mainGlobals x = some (some v) → mg x = some v
theorem mgof_mk {K : PySem.W.Frag} {h : Heap} {mg : Str → Option Value} (X : K.In h) (G : h.Ns mainGlobals mg) : MgOf K mg := fun _ _ e => PySem.W.mg_of X G e
def dCallV (i : Nat) (tbl : Str → Option (List D → Res D)) (fs : DenA) : Den := fun ρ => (dVar i ρ).bind fun d => match d with
  | .fn x => match tbl x with
    | some g => (fs ρ).bind g
    | none => .stuck
  | _ => .stuck
section
variable {X : Cx} {c : Cc} {pos : Pos}
theorem pe_callLS {CX : CXT} {k i : Nat} {f : Addr} {fd : FuncData} {ps : List Str} {sp : Sp} {E : L2.St → XK} {x : Str} {p pos : Pos} {e : Expr} {es : List Expr} {t : TA} {dvs : List V} {ds : List Value} (F : FnOk X.prog X.w X.K X.mg X.base CX k f fd ps sp) (hr : Room k X.A) (hN : X.N[i]? = some x) (hv : Vis X.env.scope x) (hk : PySem.W.keepIn X.K (.ref f) = true) (hb : Binds X.K fd ps ds) (hd : Vals dvs ds) (hx : ∀ σ, PassesAt CX X σ (E σ))
    (ha : PA X (e :: es) t) (hdb : (x == ("__debug__" : Str)) = false := by decide) (hcd : (x == ("__classdict__" : Str)) = false := by decide) (he : starEach (e :: es) X.env = (false, eval e X.env) :: starEach es X.env := by first | with_reducible exact st_c | with_reducible exact st_n | with_reducible exact st_b | with_reducible exact st_u | with_reducible exact st_s | with_reducible exact st_f | with_reducible exact st_t | with_reducible exact st_l | with_reducible exact st_q | with_reducible exact st_o | with_reducible exact st_i | with_reducible exact st_m | with_reducible exact st_a | with_reducible exact st_h | with_reducible exact st_g | with_reducible exact st_d | rfl) (hpl : (backTo pos (starEach es X.env)).any (·.1) = false := by ((repeat (first | with_reducible exact pl_0 | with_reducible refine Eq.trans pl_c ?_ | with_reducible refine Eq.trans pl_n ?_ | with_reducible refine Eq.trans pl_b ?_ | with_reducible refine Eq.trans pl_u ?_ | with_reducible refine Eq.trans pl_s ?_ | with_reducible refine Eq.trans pl_f ?_ | with_reducible refine Eq.trans pl_t ?_ | with_reducible refine Eq.trans pl_l ?_ | with_reducible refine Eq.trans pl_q ?_ | with_reducible refine Eq.trans pl_o ?_ | with_reducible refine Eq.trans pl_i ?_ | with_reducible refine Eq.trans pl_m ?_ | with_reducible refine Eq.trans pl_a ?_ | with_reducible refine Eq.trans pl_h ?_ | with_reducible refine Eq.trans pl_g ?_ | with_reducible refine Eq.trans pl_d ?_)); first | done | rfl)) :
    PE X (.Call (.Name x p) (e :: es) [] pos) (fun σ H Q => σ[i]? = some (some (.ref f)) ∧ t σ H fun vs H1 => sp (vs ++ dvs) H1 Q (E σ)) := by
  refine ⟨fun pins s σ H Q I h => ?_⟩
  obtain ⟨hs, ht⟩ := h
  refine wpAny_Call_Name_kw (thn ((pe_var (pos := p) hN hv hdb hcd).run pins s σ H (fun v H1 => v = .ref f ∧ H1 = H) I ⟨.ref f, hs, rfl, rfl⟩) fun u s1 ⟨v, H1, I1, r1, q1⟩ => ?_)
  obtain ⟨rfl, rfl⟩ := q1
  cases r1
  refine PySem.W.callWith_K (h₀ := X.base) I.ok.mod.kin hk (thn (ha.run pos pins s1 σ _ _ I1 ht) fun us s2 ⟨vs, H2, I2, r, q⟩ => ⟨I2.kIn, ?_⟩) he hpl
  exact run_fnSD F hr hb hd (hx σ) I2 r q
theorem ej_callV {k n : Nat} (i : Nat) {tbl : Str → Option (List D → Res D)} {x : Str} {p : Pos} {e : Expr} {es : List Expr} {fs : DenA} (M : MgOf X.K X.mg) (hf : ∀ y g, tbl y = some g → FnD X.prog X.w X.K X.mg X.base k y n g) (hr : Room k X.A) (tk : Takes X c.W) (ha : AJ X c (e :: es) fs) [hl : ALen fs n]
    (hN : X.N[i]? = some x := by rfl) (hv : Vis X.env.scope x := by first | exact Or.inl rfl | exact Or.inr (Or.inl rfl) | exact Or.inr (Or.inr rfl)) (hdb : (x == ("__debug__" : Str)) = false := by decide) (hcd : (x == ("__classdict__" : Str)) = false := by decide) (he : starEach (e :: es) X.env = (false, eval e X.env) :: starEach es X.env := by first | with_reducible exact st_c | with_reducible exact st_n | with_reducible exact st_b | with_reducible exact st_u | with_reducible exact st_s | with_reducible exact st_f | with_reducible exact st_t | with_reducible exact st_l | with_reducible exact st_q | with_reducible exact st_o | with_reducible exact st_i | with_reducible exact st_m | with_reducible exact st_a | with_reducible exact st_h | with_reducible exact st_g | with_reducible exact st_d | rfl) (hpl : (backTo pos (starEach es X.env)).any (·.1) = false := by ((repeat (first | with_reducible exact pl_0 | with_reducible refine Eq.trans pl_c ?_ | with_reducible refine Eq.trans pl_n ?_ | with_reducible refine Eq.trans pl_b ?_ | with_reducible refine Eq.trans pl_u ?_ | with_reducible refine Eq.trans pl_s ?_ | with_reducible refine Eq.trans pl_f ?_ | with_reducible refine Eq.trans pl_t ?_ | with_reducible refine Eq.trans pl_l ?_ | with_reducible refine Eq.trans pl_q ?_ | with_reducible refine Eq.trans pl_o ?_ | with_reducible refine Eq.trans pl_i ?_ | with_reducible refine Eq.trans pl_m ?_ | with_reducible refine Eq.trans pl_a ?_ | with_reducible refine Eq.trans pl_h ?_ | with_reducible refine Eq.trans pl_g ?_ | with_reducible refine Eq.trans pl_d ?_)); first | done | rfl)) :
    EJ X c (.Call (.Name x p) (e :: es) [] pos) (dCallV i tbl fs) := by
  intro ρ σ F H Q S o
  unfold dCallV dVar at o
  split at o
  · rename_i d q
    obtain ⟨v, h1, h2⟩ := S.frz i d q
    cases d with
    | fn y =>
      cases h2 with
      | fn hns =>
        rename_i f0
        have hmg := M _ _ hns
        cases ht : tbl y with
        | none => exfalso; unfold Res.bind at o; simp only [ht] at o; exact o
        | some g =>
          unfold Res.bind at o
          simp only [ht] at o
          have o : Out X c σ F H (fun F' _ v d => Rep X.K F' v d) ((fs ρ).bind g) Q := o
          obtain ⟨f, fd, ps, dvs, ds', dd, g', FO, hm, hk, hb, hd, hdd, hn, hgg⟩ := (hf y g ht).ok
          rw [hmg] at hm
          obtain rfl : f0 = f := by cases hm; rfl
          refine wp_of (pe_callLS FO hr hN hv hk hb hd (fun σ => passAt tk σ) (pa_wp _) hdb hcd he hpl) ⟨h1, ha ρ σ F H _ S (o.seq fun ds F1 H1 vs q1 g1 r1 o1 => ?_)⟩
          have l1 := hl.len ρ ds q1
          have l2 := (hdd F1).length
          refine ⟨by rw [List.length_append, r1.length]; omega, F1, ds ++ dd, (S.grow g1).st, r1.append (hdd F1), ?_⟩
          rw [hgg] at o1
          cases e2 : g' (ds ++ dd) with
          | ok d => rw [e2] at o1; exact o1
          | exn x => rw [e2] at o1; exact o1
          | stuck => rw [e2] at o1; exact o1.elim
    | _ => exact o.elim
  · exact o.elim
end
end FV

/-! FVP1C: denotations that many laws share (printed by mklib.py). -/
namespace FVP
open PySem PySem.Spec PyProof.Rows L2 FV
noncomputable section
def g_ONE : D := .tup [.int 1, .int 1]
def s_need_place : SDen :=
  (sIf (tOrB (tNotB (tVal (dCall d_is_part (aCons (dVar 0) aNil)))) (tVal (dCall d_below (aCons (dVar 0) (aCons (dC g_NOUGHT) aNil)))))
  (sRaise "NoPlace")
  bNil)
def d_need_place : List D → Res D := runB s_need_place 1
def s_value_ahead : SDen :=
  (bSeq (sExpr (dCall d_need_place (aCons (dVar 1) aNil)))
  (bSeq (sSet 2 (dCall d_number_at (aCons (dVar 0) (aCons (dVar 1) aNil))))
  (bSeq (sIf (tVal (dBin neD (dBin ixD (dBin ixD (dVarR 0) (dVarR 2)) (dC (.int 0))) (dVarR 1)))
  (sRet (dCall d_come_to (aCons (dBin ixD (dVarR 0) (dVarR 2)) (aCons (dVar 1) aNil))))
  bNil)
  (bSeq (sIf (tVal (dBin eqD (dVarR 2) (dC (.int 0))))
  (sRet (dBin ixD (dBin ixD (dVarR 0) (dC (.int 0))) (dC (.int 1))))
  bNil)
  (sRet (dCall d_come_to (aCons (dBin ixD (dVarR 0) (dBin subD (dVarR 2) (dC (.int 1)))) (aCons (dVar 1) aNil))))))))
def d_value_ahead : List D → Res D := runB s_value_ahead 3
def s_end_of : SDen :=
  (sRet (dIf (tVal (dBin ltD (dBin addD (dVarR 1) (dC (.int 1))) (dCall lenD (aCons (dVarR 0) aNil)))) (dBin ixD (dBin ixD (dVarR 0) (dBin addD (dVarR 1) (dC (.int 1)))) (dC (.int 0))) (dC .non)))
def d_end_of : List D → Res D := runB s_end_of 2
def s__law_over : SDen :=
  (bSeq (sPar 2 3 (dBin mulD (dBin ixD (dVarR 0) (dC (.int 0))) (dBin ixD (dVarR 1) (dC (.int 1)))) (dBin mulD (dBin ixD (dVarR 0) (dC (.int 1))) (dBin ixD (dVarR 1) (dC (.int 0)))))
  (bSeq (sIf (tVal (dBin ltD (dVarR 3) (dC (.int 0))))
  (sPar 2 3 (dUn negD (dVarR 2)) (dUn negD (dVarR 3)))
  bNil)
  (sRet (dCall d__law_low (aCons (dVar 2) (aCons (dVar 3) aNil))))))
def d__law_over : List D → Res D := runB s__law_over 4
def s_least : SDen :=
  (sRet (dIf (tVal (dCall d_below (aCons (dVar 1) (aCons (dVar 0) aNil)))) (dVar 1) (dVar 0)))
def d_least : List D → Res D := runB s_least 2
def s_value_at : SDen :=
  (bSeq (sExpr (dCall d_need_place (aCons (dVar 1) aNil)))
  (bSeq (sSet 2 (dBin ixD (dVarR 0) (dCall d_number_at (aCons (dVar 0) (aCons (dVar 1) aNil)))))
  (sRet (dIf (tVal (dBin eqD (dBin ixD (dVarR 2) (dC (.int 0))) (dVarR 1))) (dBin ixD (dVarR 2) (dC (.int 1))) (dCall d_come_to (aCons (dVar 2) (aCons (dVar 1) aNil)))))))
def d_value_at : List D → Res D := runB s_value_at 3
def s_value_behind : SDen :=
  (bSeq (sExpr (dCall d_need_place (aCons (dVar 1) aNil)))
  (sRet (dCall d_come_to (aCons (dBin ixD (dVarR 0) (dCall d_number_at (aCons (dVar 0) (aCons (dVar 1) aNil)))) (aCons (dVar 1) aNil)))))
def d_value_behind : List D → Res D := runB s_value_behind 2
def s__law_rising_b_l1 : SDen :=
  (sIf (tVal (dBin notInD (dVarR 2) (dVarR 1)))
    (sIns 1 (dCall lenD (aCons (dComp (iSeq (dVarR 1)) [3] (.nm 3) (tVal (dCall d__law_under (aCons (dVar 3) (aCons (dVar 2) aNil)))) (dVar 3)) aNil)) (dVar 2))
    bNil)
def s__law_rising_b : SDen :=
  (bSeq (sSetO 1 (dLst aNil))
  (bSeq (sFor (iSeq (dVar 0)) (.nm 2) s__law_rising_b_l1)
  (sFrz 1 (sRet (dVar 1)))))
def d__law_rising_b : List D → Res D := runB s__law_rising_b 4
def s_flat : SDen :=
  (sRet (dTup (aCons (dTup (aCons (dC g_NOUGHT) (aCons (dVar 0) (aCons (dVar 0) (aCons (dC g_NOUGHT) aNil))))) aNil)))
def d_flat : List D → Res D := runB s_flat 1
def s_straight : SDen :=
  (sRet (dTup (aCons (dTup (aCons (dC g_NOUGHT) (aCons (dC g_NOUGHT) (aCons (dC g_NOUGHT) (aCons (dC g_ONE) aNil))))) aNil)))
def d_straight : List D → Res D := runB s_straight 0
def s_over : SDen :=
  (sRet (dCall d_part_2 (aCons (dBin mulD (dBin ixD (dVarR 0) (dC (.int 0))) (dBin ixD (dVarR 1) (dC (.int 1)))) (aCons (dBin mulD (dBin ixD (dVarR 0) (dC (.int 1))) (dBin ixD (dVarR 1) (dC (.int 0)))) aNil))))
def d_over : List D → Res D := runB s_over 2
def s_is_below_nought : SDen :=
  (bSeq (sIf (tOrB (tVal (dCall d_below (aCons (dBin ixD (dVarR 0) (dC (.int 1))) (aCons (dC g_NOUGHT) aNil)))) (tVal (dCall d_below (aCons (dBin ixD (dVarR 0) (dC (.int 2))) (aCons (dC g_NOUGHT) aNil)))))
  (sRet (dC (.bl true)))
  bNil)
  (bSeq (sIf (tVal (dBin isD (dVarR 1) (dC .non)))
  (sRet (dCall d_below (aCons (dBin ixD (dVarR 0) (dC (.int 3))) (aCons (dC g_NOUGHT) aNil))))
  bNil)
  (sRet (dCall d_below (aCons (dCall d_come_to (aCons (dVar 0) (aCons (dVar 1) aNil))) (aCons (dC g_NOUGHT) aNil))))))
def d_is_below_nought : List D → Res D := runB s_is_below_nought 2
def s_need_not_below_l1 : SDen :=
  (sIf (tVal (dCall d_is_below_nought (aCons (dVar 2) (aCons (dCall d_end_of (aCons (dVar 0) (aCons (dVar 1) aNil))) aNil))))
    (sRaise "BelowNought")
    bNil)
def s_need_not_below : SDen :=
  (sFor (iEnumD (aCons (dVar 0) aNil)) (.tp [1, 2]) s_need_not_below_l1)
def d_need_not_below : List D → Res D := runB s_need_not_below 3
def s_hits_l1 : SDen :=
  (bSeq (sSet 5 (dCall d_plus (aCons (dBin ixD (dVarR 1) (dC (.int 0))) (aCons (dCall d_over (aCons (dCall d_minus (aCons (dVar 4) (aCons (dBin ixD (dVarR 1) (dC (.int 2))) aNil))) (aCons (dBin ixD (dVarR 1) (dC (.int 3))) aNil))) aNil))))
    (sIf (tAndB (tVal (dCall d_below (aCons (dBin ixD (dVarR 1) (dC (.int 0))) (aCons (dVar 5) aNil)))) (tOrB (tVal (dBin isD (dVarR 2) (dC .non))) (tVal (dCall d_below (aCons (dVar 5) (aCons (dVar 2) aNil))))))
    (sApp 3 (dVar 5))
    bNil))
def s_hits : SDen :=
  (bSeq (sIf (tVal (dBin eqD (dBin ixD (dVarR 1) (dC (.int 3))) (dC g_NOUGHT)))
  (sRet (dLst aNil))
  bNil)
  (bSeq (sSetO 3 (dLst aNil))
  (bSeq (sFor (iSeq (dComp (iSeq (dVarR 0)) [6] (.nm 6) tYesB (dBin ixD (dVarR 6) (dC (.int 0))))) (.nm 4) s_hits_l1)
  (sFrz 3 (sRet (dIf (tVal (dCall d_below (aCons (dBin ixD (dVarR 1) (dC (.int 3))) (aCons (dC g_NOUGHT) aNil)))) (dUn revD (dVarR 3)) (dVar 3)))))))
def d_hits : List D → Res D := runB s_hits 7
def s_led_behind : SDen :=
  (bSeq (sIf (tVal (dBin eqD (dVarR 2) (dC g_NOUGHT)))
  (sRet (dTup (aCons (dCall d_value_at (aCons (dVar 0) (aCons (dVar 1) aNil))) (aCons (dC g_NOUGHT) aNil))))
  bNil)
  (bSeq (sSet 3 (dCall d_number_at (aCons (dVar 0) (aCons (dVar 1) aNil))))
  (bSeq (sIf (tAndB (tVal (dCall d_below (aCons (dVar 2) (aCons (dC g_NOUGHT) aNil)))) (tVal (dBin eqD (dBin ixD (dBin ixD (dVarR 0) (dVarR 3)) (dC (.int 0))) (dVarR 1))))
  (sAugI 3 augSub (dC (.int 1)))
  bNil)
  (bSeq (sSet 4 (dBin ixD (dVarR 0) (dVarR 3)))
  (sRet (dTup (aCons (dCall d_come_to (aCons (dVar 4) (aCons (dVar 1) aNil))) (aCons (dCall d_times (aCons (dBin ixD (dVarR 4) (dC (.int 3))) (aCons (dVar 2) aNil))) aNil))))))))
def d_led_behind : List D → Res D := runB s_led_behind 5
def s_led_l1 : SDen :=
  (bSeq (sSet 6 (dCall d_come_to (aCons (dVar 4) (aCons (dVar 5) aNil))))
      (sApp 2 (dBin addD (dTup (aCons (dVar 5) (aCons (dCall d_value_at (aCons (dVar 0) (aCons (dVar 6) aNil))) aNil))) (dCall d_led_behind (aCons (dVar 0) (aCons (dVar 6) (aCons (dBin ixD (dVarR 4) (dC (.int 3))) aNil)))))))
def s_led_l2 : SDen :=
  (bSeq (sApp 2 (dBin addD (dTup (aCons (dBin ixD (dVarR 4) (dC (.int 0))) (aCons (dCall d_value_at (aCons (dVar 0) (aCons (dBin ixD (dVarR 4) (dC (.int 1))) aNil))) aNil))) (dCall d_led_behind (aCons (dVar 0) (aCons (dBin ixD (dVarR 4) (dC (.int 2))) (aCons (dBin ixD (dVarR 4) (dC (.int 3))) aNil))))))
    (sFor (iSeq (dCall d_hits (aCons (dVar 0) (aCons (dVar 4) (aCons (dCall d_end_of (aCons (dVar 1) (aCons (dVar 3) aNil))) aNil))))) (.nm 5) s_led_l1))
def s_led : SDen :=
  (bSeq (sExpr (dCall d_need_not_below (aCons (dVar 1) aNil)))
  (bSeq (sSetO 2 (dLst aNil))
  (bSeq (sFor (iEnumD (aCons (dVar 1) aNil)) (.tp [3, 4]) s_led_l2)
  (sFrz 2 (sRet (dCall d_line_of (aCons (dVar 2) aNil)))))))
def d_led : List D → Res D := runB s_led 7
end
end FVP

set_option maxHeartbeats 4000000
/-! FVTX: texts: methods of a text with one text, slices, int of a text, walks over a text, join. -/
namespace FV
open PySem PySem.Spec PyProof.Rows L2
variable [Tbs]
section
variable {X : Cx} {c : Cc} {pos cpos : Pos} {tg : Expr}
/-- a text's method, of one text -/
def dSM (k : Str → Str → Res D) (f g : Den) : Den := fun ρ => (f ρ).bind fun d1 => match d1 with
  | .str a => (g ρ).bind fun d2 => match d2 with
    | .str b => k a b
    | _ => .stuck
  | _ => .stuck
theorem sm_core {r : V → List V → Hp → VK → Prop} {k : Str → Str → Res D} {o e : Expr} {f g : Den} {M : Expr} (nx : ∀ a b x, k a b ≠ .exn x)
    (h : ∀ (a b : Str) (F H : Hp) (Q : VK), Same F H → OutV X F H (k a b) Q → r (.str a) [.str b] H Q)
    (ho : ER X c o f) (he : ER X c e g) (hp : PE X M (tM1 r (Wp X o) (Wp X e))) : EJ X c M (dSM k f g) := by
  intro ρ σ F H Q S o'
  refine wp_of hp ?_
  refine ho ρ σ F H _ S (o'.seq fun d1 F1 H1 v _ g1 r1 o1 => ?_)
  cases d1 with
  | str a =>
    obtain rfl := rd_str r1
    refine ⟨⟨a, rfl⟩, ?_⟩
    refine he ρ σ F1 H1 _ (S.grow g1) (o1.seq fun d2 F2 H2 w _ g2 r2 o2 => ?_)
    cases d2 with
    | str b =>
      obtain rfl := rd_str r2
      exact h a b F2 H2 Q g2.fh (o2.v (nx a b))
    | _ => exact o2.elim
  | _ => exact o1.elim
def swK : Str → Str → Res D := fun a b => .ok (.bl (Txt.startswith a b))
def ewK : Str → Str → Res D := fun a b => .ok (.bl (Txt.endswith a b))
def scK : Str → Str → Res D := fun a b => .ok (.int (Txt.count a b))
def ptK : Str → Str → Res D := fun a b => if (b.length == 0) = false ∧ a.length ≤ sizeLine then .ok (.tup [.str (Txt.partition a b).1, .str (Txt.partition a b).2.1, .str (Txt.partition a b).2.2]) else .stuck
def spK : Str → Str → Res D := fun a b => if (b.length == 0) = false ∧ a.length + 2 ≤ sizeLine ∧ (Txt.split a b).length ≤ sizeLine then .ok (.lst ((Txt.split a b).map D.str)) else .stuck
theorem ej_sw {o e : Expr} {f g : Den} {apos : Pos} (ho : ER X c o f) (he : ER X c e g) (hs : starEach [e] X.env = [(false, eval e X.env)] := by rfl) (hbase : attributeBase o "startswith" X.env (eval o X.env) = eval o X.env := by rfl) (hline : (apos.endLine == pos.line) = true := by rfl) :
    EJ X c (.Call (.Attribute o "startswith" apos) [e] [] pos) (dSM swK f g) :=
  sm_core (fun a b x h => by cases h) (fun a b F H Q s o => ⟨a, b, rfl, rfl, o.here s (.bl _)⟩) ho he (pe_m1 F.slot_str_startswith F.type_str_startswith mt_startswith (pe_wp o) (pe_wp e) hs hbase hline)
theorem ej_ew {o e : Expr} {f g : Den} {apos : Pos} (ho : ER X c o f) (he : ER X c e g) (hs : starEach [e] X.env = [(false, eval e X.env)] := by rfl) (hbase : attributeBase o "endswith" X.env (eval o X.env) = eval o X.env := by rfl) (hline : (apos.endLine == pos.line) = true := by rfl) :
    EJ X c (.Call (.Attribute o "endswith" apos) [e] [] pos) (dSM ewK f g) :=
  sm_core (fun a b x h => by cases h) (fun a b F H Q s o => ⟨a, b, rfl, rfl, o.here s (.bl _)⟩) ho he (pe_m1 F.slot_str_endswith F.type_str_endswith mt_endswith (pe_wp o) (pe_wp e) hs hbase hline)
theorem ej_sc {o e : Expr} {f g : Den} {apos : Pos} (ho : ER X c o f) (he : ER X c e g) (hs : starEach [e] X.env = [(false, eval e X.env)] := by rfl) (hbase : attributeBase o "count" X.env (eval o X.env) = eval o X.env := by rfl) (hline : (apos.endLine == pos.line) = true := by rfl) :
    EJ X c (.Call (.Attribute o "count" apos) [e] [] pos) (dSM scK f g) :=
  sm_core (fun a b x h => by cases h) (fun a b F H Q s o => ⟨a, b, rfl, rfl, o.here s (.int _)⟩) ho he (pe_m1 F.slot_str_count F.type_str_count mt_count (pe_wp o) (pe_wp e) hs hbase hline)
theorem reps_strs {K : PySem.W.Frag} {F : Hp} : ∀ ys : List Str, Reps K F (ys.map V.str) (ys.map D.str)
  | [] => .nil
  | y :: ys => .cons (.str y) (reps_strs ys)
theorem ej_pt {o e : Expr} {f g : Den} {apos : Pos} (ho : ER X c o f) (he : ER X c e g) (hs : starEach [e] X.env = [(false, eval e X.env)] := by rfl) (hbase : attributeBase o "partition" X.env (eval o X.env) = eval o X.env := by rfl) (hline : (apos.endLine == pos.line) = true := by rfl) :
    EJ X c (.Call (.Attribute o "partition" apos) [e] [] pos) (dSM ptK f g) :=
  sm_core (fun a b x h => by unfold ptK at h; split at h <;> cases h) (fun a b F H Q s o => by
    unfold ptK at o
    split at o
    · rename_i z
      refine ⟨a, b, rfl, rfl, z.1, z.2, fun p np => ?_⟩
      exact OutV.newT (X := X) (ds := [.str (Txt.partition a b).1, .str (Txt.partition a b).2.1, .str (Txt.partition a b).2.2]) o s (by rw [sizeLine_eq]; simp) (.cons (.str _) (.cons (.str _) (.cons (.str _) .nil))) p np
    · exact o.elim) ho he (pe_partition (pe_wp o) (pe_wp e) hs hbase hline)
theorem ej_sp {o e : Expr} {f g : Den} {apos : Pos} (ho : ER X c o f) (he : ER X c e g) (hs : starEach [e] X.env = [(false, eval e X.env)] := by rfl) (hbase : attributeBase o "split" X.env (eval o X.env) = eval o X.env := by rfl) (hline : (apos.endLine == pos.line) = true := by rfl) :
    EJ X c (.Call (.Attribute o "split" apos) [e] [] pos) (dSM spK f g) :=
  sm_core (fun a b x h => by unfold spK at h; split at h <;> cases h) (fun a b F H Q s o => by
    unfold spK at o
    split at o
    · rename_i z
      refine ⟨a, b, rfl, rfl, z.1, z.2.1, fun p np => ?_⟩
      exact OutV.newL (X := X) (ds := (Txt.split a b).map D.str) o s (by rw [List.length_map]; exact z.2.2) (reps_strs _) p np
    · exact o.elim) ho he (pe_split (pe_wp o) (pe_wp e) hs hbase hline)
/-! ### join -/
def strsOf : List D → Option (List Str)
  | [] => some []
  | .str x :: ds => (strsOf ds).map (x :: ·)
  | _ => none
theorem strsOf_eq : ∀ {ds : List D} {ys : List Str}, strsOf ds = some ys → ds = ys.map D.str
  | [], ys, h => by cases h; rfl
  | .str x :: ds, ys, h => by
    unfold strsOf at h
    obtain ⟨zs, e, rfl⟩ := Option.map_eq_some_iff.mp h
    rw [strsOf_eq e]; rfl
  | .non :: ds, ys, h => by cases h
  | .bl _ :: ds, ys, h => by cases h
  | .int _ :: ds, ys, h => by cases h
  | .tup _ :: ds, ys, h => by cases h
  | .lst _ :: ds, ys, h => by cases h
  | .klst _ :: ds, ys, h => by cases h
  | .exn _ :: ds, ys, h => by cases h
  | .fn _ :: ds, ys, h => by cases h
  | .dic _ _ _ :: ds, ys, h => by cases h
  | .ins _ _ _ :: ds, ys, h => by cases h
  | .lam _ _ :: ds, ys, h => by cases h
theorem strs_of {ys : List Str} : strsOf (ys.map D.str) = some ys := by
  induction ys with
  | nil => rfl
  | cons y ys ih => simp [strsOf, ih]
theorem reps_str {K : PySem.W.Frag} {F : Hp} : ∀ {ys : List Str} {vs : List V}, Reps K F vs (ys.map D.str) → vs = ys.map V.str
  | [], _, .nil => rfl
  | y :: ys, _, .cons r t => by cases r; rw [reps_str t]; rfl
def joinK (a : Str) (d : D) : Res D := match d.items with
  | some ds => match strsOf ds with
    | some ys => if (ys.map (·.length)).sum + ys.length * a.length ≤ 16777216 then .ok (.str (Txt.join a ys)) else .stuck
    | none => .stuck
  | none => .stuck
def dJoin (f g : Den) : Den := fun ρ => (f ρ).bind fun d1 => match d1 with
  | .str a => (g ρ).bind fun d2 => joinK a d2
  | _ => .stuck
theorem join_nx (a : Str) (d : D) (x : Str) : joinK a d ≠ .exn x := by unfold joinK; (repeat' split) <;> (intro h; cases h)
theorem ej_join {o e : Expr} {f g : Den} {apos : Pos} (ho : ER X c o f) (he : ER X c e g) (hs : starEach [e] X.env = [(false, eval e X.env)] := by rfl) (hbase : attributeBase o "join" X.env (eval o X.env) = eval o X.env := by rfl) (hline : (apos.endLine == pos.line) = true := by rfl) :
    EJ X c (.Call (.Attribute o "join" apos) [e] [] pos) (dJoin f g) := by
  intro ρ σ F H Q S o'
  refine wp_of (pe_join (pe_wp o) (pe_wp e) hs hbase hline) ?_
  refine ho ρ σ F H _ S (o'.seq fun d1 F1 H1 v _ g1 r1 o1 => ?_)
  cases d1 with
  | str a =>
    obtain rfl := rd_str r1
    refine ⟨⟨a, rfl⟩, ?_⟩
    refine he ρ σ F1 H1 _ (S.grow g1) (o1.seq fun d2 F2 H2 w _ g2 r2 o2 => ?_)
    have o3 := o2.v (join_nx a d2)
    unfold joinK at o3
    split at o3
    · rename_i ds e1
      split at o3
      · rename_i ys e2
        split at o3
        · rename_i hz
          obtain ⟨p, vs, rfl, h1, h2, h3⟩ := rd_items g2.fh r2 e1
          rw [strsOf_eq e2] at h3
          have hv := reps_str h3
          subst hv
          exact ⟨a, p, ys, rfl, rfl, h1.imp (·.1) (·.1), hz, o3.here g2.fh (.str _)⟩
        · exact o3.elim
      · exact o3.elim
    · exact o3.elim
  | _ => exact o1.elim
/-! ### slices -/
def sliceS (d : D) (lo hi : Option Int) : Res D := match d with
  | .str z => if z.length ≤ sizeLine then .ok (.str (cutS z lo hi)) else .stuck
  | d => sliceD d lo hi
def dSlS (f : Den) (l h : DenO) : Den := fun ρ => (f ρ).bind fun d => (l ρ).bind fun lo => (h ρ).bind fun hi => sliceS d lo hi
theorem slS_ok (d : D) : ∃ r, SlR X r ∧ ∀ x lo hi F H Q, Same F H → Rd' X.K F H x d → OutV X F H (sliceS d lo hi) Q → r x lo hi H Q := by
  cases d with
  | str z =>
    refine ⟨_, sl_str, fun x lo hi F H Q s r o => ?_⟩
    obtain rfl := rd_str r
    unfold sliceS at o
    simp only [] at o
    split at o
    · exact ⟨z, rfl, by assumption, o.here s (.str _)⟩
    · exact o.elim
  | tup ds => exact sl_ok _
  | lst ds => exact sl_ok _
  | klst ds => exact sl_ok _
  | non => exact sl_ok _
  | bl b => exact sl_ok _
  | int i => exact sl_ok _
  | exn x => exact sl_ok _
  | fn x => exact sl_ok _
  | dic _ _ _ => exact sl_ok _
  | ins _ _ _ => exact sl_ok _
  | lam j k => exact sl_ok _
theorem sliceS_nx (d : D) (lo hi : Option Int) (x : Str) : sliceS d lo hi ≠ .exn x := by
  unfold sliceS
  split
  · split <;> (intro h; cases h)
  · exact slice_nx _ _ _ _
theorem ej_sliceS {e : Expr} {f : Den} {lo hi : Option Expr} {fl fh : DenO} {p2 : Pos} (he : ER X c e f) (hl : OJ X c lo fl) (hh : OJ X c hi fh) : EJ X c (.Subscript e (.Slice lo hi none p2) pos) (dSlS f fl fh) := by
  intro ρ σ F H Q S o
  obtain ⟨tl, pl, ql⟩ := hl.run
  obtain ⟨th, ph, qh⟩ := hh.run
  cases e1 : f ρ with
  | ok d =>
    obtain ⟨r, hr, hq⟩ := slS_ok (X := X) d
    refine wp_of (pe_slice hr (pe_wp e) pl ph) (he ρ σ F H _ S (o.seq fun d' F1 H1 v q1 g1 r1 o1 => ?_))
    refine ql ρ σ F1 H1 _ (S.grow g1) (o1.seq fun lo' F2 H2 l' _ g2 r2 o2 => ?_)
    refine qh ρ σ F2 H2 _ ((S.grow g1).grow g2) (o2.seq fun hi' F3 H3 h' _ g3 r3 o3 => ?_)
    subst r2; subst r3
    rw [e1] at q1; cases q1
    exact hq v l' h' F3 H3 Q g3.fh ((r1.grow g2).grow g3) (o3.v (sliceS_nx _ _ _))
  | exn x =>
    have no : SlR X (fun _ _ _ _ _ => False) := fun _ _ _ _ _ _ _ _ _ _ _ _ _ _ _ _ _ h => h.elim
    refine wp_of (pe_slice no (pe_wp e) pl ph) (he ρ σ F H _ S ?_)
    unfold dSlS at o
    rw [e1] at o ⊢; exact o
  | stuck => unfold dSlS at o; rw [e1] at o; exact o.elim
/-! ### int of a text -/
def intSD : List D → Res D
  | [.str a] => match intText? a with
    | some n => if a.length ≤ 640 then .ok (.int n) else .stuck
    | none => .stuck
  | ds => int1D ds
theorem intS_nx : NoX1 intSD := fun ds x => by
  unfold intSD
  split
  · (repeat' split) <;> (intro h; cases h)
  · exact int1_nx _ _
theorem intS_ok : CallD X (.type "int") intSD := by
  intro ds
  by_cases h : ∃ a, ds = [.str a]
  · obtain ⟨a, rfl⟩ := h
    refine ⟨_, call_int_str, fun vs F H Q s r0 o => ?_⟩
    obtain ⟨v, rfl, r⟩ := rds_one r0
    obtain rfl := rd_str r
    unfold intSD at o
    simp only [] at o
    split at o
    · rename_i n e
      split at o
      · exact ⟨a, n, rfl, e, by assumption, o.here s (.int _)⟩
      · exact o.elim
    · exact o.elim
  · have e : intSD ds = int1D ds := by
      unfold intSD
      split
      · rename_i a; exact absurd ⟨a, rfl⟩ h
      · rfl
    rw [e]
    exact int1_ok ds
/-! ### signs of a text -/
def chrs (x : Str) : List D := x.cps.toList.map fun c => .str ⟨#[c]⟩
theorem iter_chrs {K : PySem.W.Frag} {x : Str} {ok : Hp → Hp → Prop} : IterOk K (Its x) ok (chrs x) where
  go := fun i F1 H1 hi h s => by unfold chrs at hi; show i < x.cps.size; simpa using hi
  yld := fun i d F1 H1 y H2 e h s z => by
    obtain ⟨rfl, c, e2, rfl⟩ := z
    unfold chrs at e
    rw [List.getElem?_map] at e
    obtain ⟨c', e1, rfl⟩ := Option.map_eq_some_iff.mp e
    have e3 : x.cps.toList[i]? = some c := by rw [Array.getElem?_toList]; exact e2
    rw [e1] at e3
    cases e3
    exact ⟨F1, Grow.refl s, .str _⟩
  stop := fun i F1 H1 hi h s => by unfold chrs at hi; show x.cps.size ≤ i; simpa using hi
def itemsS : D → Res (List D)
  | .str x => .ok (chrs x)
  | _ => .stuck
def iStrD (f : Den) : DenI := fun ρ => (f ρ).bind itemsS
theorem ij_str {e : Expr} {f : Den} (h : EJ X c e f) : IJ X c tg e (iStrD f) := by
  refine ⟨_, pi_str (pe_wp e), fun ρ σ F H R S o => h ρ σ F H _ S (o.seq fun d F1 H1 v _ g1 r1 o1 => ?_)⟩
  cases d with
  | str x =>
    cases r1
    exact ⟨x, rfl, o1 F1 H1 _ (Grow.refl g1.fh) iter_chrs⟩
  | _ => exact o1.elim
end
@[simp] theorem dSM_ev {k : Str → Str → Res D} {f g : Den} {ρ : En} : dSM k f g ρ = (f ρ).bind fun d1 => match d1 with
  | .str a => (g ρ).bind fun d2 => match d2 with
    | .str b => k a b
    | _ => .stuck
  | _ => .stuck := rfl
@[simp] theorem swK_ev {a b : Str} : swK a b = .ok (.bl (Txt.startswith a b)) := rfl
@[simp] theorem dJoin_ev {f g : Den} {ρ : En} : dJoin f g ρ = (f ρ).bind fun d1 => match d1 with
  | .str a => (g ρ).bind fun d2 => joinK a d2
  | _ => .stuck := rfl
@[simp] theorem dSlS_ev {f : Den} {l h : DenO} {ρ : En} : dSlS f l h ρ = (f ρ).bind fun d => (l ρ).bind fun lo => (h ρ).bind fun hi => sliceS d lo hi := rfl
@[simp] theorem iStrD_ev {f : Den} {ρ : En} : iStrD f ρ = (f ρ).bind itemsS := rfl
@[simp] theorem itemsS_str {x : Str} : itemsS (.str x) = .ok (chrs x) := rfl
end FV

/-! FVP1T: denotations that many laws share (printed by mklib.py). -/
namespace FVP
open PySem PySem.Spec PyProof.Rows L2 FV
noncomputable section
def g_FIGURES : D := .str "0123456789"
def g_MOST_FIGURES : D := .int 60
def s_text_of : SDen :=
  (sRet (dIf (tVal (dBin eqD (dBin ixD (dVarR 0) (dC (.int 1))) (dC (.int 1)))) (dCall strD (aCons (dBin ixD (dVarR 0) (dC (.int 0))) aNil)) (dBin addD (dBin addD (dCall strD (aCons (dBin ixD (dVarR 0) (dC (.int 0))) aNil)) (dC (.str "/"))) (dCall strD (aCons (dBin ixD (dVarR 0) (dC (.int 1))) aNil)))))
def d_text_of : List D → Res D := runB s_text_of 1
def s_number_of : SDen :=
  (bSeq (sIf (tOrB (tNotB (tVal (dChain leD leD (dC (.int 1)) (dCall lenD (aCons (dVarR 0) aNil)) (dC g_MOST_FIGURES)))) (tNotB (tVal (dCall allD (aCons (dComp (iStrD (dVar 0)) [1] (.nm 1) tYesB (dBin inD (dVarR 1) (dC g_FIGURES))) aNil)))))
  (sRet (dC .non))
  bNil)
  (sRet (dIf (tAndB (tVal (dSM swK (dVarR 0) (dC (.str "0")))) (tVal (dBin neD (dVarR 0) (dC (.str "0"))))) (dC .non) (dCall intSD (aCons (dVarR 0) aNil)))))
def d_number_of : List D → Res D := runB s_number_of 2
def s_part_of : SDen :=
  (bSeq (sIf (tNotB (tVal (dUn (isiD "str") (dVarR 0))))
  (sRaise "NoPart")
  bNil)
  (bSeq (sAsg (.tp [1, 2, 3]) (dSM ptK (dSlS (dVarR 0) (oSome (dCall int1D (aCons (dSM swK (dVarR 0) (dC (.str "-"))) aNil))) oNone) (dC (.str "/"))))
  (bSeq (sSet 4 (dCall d_number_of (aCons (dVar 1) aNil)))
  (bSeq (sSet 5 (dIf (tVal (dBin neD (dVarR 2) (dC (.str "")))) (dCall d_number_of (aCons (dVar 3) aNil)) (dC (.int 1))))
  (bSeq (sIf (tOrB (tVal (dBin isD (dVarR 4) (dC .non))) (tOrB (tVal (dBin isD (dVarR 5) (dC .non))) (tOrB (tVal (dBin eqD (dVarR 5) (dC (.int 0)))) (tAndB (tVal (dBin eqD (dVarR 4) (dC (.int 0)))) (tVal (dSM swK (dVarR 0) (dC (.str "-"))))))))
  (sRaise "NoPart")
  bNil)
  (sRet (dCall d_part_2 (aCons (dIf (tVal (dSM swK (dVarR 0) (dC (.str "-")))) (dUn negD (dVarR 4)) (dVar 4)) (aCons (dVar 5) aNil)))))))))
def d_part_of : List D → Res D := runB s_part_of 6
def s__law_cell_at_k04 : SDen :=
  (bSeq (sIf (tVal (dBin ltD (dVarR 1) (dCall lenD (aCons (dVarR 0) aNil))))
  (sRet (dCall d__law_mixed (aCons (dBin ixD (dVarR 0) (dVarR 1)) (aCons (dVar 1) aNil))))
  bNil)
  (sRet (dCall d__law_mixed (aCons (dVar 1) (aCons (dC (.int 3)) aNil)))))
def d__law_cell_at_k04 : List D → Res D := runB s__law_cell_at_k04 2
def s__law_number_l1 : SDen :=
  (sSet 3 (dBin addD (dBin mulD (dVarR 3) (dC (.int 2147483629))) (dCall d__law_mixed (aCons (dVar 0) (aCons (dBin addD (dVarR 1) (dVarR 4)) aNil)))))
def s__law_number : SDen :=
  (bSeq (sSet 3 (dC (.int 0)))
  (bSeq (sFor (iRng (aCons (dC (.int 8)) aNil)) (.nm 4) s__law_number_l1)
  (sRet (dBin modD (dVarR 3) (dVarR 2)))))
def d__law_number : List D → Res D := runB s__law_number 5
def s__law_pair : SDen :=
  (bSeq (sSet 2 (dBin ixD (dLst (aCons (dC (.int 10)) (aCons (dC (.int 1000)) (aCons (dBin powD (dC (.int 10)) (dC (.int 18))) (aCons (dBin powD (dC (.int 10)) (dC (.int 60))) aNil))))) (dBin modD (dCall d__law_mixed (aCons (dVar 0) (aCons (dVar 1) aNil))) (dC (.int 4)))))
  (bSeq (sSet 3 (dBin subD (dCall d__law_number (aCons (dVar 0) (aCons (dBin addD (dVarR 1) (dC (.int 1))) (aCons (dBin addD (dBin mulD (dC (.int 2)) (dVarR 2)) (dC (.int 1))) aNil)))) (dVarR 2)))
  (bSeq (sSet 4 (dBin addD (dC (.int 1)) (dCall d__law_number (aCons (dVar 0) (aCons (dBin addD (dVarR 1) (dC (.int 11))) (aCons (dBin ixD (dLst (aCons (dC (.int 1)) (aCons (dC (.int 12)) (aCons (dVar 2) aNil)))) (dBin modD (dCall d__law_mixed (aCons (dVar 0) (aCons (dBin addD (dVarR 1) (dC (.int 21))) aNil))) (dC (.int 3)))) aNil))))))
  (sRet (dTup (aCons (dVar 3) (aCons (dVar 4) aNil)))))))
def d__law_pair : List D → Res D := runB s__law_pair 5
def s__law_lowest : SDen :=
  (bSeq (sSet 2 (dCall absD (aCons (dVarR 0) aNil)))
  (bSeq (sSet 3 (dCall absD (aCons (dVarR 1) aNil)))
  (bSeq (whD (tVal (dBin gtD (dVarR 3) (dC (.int 0))))
  (sPar 2 3 (dVar 3) (dBin modD (dVarR 2) (dVarR 3))))
  (bSeq (sIf (tVal (dBin ltD (dVarR 1) (dC (.int 0))))
  (sSet 2 (dUn negD (dVarR 2)))
  bNil)
  (sRet (dTup (aCons (dBin fdivD (dVarR 0) (dVarR 2)) (aCons (dBin fdivD (dVarR 1) (dVarR 2)) aNil))))))))
def d__law_lowest : List D → Res D := runB s__law_lowest 4
def s__law_part : SDen :=
  (bSeq (sAsg (.tp [2, 3]) (dCall d__law_pair (aCons (dVar 0) (aCons (dVar 1) aNil))))
  (sRet (dCall d__law_lowest (aCons (dVar 2) (aCons (dVar 3) aNil)))))
def d__law_part : List D → Res D := runB s__law_part 4
def s__law_is_l1 : SDen :=
  (sIf (tOrB (tNotB (tVal (dUn (isiD "int") (dVarR 2)))) (tVal (dUn (isiD "bool") (dVarR 2))))
    (sRet (dC (.bl false)))
    bNil)
def s__law_is : SDen :=
  (bSeq (sIf (tOrB (tNotB (tVal (dUn (isiD "tuple") (dVarR 0)))) (tVal (dBin neD (dCall lenD (aCons (dVarR 0) aNil)) (dC (.int 2)))))
  (sRet (dC (.bl false)))
  bNil)
  (bSeq (sFor (iSeq (dVar 0)) (.nm 2) s__law_is_l1)
  (sRet (dBin eqD (dVarR 0) (dVarR 1)))))
def d__law_is : List D → Res D := runB s__law_is 3
def s__law_figures : SDen :=
  (bSeq (sSet 1 (dC (.str "")))
  (bSeq (sSet 2 (dVar 0))
  (bSeq (whD (tOrB (tVal (dBin gtD (dVarR 2) (dC (.int 0)))) (tVal (dBin eqD (dVarR 1) (dC (.str "")))))
  (bSeq (sSet 1 (dBin addD (dBin ixD (dC (.str "0123456789")) (dBin modD (dVarR 2) (dC (.int 10)))) (dVarR 1)))
    (sSet 2 (dBin fdivD (dVarR 2) (dC (.int 10))))))
  (sRet (dVar 1)))))
def d__law_figures : List D → Res D := runB s__law_figures 3
def s__law_text : SDen :=
  (bSeq (sSet 1 (dBin addD (dBin ixD (dLst (aCons (dC (.str "")) (aCons (dC (.str "-")) aNil))) (dCall int1D (aCons (dBin ltD (dBin ixD (dVarR 0) (dC (.int 0))) (dC (.int 0))) aNil))) (dCall d__law_figures (aCons (dCall absD (aCons (dBin ixD (dVarR 0) (dC (.int 0))) aNil)) aNil))))
  (sRet (dIf (tVal (dBin eqD (dBin ixD (dVarR 0) (dC (.int 1))) (dC (.int 1)))) (dVar 1) (dBin addD (dBin addD (dVarR 1) (dC (.str "/"))) (dCall d__law_figures (aCons (dBin ixD (dVarR 0) (dC (.int 1))) aNil))))))
def d__law_text : List D → Res D := runB s__law_text 2
end
end FVP

set_option maxHeartbeats 4000000
/-! FVM: zip of a list and a tuple. -/
namespace FV
open PySem PySem.Spec PyProof.Rows L2
variable [Tbs]
/-- the list at a and the tuple at b as they stand at each turn -/
def ItzM (K : PySem.W.Frag) (a b : Addr) : It :=
  ⟨fun i H => ∃ (xs ys : List V) (x y : V), SqL K H a xs ∧ SqT K H b ys ∧ xs[i]? = some x ∧ ys[i]? = some y,
    fun i H v H' => ∃ T x y, v = .ref T ∧ H T = none ∧ H' = upd H T (.tup [x, y]) ∧ (∀ xs, SqL K H a xs → xs[i]? = some x) ∧ ∀ ys, SqT K H b ys → ys[i]? = some y,
    fun i H => ∃ xs ys : List V, SqL K H a xs ∧ SqT K H b ys ∧ (xs.length ≤ i ∨ ys.length ≤ i)⟩
theorem five {z TI TO i1 i2 c : Addr} (h : c ∈ [z, TI, TO, i1, i2]) : c = z ∨ c = TI ∨ c = TO ∨ c = i1 ∨ c = i2 := by simpa using h
theorem apartL {h : Heap} {a i1 : Addr} {xs : Array Value} {i : Nat} (p : h.IsList a xs) (h1 : h.IsListIter i1 a i) : a ≠ i1 := fun e => by
  obtain ⟨o, ho, hc, _⟩ := p
  obtain ⟨o', ho', hc', _⟩ := h1
  rw [e, ho'] at ho; cases ho
  rw [hc'] at hc
  exact absurd (Value.type.inj hc) (by decide)
theorem apartT {h : Heap} {a i1 : Addr} {xs : Array Value} {i : Nat} (p : h.IsTuple a xs) (h1 : h.IsTupleIter i1 a i) : a ≠ i1 := fun e => by
  obtain ⟨o, ho, hc, _⟩ := p
  obtain ⟨o', ho', hc', _⟩ := h1
  rw [e, ho'] at ho; cases ho
  rw [hc'] at hc
  exact absurd (Value.type.inj hc) (by decide)
section
variable {prog : Program} {w : World} {A : Around}
theorem endsL (hh : A.handled = none) {it l : Addr} (hne : l ≠ it) {items : Array Value} {i : Nat} {h : Heap} (h1 : h.IsListIter it l i) (h2 : h.IsList l items) :
    ∃ (n : Nat) (P : Nat → Value → Prop) (St : Nat → Heap → Prop), Draws prog w A it [it, l] n P St ∧ St i h ∧ i ≤ n ∧ (items.size ≤ i → i = n) := by
  by_cases hi : items.size ≤ i
  · refine ⟨i, fun _ _ => True, fun j h => j = i ∧ h.IsListIter it l i ∧ h.IsList l items, ⟨fun j h st => ?_, fun j h h' st hk => ?_, fun j s Q E hj st _ => ?_, fun s Q E st hE => ?_⟩, ⟨rfl, h1, h2⟩, Nat.le_refl _, fun _ => rfl⟩
    · obtain ⟨o, ho, _⟩ := st.2.1; exact ⟨o, ho⟩
    · exact ⟨st.1, st.2.1.at fun o e => hk it (by simp) o e, st.2.2.at fun o e => hk l (by simp) o e⟩
    · exact absurd st.1 (by omega)
    · exact wpAny_nextOf_list_end hh st.2.1 st.2.2 (by simpa using hi) hE
  · exact ⟨items.size, _, _, Draws.list hh it l hne items, ⟨h1, h2⟩, by omega, fun h => absurd h hi⟩
theorem endsT (hh : A.handled = none) {it l : Addr} (hne : l ≠ it) {items : Array Value} {i : Nat} {h : Heap} (h1 : h.IsTupleIter it l i) (h2 : h.IsTuple l items) :
    ∃ (n : Nat) (P : Nat → Value → Prop) (St : Nat → Heap → Prop), Draws prog w A it [it, l] n P St ∧ St i h ∧ i ≤ n ∧ (items.size ≤ i → i = n) := by
  by_cases hi : items.size ≤ i
  · refine ⟨i, fun _ _ => True, fun j h => j = i ∧ h.IsTupleIter it l i ∧ h.IsTuple l items, ⟨fun j h st => ?_, fun j h h' st hk => ?_, fun j s Q E hj st _ => ?_, fun s Q E st hE => ?_⟩, ⟨rfl, h1, h2⟩, Nat.le_refl _, fun _ => rfl⟩
    · obtain ⟨o, ho, _⟩ := st.2.1; exact ⟨o, ho⟩
    · exact ⟨st.1, st.2.1.at fun o e => hk it (by simp) o e, st.2.2.at fun o e => hk l (by simp) o e⟩
    · exact absurd st.1 (by omega)
    · exact wpAny_nextOf_tuple_end hh st.2.1 st.2.2 (by simpa using hi) hE
  · exact ⟨items.size, _, _, Draws.tuple hh it l hne items, ⟨h1, h2⟩, by omega, fun h => absurd h hi⟩
end
theorem turn_zipM {P : Program} {w : World} {K : PySem.W.Frag} {elts : List Expr} {kk : Nat} {tpos : Pos} {a b z TI TO i1 i2 : Addr} (Z : ZipSep2 z TI TO i1 i2 [i1, a] [i2, b]) :
    Turn P w K (.Tuple elts kk tpos) (ItzM K a b) [z, TI, TO, i1, i2] z (fun i h => IsZip h z TI TO .none ∧ IsTupOf2 h TI (.ref i1) (.ref i2) ∧ (∃ x y, IsTupOf2 h TO x y) ∧ h.IsListIter i1 a i ∧ h.IsTupleIter i2 b i) where
  mem := by simp
  obj := fun i h st c hc => by
    obtain ⟨hz, hTI, ⟨x, y, hTO⟩, ⟨o1, e1, _, d1⟩, ⟨o2, e2, _, d2⟩⟩ := st
    rcases five hc with q | q | q | q | q <;> rw [q]
    · exact ⟨_, hz, fun v q => nomatch q⟩
    · exact ⟨_, hTI, fun v q => nomatch q⟩
    · exact ⟨_, hTO, fun v q => nomatch q⟩
    · exact ⟨o1, e1, fun v q => by rw [d1] at q; cases q⟩
    · exact ⟨o2, e2, fun v q => by rw [d2] at q; cases q⟩
  keep := fun i h h' st k => by
    obtain ⟨hz, hTI, ⟨x, y, hTO⟩, h1, h2⟩ := st
    exact ⟨k z (by simp) _ hz, k TI (by simp) _ hTI, ⟨x, y, k TO (by simp) _ hTO⟩, h1.at fun o q => k i1 (by simp) o q, h2.at fun o q => k i2 (by simp) o q⟩
  item := by
    intro X hP hw hK hc i pins s σ H E I hf st hg
    subst hP hw hK
    obtain ⟨hz, hTI, ⟨x0, y0, hTO⟩, h1, h2⟩ := st
    obtain ⟨xs, ys, x, y, hqx, hqy, hx, hy⟩ := hg
    obtain ⟨its, rv, p, _⟩ := I.list hqx
    obtain ⟨its2, rv2, p2, _⟩ := I.tuple hqy
    obtain ⟨u, hu, ru⟩ := rv.get hx
    obtain ⟨u2, hu2, ru2⟩ := rv2.get hy
    have hzl : z < s.heap.objs.size := Heap.lt_size hz
    have hA : X.A.in1.handled = none := I.ok.hd hc
    have a1 : a ≠ i1 := apartL p.isList h1
    have a2 : b ≠ i2 := apartT p2 h2
    have l1 : i < its.toArray.size := by
      have := (List.getElem?_eq_some_iff.mp hu).1
      simpa using this
    have l2 : i < its2.toArray.size := by
      have := (List.getElem?_eq_some_iff.mp hu2).1
      simpa using this
    refine wpAny_pyNext_zipD2_item Z (Draws.list hA i1 a a1 its.toArray) (Draws.tuple hA i2 b a2 its2.toArray) hz hTI hTO ⟨h1, p.isList⟩ ⟨h2, p2⟩ l1 l2 fun v1 v2 h' tk q1 q2 z' TO' h1' h2' hT hsz hk => ?_
    obtain rfl : v1 = u := by rw [List.getElem?_toArray, hu] at q1; cases q1; rfl
    obtain rfl : v2 = u2 := by rw [List.getElem?_toArray, hu2] at q2; cases q2; rfl
    refine ⟨_, rfl, wpAny_letOwnedTupleGo_zip (s := { s with heap := h', toks := tk }) z' fun h'' z'' sb => ?_⟩
    have hT2 : h''.get? s.heap.objs.size = some { cls := .type "tuple", data := .seq #[v1, v2] } := (sb.2 _ (Nat.ne_of_gt hzl)).trans hT
    have new : ObjOk X.prog X.w (upd H s.heap.objs.size (.tup [x, y])) h'' s.heap.objs.size (.tup [x, y]) :=
      ⟨by show 2 ≤ sizeLine; decide, [v1, v2], .cons ru (.cons ru2 .nil), ⟨_, hT2, rfl, _, rfl⟩⟩
    have I1 : Inv X pins σ (upd H s.heap.objs.size (.tup [x, y])) { s with heap := h'', toks := tk } :=
      I.turnedNew (t' := tk) (ch := [z, TI, TO, i1, i2]) (fun c o hb q => (sb.2 c (fun q' => hb (by simp [q']))).trans (hk c o (fun q' => hb (by simp [q'])) (fun q' => hb (by simp [q'])) (fun q' => hb (by simp [q'])) (fun q' => hb (by simp [q'])) q)) hf (Nat.le_refl _) new
    refine ⟨.ref s.heap.objs.size, _, I1, rfl, ⟨_, x, y, rfl, I.hok.fresh (Nat.le_refl _), rfl, fun l hl => by rw [I.list_inj hl hqx]; exact hx, fun l hl => by rw [I.tuple_inj hl hqy]; exact hy⟩, ⟨z'', ?_, ⟨v1, v2, ?_⟩, ?_, ?_⟩, fun c hcm => ?_⟩
    · exact (sb.2 _ Z.TIz).trans (hk _ _ Z.TIz Z.TITO Z.TIi1 Z.TIi2 hTI)
    · exact (sb.2 _ Z.TOz).trans TO'
    · exact h1'.1.at fun o q => (sb.2 _ Z.zi1.symm).trans q
    · exact h2'.1.at fun o q => (sb.2 _ Z.zi2.symm).trans q
    · have hlt : c < s.heap.objs.size := by
        rcases five hcm with q | q | q | q | q <;> rw [q]
        · exact hzl
        · exact Heap.lt_size hTI
        · exact Heap.lt_size hTO
        · obtain ⟨_, e1, _⟩ := h1; exact Heap.lt_size e1
        · obtain ⟨_, e2, _⟩ := h2; exact Heap.lt_size e2
      rw [upd_ne (Nat.ne_of_lt hlt)]
      exact (hf c hcm).1
  done := by
    intro X hP hw hK hc i pins s σ H E I hf st hg
    subst hP hw hK
    obtain ⟨hz, hTI, ⟨x0, y0, hTO⟩, h1, h2⟩ := st
    obtain ⟨xs, ys, hqx, hqy, hend⟩ := hg
    obtain ⟨its, rv, p, _⟩ := I.list hqx
    obtain ⟨its2, rv2, p2, _⟩ := I.tuple hqy
    have hA : X.A.in1.handled = none := I.ok.hd hc
    obtain ⟨n1, P1, St1, D1, s1, e1, f1⟩ := endsL hA (apartL p.isList h1) h1 p.isList
    obtain ⟨n2, P2, St2, D2, s2, e2, f2⟩ := endsT hA (apartT p2 h2) h2 p2
    have l1 := rv.length
    have l2 := rv2.length
    have he : i = n1 ∨ i = n2 := by
      rcases hend with q | q
      · exact .inl (f1 (by simp; omega))
      · exact .inr (f2 (by simp; omega))
    exact wpAny_pyNext_zipD2_end Z D1 D2 hz hTI hTO s1 s2 e1 e2 he fun h' tk hk => ⟨rfl, I.turnedL (t' := tk) (ch := [z, TI, TO, i1, i2]) (fun c o hb q =>
      hk c o (fun q' => hb (by simp [q'])) (fun q' => hb (by simp [q'])) (fun q' => hb (by simp [q'])) (fun q' => hb (by simp [q'])) q) hf⟩
  self := fun A i s Q E st h => wpAny_pyIter_zip st.1 h
/-- zip of two: lists, tuples, a list and a tuple -/
def iZipM (K : PySem.W.Frag) (ta : TA) : TI := fun σ H R => ta σ H fun vs H1 => ∃ a b xs ys, vs = [.ref a, .ref b] ∧ SqL K H1 a xs ∧ SqT K H1 b ys ∧ R (ItzM K a b) H1
theorem pi_zipM {X : Cx} {e e2 : Expr} {ta : TA} {p pos tpos : Pos} {elts : List Expr} {kk : Nat} (hg : Gl X "zip") (hm : X.mg "zip" = none) (ha : PA X [e, e2] ta)
    (hs : starEach [e, e2] X.env = (false, eval e X.env) :: starEach [e2] X.env := by rfl) (hpl : (backTo pos (starEach [e2] X.env)).any (·.1) = false := by rfl) :
    PI X (.Tuple elts kk tpos) (.Call (.Name "zip" p) [e, e2] [] pos) (iZipM X.K ta) := by
  refine ⟨fun pins s σ H R I h => ?_⟩
  refine Call_ (ld_blt I hg hm PyProof.Rows.boot_zip (PyProof.Rows.callWith_type1 (thn (ha.run pos pins s σ H _ I h) fun us s1 ⟨vs, H1, I1, r1, q1⟩ => ?_) hs hpl))
  obtain ⟨a, b, xs, ys, ex, hqx, hqy, q⟩ := q1
  subst ex
  cases r1 with
  | cons r rr =>
    cases rr with
    | cons r' rr =>
      cases rr
      cases r
      cases r'
      obtain ⟨its, rv, p1, _⟩ := I1.list hqx
      obtain ⟨its2, rv2, p2, _⟩ := I1.tuple hqy
      have la : a < s1.heap.objs.size := p1.lt
      have lb : b < s1.heap.objs.size := by obtain ⟨o, ho, _⟩ := id p2; exact Heap.lt_size ho
      refine zip_begins2 (begins_list a its.toArray) (begins_tuple b its2.toArray) p1.isList p2 fun h' hz hTI hTO h1 h2 hsz hk => wpAny_pyIter_zip hz ?_
      have I2 : Inv X pins σ H1 { s1 with heap := h' } := I1.kept (t' := s1.toks) hk
      have Z : ZipSep2 (s1.heap.objs.size + 4) (s1.heap.objs.size + 2) (s1.heap.objs.size + 3) s1.heap.objs.size (s1.heap.objs.size + 1) [s1.heap.objs.size, a] [s1.heap.objs.size + 1, b] :=
        zip_sep2 (fun c hc => by rw [List.mem_singleton] at hc; rw [hc]; exact la) (fun c hc => by rw [List.mem_singleton] at hc; rw [hc]; exact lb)
      refine ⟨s1.heap.objs.size + 4, [s1.heap.objs.size + 4, s1.heap.objs.size + 2, s1.heap.objs.size + 3, s1.heap.objs.size, s1.heap.objs.size + 1], _, _, H1, rfl, I2, turn_zipM Z, ⟨hz, hTI, ⟨_, _, hTO⟩, ⟨_, h1, rfl, rfl⟩, ⟨_, h2, rfl, rfl⟩⟩, fun c hcm => ?_, q⟩
      have hle : s1.heap.objs.size ≤ c := by
        rcases five hcm with z | z | z | z | z <;> rw [z]
        · exact Nat.le_add_right _ _
        · exact Nat.le_add_right _ _
        · exact Nat.le_add_right _ _
        · exact Nat.le_refl _
        · exact Nat.le_add_right _ _
      exact I1.fpOk hle (I1.hok.fresh hle)
section
variable {X : Cx} {c : Cc} {K : PySem.W.Frag} {F H : Hp} {pos : Pos} {tg : Expr}
theorem iter_zipM {a b : Addr} {vs ws : List V} {ds es : List D} {ok : Hp → Hp → Prop} (r : Reps K F vs ds) (r' : Reps K F ws es) (hok : ∀ F1 H1, ok F1 H1 → Same F1 H1 → Same F F1 ∧ SqL K H1 a vs ∧ SqT K H1 b ws) : IterOk K (ItzM K a b) ok (zipL ds es) where
  go := fun i F1 H1 hi h s => by
    rw [zipL_len] at hi
    obtain ⟨k1, k2, k3⟩ := hok F1 H1 h s
    have l1 := r.length
    have l2 := r'.length
    exact ⟨vs, ws, vs[i]'(by omega), ws[i]'(by omega), k2, k3, by simp, by simp⟩
  yld := fun i d F1 H1 x H2 e h s y => by
    obtain ⟨k1, k2, k3⟩ := hok F1 H1 h s
    obtain ⟨p, v, u, rfl, hp, rfl, y, y'⟩ := y
    obtain ⟨d1, d2, e1, e2, rfl⟩ := zipL_get e
    obtain ⟨v', h1, h2⟩ := r.get e1
    obtain ⟨u', h3, h4⟩ := r'.get e2
    have q1 := y vs k2
    have q2 := y' ws k3
    rw [h1] at q1; cases q1
    rw [h3] at q2; cases q2
    have gg := (Grow.refl s).alloc (p := p) (o := .tup [v, u]) hp
    exact ⟨_, gg, .tup (SqT.of upd_same) (by show 2 ≤ sizeLine; decide) (.cons (h2.mono (k1.trans gg.f)) (.cons (h4.mono (k1.trans gg.f)) .nil))⟩
  stop := fun i F1 H1 hi h s => by
    rw [zipL_len] at hi
    obtain ⟨k1, k2, k3⟩ := hok F1 H1 h s
    have l1 := r.length
    have l2 := r'.length
    exact ⟨vs, ws, k2, k3, by omega⟩
def zipMR : List D → Res (List D)
  | [d, .tup es] => match lstItems d with
    | some ds => .ok (zipL ds es)
    | none => .stuck
  | _ => .stuck
@[simp] theorem zipMR_lst {ds es : List D} : zipMR [.lst ds, .tup es] = .ok (zipL ds es) := rfl
def iZipMD (fs : DenA) : DenI := fun ρ => (fs ρ).bind zipMR
@[simp] theorem iZipMD_ev {fs : DenA} {ρ : En} : iZipMD fs ρ = (fs ρ).bind zipMR := rfl
theorem zipMR_shape {es ds : List D} (h : zipMR es = .ok ds) : ∃ d a b, es = [d, .tup b] ∧ lstItems d = some a ∧ ds = zipL a b := by
  unfold zipMR at h
  split at h
  · split at h
    · cases h; exact ⟨_, _, _, rfl, by assumption, rfl⟩
    · cases h
  · cases h
theorem zipMR_nx (es : List D) (x : Str) : zipMR es ≠ .exn x := by unfold zipMR; (repeat' split) <;> (intro h; cases h)
theorem ic_zipM {e e2 : Expr} {fs : DenA} {p tpos : Pos} {elts : List Expr} {kk : Nat} (hm : X.mg "zip" = none) (ha : AR X c [e, e2] fs) (hg : Gl X "zip" := by rfl) (hs : starEach [e, e2] X.env = (false, eval e X.env) :: starEach [e2] X.env := by first | with_reducible exact st_c | with_reducible exact st_n | with_reducible exact st_b | with_reducible exact st_u | with_reducible exact st_s | with_reducible exact st_f | with_reducible exact st_t | with_reducible exact st_l | with_reducible exact st_q | with_reducible exact st_o | with_reducible exact st_i | with_reducible exact st_m | with_reducible exact st_a | with_reducible exact st_h | with_reducible exact st_g | with_reducible exact st_d | rfl) (hpl : (backTo pos (starEach [e2] X.env)).any (·.1) = false := by ((repeat (first | with_reducible exact pl_0 | with_reducible refine Eq.trans pl_c ?_ | with_reducible refine Eq.trans pl_n ?_ | with_reducible refine Eq.trans pl_b ?_ | with_reducible refine Eq.trans pl_u ?_ | with_reducible refine Eq.trans pl_s ?_ | with_reducible refine Eq.trans pl_f ?_ | with_reducible refine Eq.trans pl_t ?_ | with_reducible refine Eq.trans pl_l ?_ | with_reducible refine Eq.trans pl_q ?_ | with_reducible refine Eq.trans pl_o ?_ | with_reducible refine Eq.trans pl_i ?_ | with_reducible refine Eq.trans pl_m ?_ | with_reducible refine Eq.trans pl_a ?_ | with_reducible refine Eq.trans pl_h ?_ | with_reducible refine Eq.trans pl_g ?_ | with_reducible refine Eq.trans pl_d ?_)); first | done | rfl)) :
    IC X c (.Tuple elts kk tpos) (.Call (.Name "zip" p) [e, e2] [] pos) (iZipMD fs) := by
  refine ⟨_, pi_zipM hg hm (pa_wp _) hs hpl, fun ρ σ F H R S o => ha ρ σ F H _ S (o.seq fun es F1 H1 vs e0 g1 r1 o1 => ?_)⟩
  cases q : zipMR es with
  | ok ds =>
    rw [q] at o1
    obtain ⟨d, x, y, rfl, e1, rfl⟩ := zipMR_shape q
    obtain ⟨v, u, rfl, r, r'⟩ := rds_two r1
    obtain ⟨a, vs, rfl, h1, h2, h3⟩ := rd_lstItems g1.fh r e1
    obtain ⟨b, ws, rfl, _, k1, k2, k3⟩ := rd_tup g1.fh r'
    exact ⟨a, b, vs, ws, rfl, h1, k1, o1 F1 H1 _ (Grow.refl g1.fh) (iter_zipM h3 k3 fun F2 H2 s s2 => ⟨s.1, s.2.seq h1, sqT_gh s.2 k1⟩)⟩
  | exn x => exact absurd q (zipMR_nx _ _)
  | stuck => rw [q] at o1; exact o1.elim
theorem ij_zipM {e e2 : Expr} {fs : DenA} {p tpos : Pos} {elts : List Expr} {kk : Nat} (hm : X.mg "zip" = none) (ha : AJ X c [e, e2] fs) (hg : Gl X "zip" := by rfl) (hs : starEach [e, e2] X.env = (false, eval e X.env) :: starEach [e2] X.env := by first | with_reducible exact st_c | with_reducible exact st_n | with_reducible exact st_b | with_reducible exact st_u | with_reducible exact st_s | with_reducible exact st_f | with_reducible exact st_t | with_reducible exact st_l | with_reducible exact st_q | with_reducible exact st_o | with_reducible exact st_i | with_reducible exact st_m | with_reducible exact st_a | with_reducible exact st_h | with_reducible exact st_g | with_reducible exact st_d | rfl) (hpl : (backTo pos (starEach [e2] X.env)).any (·.1) = false := by ((repeat (first | with_reducible exact pl_0 | with_reducible refine Eq.trans pl_c ?_ | with_reducible refine Eq.trans pl_n ?_ | with_reducible refine Eq.trans pl_b ?_ | with_reducible refine Eq.trans pl_u ?_ | with_reducible refine Eq.trans pl_s ?_ | with_reducible refine Eq.trans pl_f ?_ | with_reducible refine Eq.trans pl_t ?_ | with_reducible refine Eq.trans pl_l ?_ | with_reducible refine Eq.trans pl_q ?_ | with_reducible refine Eq.trans pl_o ?_ | with_reducible refine Eq.trans pl_i ?_ | with_reducible refine Eq.trans pl_m ?_ | with_reducible refine Eq.trans pl_a ?_ | with_reducible refine Eq.trans pl_h ?_ | with_reducible refine Eq.trans pl_g ?_ | with_reducible refine Eq.trans pl_d ?_)); first | done | rfl)) :
    IJ X c (.Tuple elts kk tpos) (.Call (.Name "zip" p) [e, e2] [] pos) (iZipMD fs) := by
  refine ⟨_, pi_zipM hg hm (pa_wp _) hs hpl, fun ρ σ F H R S o => ha ρ σ F H _ S (o.seq fun es F1 H1 vs e0 g1 r1 o1 => ?_)⟩
  cases q : zipMR es with
  | ok ds =>
    rw [q] at o1
    obtain ⟨d, x, y, rfl, e1, rfl⟩ := zipMR_shape q
    obtain ⟨v, u, rfl, r, r'⟩ := reps_two r1
    obtain ⟨a, vs, rfl, h1, h2, h3⟩ := rep_lstItems r e1
    cases r' with
    | tup k1 k2 k3 =>
      exact ⟨_, _, _, _, rfl, g1.fh.seq h1, sqT_mono g1.fh k1, o1 F1 H1 _ (Grow.refl g1.fh) (iter_zipM h3 k3 fun F2 H2 s s2 => ⟨s, (s.trans s2).seq h1, sqT_mono (s.trans s2) k1⟩)⟩
  | exn x => exact absurd q (zipMR_nx _ _)
  | stuck => rw [q] at o1; exact o1.elim
end
end FV

set_option maxHeartbeats 4000000
/-! FVR: isinstance of a kept exception, several classes. -/
namespace FV
open PySem PySem.Spec PyProof.Rows L2
variable [Tbs]
section
variable {X : Cx} {c : Cc}
def rIsKT (K : PySem.W.Frag) : List V → Hp → VK → Prop := fun xs H Q => ∃ (a C tp : Addr) (cs : List V) (us : List Value) (b : Bool), xs = [.ref a, .ref tp] ∧ H a = some (ExK (.ref C) a) ∧ ExcC K C ∧ H tp = some (.tup cs) ∧ Paired ClsV cs us ∧ PySem.W.kitAny K (.ref C) us = some b ∧ Q (.bl b) H
theorem call_isKT : CallR X (.builtin "isinstance") (rIsKT X.K) := by
  intro pins s σ H xs us Q I r h
  obtain ⟨a, D, tp, cs, ws, b, rfl, ha, C, hT, k, e, q⟩ := h
  obtain ⟨u1, u2, rfl, r1, r2⟩ := vals2 r
  cases (show u1 = Value.ref a from r1)
  cases (show u2 = Value.ref tp from r2)
  obtain ⟨_, its, rv, o, h1, h2, n, h3⟩ := (show ObjOk X.prog X.w H s.heap tp (.tup cs) from I.hok tp _ hT)
  have e3 := ClsV.all k rv
  subst e3
  obtain ⟨oc, od, dt, sl⟩ := o
  simp only at h2 h3
  subst h2 h3
  obtain ⟨⟨oe, vs, ho, hz, hd⟩, _, _⟩ := (show ObjOk X.prog X.w H s.heap a (ExK (.ref D) a) from I.hok a _ ha)
  have J : PySem.W.InstAt s.heap a oe D none := by
    obtain ⟨oc, od, oda, osl⟩ := oe
    obtain ⟨h1, h2⟩ := hz
    dsimp only at h1 h2 hd
    subst h1 h2 hd
    exact ⟨ho, rfl, rfl, trivial⟩
  exact PySem.W.kia_tup (PySem.W.handS_kitx_exc C.hg C.hk C.hs C.hd C.ha C.hn C.ht C.hm) I.kIn J h1 e (fun z => nomatch z) fun tk => ⟨.bl b, H, I.tok tk, rfl, q⟩
def tVs (vs : List V) : TA := fun _ H Q => Q vs H
/-- classes of the module, written in a tuple -/
inductive IsOs (X : Cx) (xs : List Str) : List Expr → List V → List Value → List Str → Prop
  | nil : IsOs X xs [] [] [] []
  | cons {x : Str} {p : Pos} {A : Addr} {sup sups : List Str} {es : List Expr} {vs : List V} {us : List Value} : Kits X.K (.ref A) sup xs → PA X (.Name x p :: es) (tVs (.ref A :: vs)) → IsOs X xs es vs us sups → IsOs X xs (.Name x p :: es) (.ref A :: vs) (.ref A :: us) (sup ++ sups)
theorem IsOs.cls {xs : List Str} {es : List Expr} {vs : List V} {us : List Value} {sups : List Str} (h : IsOs X xs es vs us sups) : Paired ClsV vs us := by
  induction h with
  | nil => exact .nil
  | cons _ _ _ ih => exact .cons (.own _) ih
theorem IsOs.len {xs : List Str} {es : List Expr} {vs : List V} {us : List Value} {sups : List Str} (h : IsOs X xs es vs us sups) : vs.length = es.length := by
  induction h with
  | nil => rfl
  | cons _ _ _ ih => rw [List.length_cons, List.length_cons, ih]
theorem IsOs.pa {xs : List Str} {es : List Expr} {vs : List V} {us : List Value} {sups : List Str} (h : IsOs X xs es vs us sups) : PA X es (tVs vs) := by
  cases h with
  | nil => exact pa_nil
  | cons _ h _ => exact h
theorem IsOs.any {xs : List Str} {es : List Expr} {vs : List V} {us : List Value} {sups : List Str} (h : IsOs X xs es vs us sups) {x : Str} (m : x ∈ xs) {C : Addr} (hC : PySem.W.nsIn X.K mainGlobals x = some (some (.ref C))) : PySem.W.kitAny X.K (.ref C) us = some (decide (x ∈ sups)) := by
  induction h with
  | nil => rfl
  | @cons y p A sup sups es vs us k _ _ ih =>
    obtain ⟨C2, a2, b2⟩ := k.get m
    rw [hC] at a2; cases a2
    refine kitAny_cons b2 (fun e => ?_) fun e => ?_
    · rw [ih]
      have : x ∉ sup := of_decide_eq_false e
      simp [this]
    · have : x ∈ sup := of_decide_eq_true e
      simp [this]
abbrev IsOT (X : Cx) (xs : List Str) (es : List Expr) (sups : List Str) : Prop := ∃ vs us, IsOs X xs es vs us sups
theorem isos_nil {xs : List Str} : IsOT X xs [] [] := ⟨_, _, .nil⟩
theorem isos_cons {xs sup sups : List Str} {x : Str} {p : Pos} {es : List Expr} (ho : IsO X.K X.mg x sup xs) (h : IsOT X xs es sups) (hg : Gl X x := by rfl) (hd : (x == ("__debug__" : Str)) = false := by decide) : IsOT X xs (.Name x p :: es) (sup ++ sups) := by
  obtain ⟨A, hA, hk⟩ := ho.ex
  obtain ⟨vs, us, h⟩ := h
  exact ⟨_, _, .cons hk (pa_cons (pe_glob hg hA (v := .ref A) rfl hd) h.pa st_n) h⟩
theorem ej_isOT {xs sups : List Str} {e : Expr} {es : List Expr} {f : Den} {p p2 pos : Pos} {k : Nat} (he : ER X c e f) (hm : X.mg "isinstance" = none) (hx : Excs X.K xs) (ho : IsOT X xs es sups) (hz : es.length ≤ 1000 := by decide) (hg : Gl X "isinstance" := by rfl)
    (hv : bootBuiltins "isinstance" = some (.builtin "isinstance") := by decide +kernel)
    (s1 : starEach [e, .Tuple es k p2] X.env = (false, eval e X.env) :: starEach [.Tuple es k p2] X.env := by first | with_reducible exact st_c | with_reducible exact st_n | with_reducible exact st_b | with_reducible exact st_u | with_reducible exact st_s | with_reducible exact st_f | with_reducible exact st_t | rfl)
    (hpl : (backTo pos (starEach [.Tuple es k p2] X.env)).any (·.1) = false := by (first | exact Eq.trans pl_t pl_0 | rfl)) : EJ X c (.Call (.Name "isinstance" p) [e, .Tuple es k p2] [] pos) (dUn (isXD xs sups) f) := by
  obtain ⟨vs, us, ho⟩ := ho
  intro ρ σ F H Q S o
  refine wp_of (pe_callB call_isKT hg hm hv (pa_cons (pe_wp e) (pa_cons (pe_tup ho.pa) pa_nil st_t) s1) (by decide) (by decide) s1 hpl) (he ρ σ F H _ S (o.seq fun d F1 H1 v _ g1 r1 o1 => ?_))
  refine ⟨line1000 (by rw [ho.len]; exact hz), fun q hq => ?_⟩
  unfold isXD at o1
  split at o1
  · rename_i c0
    split at o1
    · rename_i m
      rcases r1 with r | ⟨_, _, _, _, e⟩
      · cases r with
        | exn h1 h2 =>
          obtain ⟨C1, a1, b1⟩ := hx.get m
          rw [h2] at a1; cases a1
          have gg := (Grow.refl g1.fh).alloc (p := q) (o := .tup vs) hq
          refine ⟨_, _, q, vs, us, _, rfl, gg.fh _ _ (gg.f _ _ h1), b1, upd_same, ho.cls, ho.any m h2, o1 _ _ _ gg (.bl _)⟩
      · cases e
    · exact o1.elim
  · exact o1.elim
end
end FV

set_option maxHeartbeats 4000000
/-! FVN: lambdas as values: made, handed to a def, called there. -/
namespace FV
open PySem PySem.Spec PyProof.Rows L2
variable [Tbs]
theorem nt_lam {tx : LamTx} {tok : LTok} {f c : Addr} : NT (LamO tx tok f c) := fun ps z => by unfold LamO at z; cases z
theorem nt_code {c : Addr} {q : Str} : NT (LamX.CodeO c q) := fun ps z => LamX.codeO_ne ps z
/-- what is asked of an outcome from (F, H) -/
def OutE (K : PySem.W.Frag) (mg : Str → Option Value) (F H : Hp) (E : XK) (Q : VK) (r : Res D) : Prop := match r with
  | .ok d => ∀ F' H' v, Grow F H F' H' → Rep K F' v d → Q v H'
  | .exn x => ∀ F' H' cls dd, Grow F H F' H' → XR mg x cls dd → E cls dd H'
  | .stuck => False

/-! ### a lambda is made -/
/-- the maker's code object and its table -/
structure Mkr (X : Cx) : Prop where
  ex : ∃ c P, LamX.TabB X.base X.mg c P ∧ X.env.code = .ref c ∧ (P, X.env.qual ++ "<lambda>") ∈ Tbs.T ∧ ∀ p ∈ Tbs.T, p.1 = P → p.2 = X.env.qual ++ "<lambda>"
/-- captured names are names of the maker's cells -/
def freeB (sc0 sc : Scope) : Bool := sc.names.all fun y => !decide (y.2 = .free) || decide (sc0.names.lookup y.1 = some .cell) || decide (sc0.names.lookup y.1 = some .free)
theorem free_of {sc0 sc : Scope} (h : freeB sc0 sc = true) : ∀ y ∈ sc.names, y.2 = .free → sc0.names.lookup y.1 = some .cell ∨ sc0.names.lookup y.1 = some .free := fun y hy e => by
  have q := List.all_eq_true.mp h y hy
  simp only [e, Bool.or_eq_true, decide_true, Bool.not_true, decide_eq_true_eq, Bool.false_eq_true, false_or] at q
  exact q
section
variable {X : Cx} {c : Cc} {pins : List (Addr × Obj)} {σ : L2.St} {H : Hp} {s : Shared} {pos : Pos} {params : Arguments} {body : Expr} {sc : Scope}
theorem lam_mk {E : Value → Shared → Prop} {Q : Value → Shared → Prop} (I : Inv X pins σ H s) (M : Mkr X) (hT : LamX.Tabs Tbs.T H) (hdef : defaultsOf params X.env = ([], [])) (hfr : freeB X.env.scope sc = true)
    (fin : ∀ (f k : Addr) (H1 : Hp) (s1 : Shared), Inv X pins σ (upd H1 f (LamO ⟨X.env.qual ++ "<lambda>", params, body, sc⟩ X.env.cells f k)) s1 → LamX.ExtN H H1 → LamX.Tabs Tbs.T H1 → H1 f = none → H1 k = some (LamX.CodeO k (X.env.qual ++ "<lambda>")) → Q (.ref f) s1) :
    wpAny (model X.prog X.w) X.A (eval (.Lambda params body sc pos) X.env) Q E s := by
  obtain ⟨c, P, TB, hcode, hm, hu⟩ := M.ex
  have hfree : ∀ y ∈ sc.names, y.2 = .free → ∃ c, X.env.cells.lookup y.1 = some c := fun y hy e => I.ok.has _ ((free_of hfr y hy e).imp id id)
  obtain ⟨ps, hP, ht, ha⟩ := hT _ hm
  have gP : s.heap.get? P = some { cls := .none, data := .fields ps } := I.hok P _ hP
  have bP : s.heap.BuiltinsAt X.mg P := TB.bm.keeps I.bk
  -- behind the code object, the function object is laid
  have lay : ∀ (h2 : Heap) (tk : Tok) (k : Addr) (ctv : Value) (H1 : Hp), Inv X pins σ H1 { s with heap := h2, toks := tk } → LamX.ExtN H H1 → LamX.Tabs Tbs.T H1 → H1 k = some (LamX.CodeO k (X.env.qual ++ "<lambda>")) →
      Q (.ref h2.objs.size) { s with heap := h2.push (PySem.W.kla_obj "<lambda>" (X.env.qual ++ "<lambda>") params body sc (cloFrom X.env.cells sc.names []) ((X.mg "__name__").getD .none) k ctv), toks := tk } := by
    intro h2 tk k ctv H1 I2 eN T1 hk
    have nf : H1 h2.objs.size = none := I2.hok.fresh (Nat.le_refl _)
    refine fin _ k H1 _ (I2.laid (t' := tk) (fun b u e => Heap.get?_push_of_some _ e) (Nat.le_refl _) ?_) eN T1 nf hk
    exact ⟨⟨_, ctv, Heap.get?_push_size _ rfl⟩, ⟨_, Heap.get?_push_size _ rfl⟩, fun g1 g2 ⟨pm, cv, z⟩ st => ⟨pm, cv, st _ z⟩⟩
  refine PySem.W.kla_eval hdef ?_
  cases hc : codeAmong pos ps.toList with
  | some cv =>
    obtain ⟨k, rfl, hk⟩ := ha pos cv hc
    exact PySem.W.kla_makeFunctionHit (mg := X.mg) (closure_ok hfree) I.ok.glob (I.mod.glob.keeps I.bk) hcode (TB.code.keeps I.bk) gP ht hc bP fun ctv h2 tk kp _ => lay h2 tk k ctv H (I.kept kp) (LamX.ExtN.refl H) hT hk
  | none =>
    refine PySem.W.kla_makeFunction (mg := X.mg) (closure_ok hfree) I.ok.glob (I.mod.glob.keeps I.bk) hcode (TB.code.keeps I.bk) gP ht hc TB.gP bP fun k ctv h2 tk kp hge _ rec_ htb => ?_
    obtain ⟨k2, oc, vs, t, e2, hoc, hd, hv⟩ := rec_
    cases e2
    have nk : H k = none := I.hok.fresh hge
    have I2 := LamX.inv_table (t' := tk) (q := X.env.qual ++ "<lambda>") (more := #[rawInt pos.line, rawInt pos.col, .ref k]) I hP kp htb hge ⟨oc, vs, t, hoc, hd, hv⟩
    have eN : LamX.ExtN H (upd (upd H P (.tbl (ps ++ #[rawInt pos.line, rawInt pos.col, .ref k]))) k (LamX.CodeO k (X.env.qual ++ "<lambda>"))) := fun b o e n => by
      have h1 : b ≠ k := ne_of_none e nk
      have h2 : b ≠ P := fun z => by rw [z, hP] at e; cases e; exact n _ rfl
      rw [upd_ne h1, upd_ne h2]; exact e
    refine lay h2 tk k ctv _ I2 eN (fun p hp => ?_) upd_same
    by_cases hb : p.1 = P
    · have sh : (ps ++ #[rawInt pos.line, rawInt pos.col, Value.ref k]).toList = ps.toList ++ [rawInt pos.line, rawInt pos.col, .ref k] := by simp
      rw [hu p hp hb, hb]
      refine ⟨_, (upd_ne (ne_of_none hP nk)).trans upd_same, by rw [sh]; exact PySem.TriplesOk_snoc _ _ _ _ ht, fun p' cv z => ?_⟩
      rw [sh] at z
      rcases LamX.among_app _ ht z with z | z
      · obtain ⟨k0, e1, e3⟩ := ha p' cv z
        exact ⟨k0, e1, eN _ _ e3 LamX.codeO_ne⟩
      · exact ⟨k, z, upd_same⟩
    · obtain ⟨qs, a1, a2, a3⟩ := hT p hp
      refine ⟨qs, (upd_ne (ne_of_none a1 nk)).trans ((upd_ne hb).trans a1), a2, fun p' cv z => ?_⟩
      obtain ⟨k0, e1, e3⟩ := a3 p' cv z
      exact ⟨k0, e1, eN _ _ e3 LamX.codeO_ne⟩
theorem ej_lam (j : Nat) (M : Mkr X) (hL : Tbs.L j = ⟨X.env.qual ++ "<lambda>", params, body, sc⟩) (hfr : freeB X.env.scope sc = true) (hdef : defaultsOf params X.env = ([], []) := by rfl) : EJ X c (.Lambda params body sc pos) (dC (.lam j X.env.cells)) := by
  intro ρ σ F H Q S o
  refine ⟨fun pins s I => ?_⟩
  have st := S.st
  refine lam_mk I M st.2.2 hdef hfr fun f k H1 s1 I1 eN T1 nf hk => ⟨.ref f, _, I1, rfl, ?_⟩
  have nfk : f ≠ k := fun z => by rw [z, hk] at nf; cases nf
  have sF : Same F H1 := fun b u e => eN b u (st.1 b u e) (st.2.1 b u e)
  have F1f : F f = none := by
    cases q : F f with
    | none => rfl
    | some u => rw [sF f u q] at nf; cases nf
  have sFk : Same F (upd F k (LamX.CodeO k (X.env.qual ++ "<lambda>"))) := fun b u e => by
    by_cases hb : b = k
    · subst hb
      have z := sF _ _ e
      rw [hk] at z; cases z
      exact upd_same
    · rw [upd_ne hb]; exact e
  have n2 : upd F k (LamX.CodeO k (X.env.qual ++ "<lambda>")) f = none := by rw [upd_ne nfk]; exact F1f
  refine o (upd (upd F k (LamX.CodeO k (X.env.qual ++ "<lambda>"))) f (LamO ⟨X.env.qual ++ "<lambda>", params, body, sc⟩ X.env.cells f k)) _ _ ⟨sFk.trans (same_upd n2), ⟨fun b u e n => ?_, fun _ => T1.ext (same_upd nf)⟩, fun b u e => ?_, fun a u e1 e2 mm => ?_, fun n => (n.upd nt_code).upd nt_lam⟩ ?_
  · have z := eN b u e n
    rw [upd_ne (ne_of_none z nf)]; exact z
  · by_cases hb : b = f
    · subst hb; rw [upd_same] at e ⊢; exact e
    · rw [upd_ne hb] at e ⊢
      by_cases hb2 : b = k
      · subst hb2; rw [upd_same] at e; rw [← e]; exact hk
      · rw [upd_ne hb2] at e; exact sF b u e
  · have z := eN a _ e1 mm.nt
    have h1 : a ≠ k := fun q => by rw [q, hk] at z; have z := Option.some.inj z; rw [← z] at mm; unfold LamX.CodeO at mm; exact mm
    rw [upd_ne (ne_of_none z nf), upd_ne h1]; exact e2
  · refine Rep.lam (c := k) ?_ ?_
    · rw [hL]; exact upd_same
    · rw [hL, upd_ne (Ne.symm nfk)]; exact upd_same
end

/-! ### what a lambda promises -/
/-- the cells that a lambda captured, the maker at (h, H, σ) -/
structure Cap (h : Heap) (H : Hp) (tok : LTok) (N : List Str) (σ : L2.St) (sc : Scope) : Prop where
  inj : ∀ x y c, tok.lookup x = some c → tok.lookup y = some c → x = y
  has : ∀ y, (y, NameKind.free) ∈ sc.names → ∃ c, tok.lookup y = some c
  cell : ∀ y c, tok.lookup y = some c → (∃ v, h.IsCell c v) ∧ H c = none
  val : ∀ (i : Nat) (y : Str) (v : V), N[i]? = some y → σ[i]? = some (some v) → (y, NameKind.free) ∈ sc.names → ∃ u c, RelV v u ∧ tok.lookup y = some c ∧ h.IsCell c (some u)
theorem cap_of {X : Cx} {pins : List (Addr × Obj)} {σ : L2.St} {H : Hp} {s : Shared} {sc : Scope} (I : Inv X pins σ H s) (hfr : freeB X.env.scope sc = true) : Cap s.heap H X.env.cells X.N σ sc where
  inj := I.ok.inj
  has := fun y hy => I.ok.has _ ((free_of hfr _ hy rfl).imp id id)
  cell := fun y c e => ⟨I.cell y c e, I.freeC y c e⟩
  val := fun i y v e1 e2 hy => by
    obtain ⟨m, _, hl⟩ := I.loc
    have hk := free_of hfr _ hy rfl
    obtain ⟨u, r, q⟩ := hl i y v e1 e2 (.inr hk)
    rcases q with ⟨k, _⟩ | ⟨_, c, e, z⟩
    · have k' : X.env.scope.names.lookup y = some .local := k
      rcases hk with z | z <;> · rw [show X.env.scope.names.lookup y = _ from z] at k'; cases k'
    · exact ⟨u, c, r, e, z⟩
abbrev lamE (tx : LamTx) (tok : LTok) (L f c : Addr) : PySem.Env := PySem.W.envX tx.q tx.sc L f (.ref c) (cloFrom tok tx.sc.names [])
/-- the context of a lambda's body -/
def lamC (P : Program) (w : World) (K : PySem.W.Frag) (mg : Str → Option Value) (base : Heap) (tx : LamTx) (tok : LTok) (N : List Str) (A : Around) (outer : List PySem.Env) (s : Shared) (H : Hp) (E : XK) (f c : Addr) : Cx :=
  { prog := P, w := w, K := K, mg := mg, base := base, A := A.deeper (lamE tx tok s.heap.objs.size f c), N := N, s_0 := s, H_0 := H, env := lamE tx tok s.heap.objs.size f c, outer := outer, stack := lamE tx tok s.heap.objs.size f c :: outer, ex := [], fn := fun _ => false, calm := true, pn := [],
    xe := fun e s' => wpAny (model P w) (A.deeper (lamE tx tok s.heap.objs.size f c)) (leaving (lamE tx tok s.heap.objs.size f c) e) (fun _ s2 => L2.CX P w outer H s E e s2) (fun e2 s2 => L2.CX P w outer H s E e2 s2) s' }
/-- the names of a lambda: its parameters, then the maker's slots -/
structure LamS (sc : Scope) (ps N0 N : List Str) : Prop where
  kind : sc.kind = .function
  co : sc.isCoroutine = false
  gen : sc.isGenerator = false
  own : ∀ y ∈ sc.names, y.2 ≠ .cell ∧ (y.2 = .local → y.1 ∈ ps)
  par : ∀ x ∈ ps, sc.names.lookup x = some .local
  nd : ps.Nodup
  pre : N.take ps.length = ps
  len : N.length = ps.length + N0.length
  suf : ∀ (i : Nat) (x : Str), N[ps.length + i]? = some x → Vis sc x → x ∉ ps ∧ N0[i]? = some x
def lamSB (sc : Scope) (ps N0 N : List Str) : Bool :=
  decide (sc.kind = .function) && !sc.isCoroutine && !sc.isGenerator && (sc.names.all fun y => !decide (y.2 = .cell) && (!decide (y.2 = .local) || decide (y.1 ∈ ps))) && (ps.all fun x => decide (sc.names.lookup x = some .local)) && decide ps.Nodup && decide (N = ps ++ N0) && (N0.all fun x => decide (x ∉ ps))
theorem lamS_by {sc : Scope} {ps N0 N : List Str} (h : lamSB sc ps N0 N = true) : LamS sc ps N0 N := by
  unfold lamSB at h
  simp only [Bool.and_eq_true, Bool.or_eq_true, Bool.not_eq_true', decide_eq_true_eq, decide_eq_false_iff_not, List.all_eq_true] at h
  obtain ⟨⟨⟨⟨⟨⟨⟨h1, h2⟩, h3⟩, h4⟩, h5⟩, h6⟩, h7⟩, h8⟩ := h
  subst h7
  refine ⟨h1, h2, h3, fun y hy => ⟨(h4 y hy).1, fun e => (h4 y hy).2.resolve_left (fun n => n e)⟩, h5, h6, by rw [List.take_left], by rw [List.length_append], fun i x e _ => ?_⟩
  rw [List.getElem?_append_right (by omega), Nat.add_sub_cancel_left] at e
  exact ⟨h8 x (List.mem_of_getElem? e), e⟩
theorem lookup_nodup {α : Type} : ∀ {l : List (Str × α)} {x : Str} {u : α}, (l.map (·.1)).Nodup → (x, u) ∈ l → l.lookup x = some u
  | (y, v) :: r, x, u, n, h => by
    rw [List.map_cons, List.nodup_cons] at n
    rw [List.lookup_cons]
    rcases List.mem_cons.mp h with e | h'
    · cases e; simp
    · have ne : x ≠ y := fun e => n.1 (by subst e; exact List.mem_map.mpr ⟨_, h', rfl⟩)
      rw [beq_eq_false_iff_ne.mpr ne]
      exact lookup_nodup n.2 h'
theorem zip_fst {α : Type} : ∀ {ps : List Str} {us : List α}, us.length = ps.length → (ps.zip us).map (·.1) = ps
  | [], _, _ => by simp
  | p :: ps, [], h => by cases h
  | p :: ps, u :: us, h => by rw [List.zip_cons_cons, List.map_cons, zip_fst (by simpa using h)]
theorem nodup_rev {l : List Str} (h : l.Nodup) : l.reverse.Nodup := by
  unfold List.Nodup at h ⊢
  rw [List.pairwise_reverse]
  exact h.imp fun n => Ne.symm n
theorem zip_at {α : Type} {ps : List Str} {us : List α} {i : Nat} {x : Str} {u : α} (h1 : ps[i]? = some x) (h2 : us[i]? = some u) : (x, u) ∈ ps.zip us := by
  have : (ps.zip us)[i]? = some (x, u) := by rw [List.getElem?_zip_eq_some]; exact ⟨h1, h2⟩
  exact List.mem_of_getElem? this
section
variable {P : Program} {w : World} {K : PySem.W.Frag} {mg : Str → Option Value} {base : Heap}
theorem lam_enter {A : Around} {outer : List PySem.Env} {E : XK} {tx : LamTx} {tok : LTok} {N0 N ps : List Str} {fs ex : List Addr} {f c : Addr} {h0 h1 : Heap} {tk : Nat} {H0 H : Hp} {s : Shared} {σ : L2.St} {vs : List V} {us : List Value} (C : Cap h0 H0 tok N0 σ tx.sc) (L : LamS tx.sc ps N0 N)
    (e0 : Env0 P w K mg base A outer s H) (hd : A.handled = none) (un : Un fs ex H0 H h0 s.heap) (nc : ∀ b ∈ ex, H0 b = none → ∀ o, h0.get? b = some o → ∀ v, o.data ≠ .cell v) (hns : h1.Ns s.heap.objs.size fun y => (ps.zip us).reverse.lookup y) (kp : ∀ b o, s.heap.get? b = some o → h1.get? b = some o)
    (r : Vals vs us) (hl : vs.length = ps.length) (hσ : σ.length = N0.length) : Inv (lamC P w K mg base tx tok N A outer s H E f c) [] (vs.map some ++ σ) H { s with heap := h1, toks := tk } := by
  have cm : ∀ {y c}, (cloFrom tok tx.sc.names []).lookup y = some c → (y, NameKind.free) ∈ tx.sc.names ∧ tok.lookup y = some c := fun {y c} e => by
    rcases cloFrom_mem (PySem.mem_of_lookup e) with hm | ⟨z1, z2⟩
    · cases hm
    · obtain ⟨c1, hc⟩ := C.has y z1
      rw [hc] at z2
      exact ⟨z1, by rw [hc, z2]; rfl⟩
  have look : ∀ {y}, (y, NameKind.free) ∈ tx.sc.names → ∃ c, (cloFrom tok tx.sc.names []).lookup y = some c := fun hy => mem_lookup (cloFrom_has (cells := tok) (acc := []) hy)
  have cellK : ∀ {c : Addr} {v : Option Value}, H0 c = none → h0.IsCell c v → h1.IsCell c v := fun {c v} n ⟨o, ho, hd⟩ => by
    obtain ⟨sl, q⟩ := un.any ho n (fun z => nc _ z n _ ho _ hd)
    exact ⟨_, kp _ _ q, hd⟩
  have nil : ∀ {b : Addr}, b ∈ (lamC P w K mg base tx tok N A outer s H E f c).ex → False := fun z => absurd (show _ ∈ ([] : List Addr) from z) (by simp)
  have lu := r.length
  have ok : (lamC P w K mg base tx tok N A outer s H E f c).Ok :=
    { mod := e0.mod, kind := L.kind, glob := rfl, blt := rfl, above := Nat.le_refl _
      inj := fun x y c e1 e2 => C.inj x y c (cm e1).2 (cm e2).2
      has := fun y hy => by
        have hy : tx.sc.names.lookup y = some .cell ∨ tx.sc.names.lookup y = some .free := hy
        rcases hy with z | z
        · exact absurd rfl (L.own _ (PySem.mem_of_lookup z)).1
        · exact look (PySem.mem_of_lookup z)
      cab := fun y c z _ => by cases (show false = true from z)
      hd := fun _ => hd, frames := Around.frames_deeper e0.frames, stk := .inr ⟨rfl, rfl⟩, exf := fun b z => (nil z).elim, bs := e0.bs, bsz := e0.bsz, noex := fun b _ _ z => nil z, exfs := fun b z => (nil z).elim, funs := e0.funs, frf := e0.frf }
  refine { ok := ok, os := rfl, bare := e0.bare, base := Un.kept kp, loc := ⟨_, hns, fun i y v e1 e2 e3 => ?_⟩, cell := fun y c e => ?_, free := e0.hok.fresh (Nat.le_refl _), freeC := fun y c e => ?_, pin := fun q hq => absurd (show q ∈ ([] : List (Addr × Obj)) ++ [] from hq) (by simp), hok := e0.hok.kept kp, len := ?_ }
  · have e1 : N[i]? = some y := e1
    have e3 : Vis tx.sc y := e3
    by_cases hi : i < ps.length
    · have p1 : ps[i]? = some y := by rw [← L.pre, List.getElem?_take_of_lt hi]; exact e1
      rw [List.getElem?_append_left (by rw [List.length_map]; omega), List.getElem?_map] at e2
      obtain ⟨v', h2, h3⟩ := Option.map_eq_some_iff.mp e2
      cases h3
      obtain ⟨u, h4, h5⟩ := r.get h2
      refine ⟨u, h5, .inl ⟨L.par y (List.mem_of_getElem? p1), ?_⟩⟩
      refine lookup_nodup ?_ (List.mem_reverse.mpr (zip_at p1 h4))
      rw [List.map_reverse, zip_fst (by omega)]
      exact nodup_rev L.nd
    · obtain ⟨k, rfl⟩ : ∃ k, i = ps.length + k := ⟨i - ps.length, by omega⟩
      obtain ⟨z1, z2⟩ := L.suf k y e1 e3
      rw [List.getElem?_append_right (by rw [List.length_map]; omega), List.length_map, hl, Nat.add_sub_cancel_left] at e2
      have fr : tx.sc.names.lookup y = some .free := by
        rcases e3 with z | z | z
        · exact absurd ((L.own _ (PySem.mem_of_lookup z)).2 rfl) z1
        · exact absurd rfl (L.own _ (PySem.mem_of_lookup z)).1
        · exact z
      have fm := PySem.mem_of_lookup fr
      obtain ⟨u, c1, h1, h2, h3⟩ := C.val k y v z2 e2 fm
      obtain ⟨c2, h4⟩ := look fm
      have := (cm h4).2
      rw [h2] at this; cases this
      exact ⟨u, h1, .inr ⟨.inr fr, c1, h4, cellK (C.cell _ _ h2).2 h3⟩⟩
  · obtain ⟨⟨v, z⟩, n⟩ := C.cell y c (cm e).2
    exact ⟨v, cellK n z⟩
  · obtain ⟨⟨v, o, ho, hd⟩, n⟩ := C.cell y c (cm e).2
    exact un.free c o ho n (fun z => nc _ z n _ ho _ hd)
  · rw [List.length_append, List.length_map, hl, hσ]; exact L.len.symm
/-- on from (H0, h0): what was no cell may have turned (the iterators of a comprehension) -/
def UnC (H0 H : Hp) (h0 h : Heap) : Prop := ∃ fs ex, Un fs ex H0 H h0 h ∧ ∀ b ∈ ex, H0 b = none → ∀ o, h0.get? b = some o → ∀ v, o.data ≠ .cell v
theorem UnC.refl {H : Hp} {h : Heap} : UnC H H h h := ⟨[], [], Un.refl, fun b z => absurd z (by simp)⟩
theorem UnC.of {fs : List Addr} {H0 H : Hp} {h0 h : Heap} (u : Un fs [] H0 H h0 h) : UnC H0 H h0 h := ⟨fs, [], u, fun b z => absurd z (by simp)⟩
theorem UnC.join {H H1 H2 : Hp} {h h1 h2 : Heap} (a : UnC H H1 h h1) (b : UnC H1 H2 h1 h2) : UnC H H2 h h2 := by
  obtain ⟨fs, ex, ua, na⟩ := a
  obtain ⟨gs, ey, ub, nb⟩ := b
  refine ⟨fs ++ gs, ex ++ ey, (ua.mono (fun _ z => List.mem_append_left _ z) fun _ z => List.mem_append_left _ z).trans (ub.mono (fun _ z => List.mem_append_right _ z) fun _ z => List.mem_append_right _ z), fun x hx n o e v z => ?_⟩
  by_cases hb : x ∈ ex
  · exact na x hb n o e v z
  · rcases List.mem_append.mp hx with hx | hx
    · exact hb hx
    · obtain ⟨sl, e2⟩ := ua.any e n hb
      exact nb x hx (ua.free x o e n hb) _ e2 v z
/-- the call of any lambda object j of the activation tok, from any state that comes of (s0, H0, F0) -/
structure LamOk (P : Program) (w : World) (K : PySem.W.Frag) (mg : Str → Option Value) (base : Heap) (s0 : Shared) (H0 F0 : Hp) (k : Nat) (j : Nat) (tok : LTok) (g : List D → Res D) : Prop where
  run : ∀ (A : Around) (outer : List PySem.Env) (s : Shared) (H F : Hp) (f : Addr) (us : List Value) (vs : List V) (ds : List FV.D) (Q : VK) (E : XK), Room k A → Env0 P w K mg base A outer s H → UnC H0 H s0.heap s.heap → Same F0 F → St F H →
    Rep K F (.ref f) (.lam j tok) → Reps K F vs ds → Vals vs us → OutE K mg F H E Q (g ds) → codeAny (model P w) A (.call (.ref f) ⟨us, []⟩) (CR (L2.CX P w) outer P w H s Q E) s
theorem LamOk.mono {s0 : Shared} {H0 F0 : Hp} {k k2 j : Nat} {tok : LTok} {g : List D → Res D} (h : LamOk P w K mg base s0 H0 F0 k j tok g) (le : k ≤ k2) : LamOk P w K mg base s0 H0 F0 k2 j tok g :=
  ⟨fun A outer s H F f us vs ds Q E hr => h.run A outer s H F f us vs ds Q E (hr.mono le)⟩
def thaw (ρ : En) : En := ρ.map fun o => match o with
  | some (.frz d) => some (.frz d)
  | _ => none
/-- a lambda's outcome: the maker's slots ρ, n parameters -/
def lamD (n : Nat) (fb : Den) (ρ : En) (ds : List D) : Res D := if ds.length = n then fb (ds.map (fun d => some (.frz d)) ++ thaw ρ) else .stuck
theorem thaw_frz {ρ : En} {i : Nat} {d : D} (h : (thaw ρ)[i]? = some (some (.frz d))) : ρ[i]? = some (some (.frz d)) := by
  unfold thaw at h
  rw [List.getElem?_map] at h
  cases q : ρ[i]? with
  | none => rw [q] at h; cases h
  | some o =>
    rw [q] at h
    cases o with
    | none => simp at h
    | some sl => cases sl <;> simp at h; subst h; rfl
theorem thaw_own {ρ : En} {i : Nat} {ds : List D} (h : (thaw ρ)[i]? = some (some (.own ds))) : False := by
  unfold thaw at h
  rw [List.getElem?_map] at h
  cases q : ρ[i]? with
  | none => rw [q] at h; cases h
  | some o =>
    rw [q] at h
    cases o with
    | none => simp at h
    | some sl => cases sl <;> simp at h
theorem thaw_mu {ρ : En} {i : Nat} {d : D} (h : (thaw ρ)[i]? = some (some (.mu d))) : False := by
  unfold thaw at h
  rw [List.getElem?_map] at h
  cases q : ρ[i]? with
  | none => rw [q] at h; cases h
  | some o =>
    rw [q] at h
    cases o with
    | none => simp at h
    | some sl => cases sl <;> simp at h
def BindLam (tx : LamTx) (ps : List Str) : Prop := ∀ (cl : List (Str × Addr)) (pm cv ctv : Value) (us : List Value), us.length = ps.length → bindArgs (PySem.W.kla_fn "<lambda>" tx.q tx.ps tx.body tx.sc cl pm cv ctv) ⟨us, []⟩ = pure (ps.zip us)
theorem lam_sim {F0 F H : Hp} {ρ : En} {σ : L2.St} {vs : List V} {ds : List D} (s : Same F H) (sf : Same F0 F) (r : Reps K F vs ds) (hl : ρ.length = σ.length) (hf : ∀ (i : Nat) (d : D), ρ[i]? = some (some (.frz d)) → ∃ v, σ[i]? = some (some v) ∧ Rep K F0 v d) :
    Sim K F H F H (ds.map (fun d => some (.frz d)) ++ thaw ρ) (vs.map some ++ σ) := by
  have own : ∀ (i : Nat) (es : List FV.D), (ds.map (fun d => some (Sl.frz d)) ++ thaw ρ)[i]? = some (some (Sl.own es)) → False := fun i es h => by
    by_cases hi : i < ds.length
    · rw [List.getElem?_append_left (by simpa using hi), List.getElem?_map] at h
      obtain ⟨e, e1, e2⟩ := Option.map_eq_some_iff.mp h
      cases e2
    · rw [List.getElem?_append_right (by simpa using hi)] at h
      exact thaw_own h
  have mu : ∀ (i : Nat) (es : FV.D), (ds.map (fun d => some (Sl.frz d)) ++ thaw ρ)[i]? = some (some (Sl.mu es)) → False := fun i es h => by
    by_cases hi : i < ds.length
    · rw [List.getElem?_append_left (by simpa using hi), List.getElem?_map] at h
      obtain ⟨e, e1, e2⟩ := Option.map_eq_some_iff.mp h
      cases e2
    · rw [List.getElem?_append_right (by simpa using hi)] at h
      exact thaw_mu h
  refine ⟨Grow.refl s, ?_, fun i d h => ?_, fun i es h => (own i es h).elim, fun i j es fs a _ h => (own i es h).elim, fun i d h => (mu i d h).elim, fun i j es fs a _ h => (mu i es h).elim⟩
  · rw [List.length_append, List.length_append, List.length_map, List.length_map, r.length, show (thaw ρ).length = ρ.length from List.length_map .., hl]
  · by_cases hi : i < ds.length
    · rw [List.getElem?_append_left (by simpa using hi), List.getElem?_map] at h
      obtain ⟨e, e1, e2⟩ := Option.map_eq_some_iff.mp h
      cases e2
      obtain ⟨v, k1, k2⟩ := r.get e1
      exact ⟨v, by rw [List.getElem?_append_left (by rw [List.length_map, r.length]; exact hi), List.getElem?_map, k1]; rfl, k2⟩
    · rw [List.getElem?_append_right (by simpa using hi), List.length_map] at h
      obtain ⟨v, k1, k2⟩ := hf _ _ (thaw_frz h)
      exact ⟨v, by rw [List.getElem?_append_right (by rw [List.length_map, r.length]; omega), List.length_map, r.length]; exact k1, k2.mono sf⟩
theorem lamOk_of {s0 : Shared} {H0 F0 : Hp} {k j : Nat} {tok : LTok} {tx : LamTx} {N0 N ps : List Str} {σ : L2.St} {ρ : En} {fb : Den} (hL : Tbs.L j = tx) (L : LamS tx.sc ps N0 N) (C : Cap s0.heap H0 tok N0 σ tx.sc) (hl : ρ.length = σ.length) (hσ : σ.length = N0.length)
    (hf : ∀ (i : Nat) (d : D), ρ[i]? = some (some (.frz d)) → ∃ v, σ[i]? = some (some v) ∧ Rep K F0 v d) (hbind : BindLam tx ps)
    (hbody : ∀ (A : Around) (outer : List PySem.Env) (s : Shared) (H F : Hp) (E : XK) (f c : Addr) (st : St F H), Room k (A.deeper (lamE tx tok s.heap.objs.size f c)) → UnC H0 H s0.heap s.heap → Same F0 F →
      EJ (lamC P w K mg base tx tok N A outer s H E f c) ⟨F, H, fun cls d _ H => E cls d H, st⟩ tx.body fb) : LamOk P w K mg base s0 H0 F0 (k + 1) j tok (lamD ps.length fb ρ) := by
  refine ⟨fun A outer s H F f us vs ds Q E hr e0 un sf st rf rv r o => ?_⟩
  obtain ⟨fs, ex, un', nc⟩ := id un
  cases rf with
  | @lam _ c _ _ h1 h2 =>
    rw [hL] at h1 h2
    obtain ⟨⟨pm, ctv, hget⟩, _, _⟩ := e0.hok f _ (st.1 _ _ h1)
    obtain ⟨⟨oc, xs, t, hoc, hdc, hxc⟩, _, _⟩ := e0.hok c _ (st.1 _ _ h2)
    unfold lamD at o
    split at o
    · rename_i hn
      have hlv : vs.length = ps.length := by rw [rv.length]; exact hn
      have hlu : us.length = ps.length := by rw [← r.length]; exact hlv
      have lim : s.heap.NoLimit := e0.mod.nolimit.keeps fun b o e => (e0.bs b o e).1
      refine PySem.W.kla_callFunE hr.depth hget rfl L.co L.gen rfl ⟨c, oc, xs, t, rfl, hoc, hdc, hxc⟩ ?_
      rw [hbind _ _ _ _ us hlu]
      refine wpAny_pure (wpAny_newFunctionEnv (fun y hy => (L.own y hy).1) (fun y hy => ?_) (fun h1 hns hsb => ⟨lim.fresh _ hsb, ?_⟩) L.kind)
      · have hy : y ∈ ps.zip us := hy
        exact L.par _ (List.of_mem_zip (a := y.1) (b := y.2) hy).1
      · show codeAny _ _ (.expr tx.body (lamE tx tok s.heap.objs.size f c)) _ _
        have kp : ∀ b o, s.heap.get? b = some o → h1.get? b = some o := fun b o e => hsb.extBut b o (Nat.ne_of_lt (Heap.lt_size e)) (Heap.get?_push_of_some _ e)
        have J := lam_enter (E := E) (f := f) (c := c) (tk := s.toks + (ps.zip us).length) C L e0 hr.hd un' nc hns kp r hlv hσ
        refine PySem.W.kla_codeExpr (wpAny_mono ((hbody A outer s H F E f c st (hr.deeper _) un sf _ _ F H Q (lam_sim st.1 sf rv hl hf) ?_).run [] _ J) (fun v s' hq => ?_) fun e s' hq => hq)
        · cases e : fb (ds.map (fun d => some (.frz d)) ++ thaw ρ) with
          | ok d => rw [e] at o; exact o
          | exn x => rw [e] at o; exact o
          | stuck => rw [e] at o; exact o
        · obtain ⟨v', H', J', rv', q⟩ := hq
          exact ⟨v', H', J'.os, J'.bare, J'.base, J'.hok, rv', q⟩
    · exact o.elim
/-- lambdas by number and activation -/
abbrev Cl := Nat → LTok → List D → Res D
def CanM (P : Program) (w : World) (K : PySem.W.Frag) (mg : Str → Option Value) (base : Heap) (s0 : Shared) (H0 F0 : Hp) (k : Nat) (cl : Cl) : Prop := ∀ j tok, LamOk P w K mg base s0 H0 F0 k j tok (cl j tok)
def clNil : Cl := fun _ _ _ => .stuck
def clCons (j : Nat) (tok : LTok) (n : Nat) (fb : Den) (ρ : En) (cl : Cl) : Cl := fun j' tok' => if j' = j ∧ tok' = tok then lamD n fb ρ else cl j' tok'
end
/-- in a body, entered where lambdas may be called -/
def CanC (X : Cx) (F : Hp) (k : Nat) (cl : Cl) : Prop := ∃ s0 H0 F0, UnC H0 X.H_0 s0.heap X.s_0.heap ∧ Same F0 F ∧ CanM X.prog X.w X.K X.mg X.base s0 H0 F0 k cl
/-- in the maker's body, at any of its states -/
def CanX (X : Cx) (c : Cc) (k : Nat) (clM : En → Cl) : Prop := ∀ (pins : List (Addr × Obj)) (σ : L2.St) (H : Hp) (s : Shared) (ρ : En) (F : Hp), Inv X pins σ H s → Sim X.K c.F0 c.H0 F H ρ σ → CanM X.prog X.w X.K X.mg X.base s H F k (clM ρ)
section
variable {X : Cx} {c : Cc}
theorem canX_nil {k : Nat} : CanX X c k (fun _ => clNil) := fun _ _ _ _ _ _ _ _ _ _ => ⟨fun _ _ _ _ _ _ _ _ _ _ _ _ _ _ _ _ _ _ _ o => o.elim⟩
theorem canX_mono {k k2 : Nat} {clM : En → Cl} (h : CanX X c k clM) (le : k ≤ k2) : CanX X c k2 clM := fun pins σ H s ρ F I S j tok => (h pins σ H s ρ F I S j tok).mono le
theorem canX_cons {k k1 kb : Nat} {clM : En → Cl} {j : Nat} {tx : LamTx} {ps N : List Str} {fb : Cl → Den} (h : CanX X c k1 clM) (hL : Tbs.L j = tx) (L : LamS tx.sc ps X.N N) (hfr : freeB X.env.scope tx.sc = true) (hbind : BindLam tx ps)
    (hbody : ∀ (cl : Cl) (A : Around) (outer : List PySem.Env) (s : Shared) (H F : Hp) (E : XK) (f k : Addr) (st : St F H), Room kb (A.deeper (lamE tx X.env.cells s.heap.objs.size f k)) → CanC (lamC X.prog X.w X.K X.mg X.base tx X.env.cells N A outer s H E f k) F k1 cl →
      EJ (lamC X.prog X.w X.K X.mg X.base tx X.env.cells N A outer s H E f k) ⟨F, H, fun cls d _ H => E cls d H, st⟩ tx.body (fb cl)) (l1 : k1 ≤ k := by decide) (l2 : kb + 1 ≤ k := by decide) :
    CanX X c k (fun ρ => clCons j X.env.cells ps.length (fb (clM ρ)) ρ (clM ρ)) := by
  intro pins σ H s ρ F I S j' tok'
  show LamOk X.prog X.w X.K X.mg X.base s H F k j' tok' (if j' = j ∧ tok' = X.env.cells then lamD ps.length (fb (clM ρ)) ρ else clM ρ j' tok')
  by_cases e : j' = j ∧ tok' = X.env.cells
  · rw [if_pos e]
    obtain ⟨rfl, rfl⟩ := e
    exact (lamOk_of hL L (cap_of I hfr) S.len I.len S.frz hbind fun A outer s' H' F' E f k' st hr un sf => hbody (clM ρ) A outer s' H' F' E f k' st hr ⟨s, H, F, un, sf, h pins σ H s ρ F I S⟩).mono l2
  · rw [if_neg e]
    exact (h pins σ H s ρ F I S j' tok').mono l1
/-- the call of a lambda in a slot -/
def dCallC (i : Nat) (cl : Cl) (fs : DenA) : Den := fun ρ => (dVar i ρ).bind fun d => match d with
  | .lam j tok => (fs ρ).bind (cl j tok)
  | _ => .stuck
theorem un_join {fs gs : List Addr} {H H1 H2 : Hp} {h h1 h2 : Heap} (a : Un fs [] H H1 h h1) (b : Un gs [] H1 H2 h1 h2) : Un (fs ++ gs) [] H H2 h h2 :=
  (a.mono (fun _ z => List.mem_append_left _ z) fun _ z => z).trans (b.mono (fun _ z => List.mem_append_right _ z) fun _ z => z)
theorem can_run {k : Nat} {cl : Cl} {j : Nat} {tok : LTok} {pins : List (Addr × Obj)} {σ : L2.St} {H F : Hp} {ρ : En} {s : Shared} {f : Addr} {us : List Value} {vs : List V} {ds : List D} {Q : VK} (hcl : CanC X c.F0 k cl) (hex : X.ex = []) (hr : Room k X.A) (tk : Takes X c.W) (I : Inv X pins σ H s) (S : Sim X.K c.F0 c.H0 F H ρ σ)
    (rf : Rep X.K F (.ref f) (.lam j tok)) (rv : Reps X.K F vs ds) (r : Vals vs us) (o : Out X c σ F H (fun F' _ v d => Rep X.K F' v d) (cl j tok ds) Q) : wpAny (model X.prog X.w) X.A (call (.ref f) us) (EP X pins σ Q) X.xe s := by
  obtain ⟨s0, H0, F0, un, sf, hm⟩ := hcl
  have u2 : Un X.fs [] X.H_0 H X.s_0.heap s.heap := by have := I.base; rw [hex] at this; exact this
  have o' : OutE X.K X.mg F H (WE c.W σ) Q (cl j tok ds) := by
    cases e : cl j tok ds with
    | ok d => rw [e] at o; exact o
    | exn x => rw [e] at o; exact o
    | stuck => rw [e] at o; exact o
  refine wpAny_call (codeAny_mono ((hm j tok).run X.A X.stack s H F f us vs ds Q _ hr I.env0 (un.join (.of u2)) (sf.trans S.g.f) S.st rf rv r o') fun r s' hq => ?_)
  cases r with
  | error e => exact passAt tk σ pins H s e s' I hq
  | ok fl =>
    cases fl with
    | ret u => exact I.after hq
    | next => exact False.elim hq
    | brk => exact False.elim hq
    | cont => exact False.elim hq
theorem fnAt_lam {K : PySem.W.Frag} {F H : Hp} {P : Program} {w : World} {h : Heap} {f : Addr} {j : Nat} {tok : LTok} (r : Rep K F (.ref f) (.lam j tok)) (s : Same F H) (ok : HOk P w H h) : PySem.W.FnAt f h := by
  cases r with
  | lam h1 h2 =>
    obtain ⟨⟨pm, ctv, hget⟩, _, _⟩ := ok f _ (s _ _ h1)
    exact ⟨_, _, _, _, hget⟩
theorem ej_callC {k : Nat} (i : Nat) {cl : Cl} {x : Str} {p pos : Pos} {e : Expr} {es : List Expr} {fs : DenA} (hcl : CanC X c.F0 k cl) (hr : Room k X.A) (tk : Takes X c.W) (ha : AJ X c (e :: es) fs) (hN : X.N[i]? = some x := by rfl) (hv : Vis X.env.scope x := by first | exact Or.inl rfl | exact Or.inr (Or.inl rfl) | exact Or.inr (Or.inr rfl))
    (hex : X.ex = [] := by rfl) (hdb : (x == ("__debug__" : Str)) = false := by decide) (hcd : (x == ("__classdict__" : Str)) = false := by decide)
    (he : starEach (e :: es) X.env = (false, eval e X.env) :: starEach es X.env := by first | with_reducible exact st_c | with_reducible exact st_n | with_reducible exact st_b | with_reducible exact st_u | with_reducible exact st_s | with_reducible exact st_f | with_reducible exact st_t | with_reducible exact st_l | with_reducible exact st_q | with_reducible exact st_o | with_reducible exact st_i | with_reducible exact st_m | with_reducible exact st_a | with_reducible exact st_h | with_reducible exact st_g | with_reducible exact st_d | rfl) (hpl : (backTo pos (starEach es X.env)).any (·.1) = false := by ((repeat (first | with_reducible exact pl_0 | with_reducible refine Eq.trans pl_c ?_ | with_reducible refine Eq.trans pl_n ?_ | with_reducible refine Eq.trans pl_b ?_ | with_reducible refine Eq.trans pl_u ?_ | with_reducible refine Eq.trans pl_s ?_ | with_reducible refine Eq.trans pl_f ?_ | with_reducible refine Eq.trans pl_t ?_ | with_reducible refine Eq.trans pl_l ?_ | with_reducible refine Eq.trans pl_q ?_ | with_reducible refine Eq.trans pl_o ?_ | with_reducible refine Eq.trans pl_i ?_ | with_reducible refine Eq.trans pl_m ?_ | with_reducible refine Eq.trans pl_a ?_ | with_reducible refine Eq.trans pl_h ?_ | with_reducible refine Eq.trans pl_g ?_ | with_reducible refine Eq.trans pl_d ?_)); first | done | rfl)) :
    EJ X c (.Call (.Name x p) (e :: es) [] pos) (dCallC i cl fs) := by
  intro ρ σ F H Q S o
  unfold dCallC at o
  cases q : dVar i ρ with
  | exn y => unfold dVar at q; split at q <;> cases q
  | stuck => rw [q] at o; exact o.elim
  | ok d =>
    rw [q] at o
    cases d with
    | lam j tok =>
      have q' : ρ[i]? = some (some (.frz (.lam j tok))) := by
        unfold dVar at q
        split at q
        · rename_i d' e'; cases q; exact e'
        · cases q
      obtain ⟨v, h1, h2⟩ := S.frz i _ q'
      obtain ⟨f, rfl⟩ : ∃ f, v = .ref f := by cases h2; exact ⟨_, rfl⟩
      refine ⟨fun pins s I => ?_⟩
      refine wpAny_Call_Name_kw (thn ((pe_var (pos := p) hN hv hdb hcd).run pins s σ H (fun v H1 => v = .ref f ∧ H1 = H) I ⟨.ref f, h1, rfl, rfl⟩) fun u s1 ⟨v, H1, I1, r1, q1⟩ => ?_)
      obtain ⟨rfl, rfl⟩ := q1
      obtain rfl : u = Value.ref f := r1
      refine PySem.W.callWith_F (fnAt_lam h2 S.g.fh I1.hok) (thn ((ha ρ σ F _ (fun vs H2 => ∃ F2 ds, Grow F H1 F2 H2 ∧ Reps X.K F2 vs ds ∧ Out X c σ F2 H2 (fun F' _ v d => Rep X.K F' v d) (cl j tok ds) Q) S (Out.seq o fun ds F2 H2 vs _ g2 r2 o2 => ⟨F2, ds, g2, r2, o2⟩)).run pos pins s1 I1) fun us s2 ⟨vs, H2, I2, r, F2, ds, g2, r2, o2⟩ => ⟨fnAt_lam (h2.mono g2.f) (S.grow g2).g.fh I2.hok, ?_⟩) he hpl
      exact can_run hcl hex hr tk I2 (S.grow g2) (h2.mono g2.f) r2 r o2
    | _ => exact o.elim
theorem ej_callC0 {k : Nat} (i : Nat) {cl : Cl} {x : Str} {p pos : Pos} (hcl : CanC X c.F0 k cl) (hr : Room k X.A) (tk : Takes X c.W) (hN : X.N[i]? = some x := by rfl) (hv : Vis X.env.scope x := by first | exact Or.inl rfl | exact Or.inr (Or.inl rfl) | exact Or.inr (Or.inr rfl))
    (hex : X.ex = [] := by rfl) (hdb : (x == ("__debug__" : Str)) = false := by decide) (hcd : (x == ("__classdict__" : Str)) = false := by decide) :
    EJ X c (.Call (.Name x p) [] [] pos) (dCallC i cl aNil) := by
  intro ρ σ F H Q S o
  unfold dCallC at o
  cases q : dVar i ρ with
  | exn y => unfold dVar at q; split at q <;> cases q
  | stuck => rw [q] at o; exact o.elim
  | ok d =>
    rw [q] at o
    cases d with
    | lam j tok =>
      have q' : ρ[i]? = some (some (.frz (.lam j tok))) := by
        unfold dVar at q
        split at q
        · rename_i d' e'; cases q; exact e'
        · cases q
      obtain ⟨v, h1, h2⟩ := S.frz i _ q'
      obtain ⟨f, rfl⟩ : ∃ f, v = .ref f := by cases h2; exact ⟨_, rfl⟩
      refine ⟨fun pins s I => ?_⟩
      refine wpAny_Call_Name_kw (thn ((pe_var (pos := p) hN hv hdb hcd).run pins s σ H (fun v H1 => v = .ref f ∧ H1 = H) I ⟨.ref f, h1, rfl, rfl⟩) fun u s1 ⟨v, H1, I1, r1, q1⟩ => ?_)
      obtain ⟨rfl, rfl⟩ := q1
      obtain rfl : u = Value.ref f := r1
      exact PySem.W.callWith_F0 (fnAt_lam h2 S.g.fh I1.hok) (can_run (us := []) (vs := []) (ds := []) hcl hex hr tk I1 S h2 .nil .nil o)
    | _ => exact o.elim
end

/-! ### a def that calls what it is given -/
structure FnC (P : Program) (w : World) (K : PySem.W.Frag) (mg : Str → Option Value) (base : Heap) (k kl : Nat) (x : Str) (n : Nat) (g : Cl → List D → Res D) : Prop where
  ok : ∃ f, mg x = some (.ref f) ∧ PySem.W.keepIn K (.ref f) = true ∧ ∀ (A : Around) (outer : List PySem.Env) (s : Shared) (H F : Hp) (us : List Value) (vs : List V) (ds : List D) (Q : VK) (E : XK) (cl : Cl), Room k A → Env0 P w K mg base A outer s H → Vals vs us → vs.length = n → St F H → Reps K F vs ds →
    CanM P w K mg base s H F kl cl → OutE K mg F H E Q (g cl ds) → codeAny (model P w) A (.call (.ref f) ⟨us, []⟩) (CR (L2.CX P w) outer P w H s Q E) s
section
variable {P : Program} {w : World} {K : PySem.W.Frag} {mg : Str → Option Value} {base : Heap}
theorem fnc_of {k kl n : Nat} {x : Str} {st : Stmt} {N ps : List Str} {g : Cl → SDen} (A : At K mg x st) (Sc : FnScope N ps (defScope st)) (hb : BindOk x st ps) (hn : ps.length = n)
    (hbody : ∀ (cl : Cl) (f : Addr) (cdv : Value) (A : Around) (outer : List PySem.Env) (s : Shared) (H F : Hp) (E : XK), Room k (A.deeper (envOfC x (defScope st) s.heap.objs.size f cdv)) → CanC (cxOf (L2.CX P w) P w K mg base N x (defScope st) f cdv A outer s H E) F kl cl →
      ∀ {sm : St F H}, BJ (cxOf (L2.CX P w) P w K mg base N x (defScope st) f cdv A outer s H E) ⟨F, H, fun cls d _ H => E cls d H, sm⟩ (defBody st) (g cl)) : FnC P w K mg base (k + 1) kl x n (fun cl => runB (g cl) N.length) := by
  obtain ⟨f, fd, Fn, hm⟩ := A.ex
  subst hn
  obtain ⟨oc, od, kV, doc, pm, an, cdv, ct, osl, e, lk, hcd⟩ := Fn.ex
  refine ⟨f, hm, Fn.kp, fun A outer s H F us vs ds Q E cl hr e0 r hl st rv cm o => ?_⟩
  rw [e] at lk
  refine LamX.run_ofS lk hcd Sc hr e0 (.of_eq (hb kV doc pm an cdv ct us (by rw [← r.length, hl]))) r hl fun hr' => ⟨_, pss_wp _, ?_⟩
  refine body_core st (hbody cl f cdv A outer s H F E hr' ⟨s, H, F, UnC.refl, Same.refl F, cm⟩ (sm := st)) rv ?_
  cases e2 : runB (g cl) N.length ds with
  | ok d => rw [e2] at o; exact o
  | exn y => rw [e2] at o; exact o
  | stuck => rw [e2] at o; exact o
/-- a def that makes lambdas: its code object is at c -/
structure AtC (K : PySem.W.Frag) (mg : Str → Option Value) (x : Str) (st : Stmt) (c : Addr) : Prop where
  ex : ∃ (f : Addr) (oc : Value) (od : Option Addr) (kV doc pm : Value) (an : Option Addr) (ct : Value) (osl : Array (Option Value)), K.lookup f = some ⟨oc, od, .func (PySem.W.fnOf x x (defArgs st) (defBody st) (defScope st) .none kV doc pm an (.ref c) ct), osl⟩ ∧ PySem.W.codeIn K (.ref c) x = true ∧ PySem.W.keepIn K (.ref f) = true ∧ mg x = some (.ref f)
open Classical in
/-- no matter in which activation -/
noncomputable def indep (r : LTok → Res D) : Res D := if ∀ t, r t = r [] then r [] else .stuck
theorem indep_eq {r : LTok → Res D} {v : Res D} (h : ∀ t, r t = v) : indep r = v := by
  unfold indep
  rw [if_pos (fun t => (h t).trans (h []).symm)]; exact h []
theorem indep_ok {r : LTok → Res D} (h : indep r ≠ .stuck) (t : LTok) : indep r = r t := by
  unfold indep at h ⊢
  split
  · rename_i q; exact (q t).symm
  · rename_i q; rw [if_neg q] at h; exact absurd rfl h
theorem fndm_of {k n : Nat} {x : Str} {st : Stmt} {N ps : List Str} {g : LTok → SDen} {c : Addr} (A : AtC K mg x st c) (Sc : FnScope N ps (defScope st)) (hb : BindOk x st ps) (hn : ps.length = n)
    (hbody : ∀ (f : Addr) (A : Around) (outer : List PySem.Env) (s : Shared) (H F : Hp) (E : XK), Room k (A.deeper (envOfC x (defScope st) s.heap.objs.size f (.ref c))) →
      ∀ {sm : St F H}, BJ (cxOf (L2.CX P w) P w K mg base N x (defScope st) f (.ref c) A outer s H E) ⟨F, H, fun cls d _ H => E cls d H, sm⟩ (defBody st) (g (envOfC x (defScope st) s.heap.objs.size f (.ref c)).cells)) : FnD P w K mg base (k + 1) x n (fun ds => indep fun tok => runB (g tok) N.length ds) := by
  obtain ⟨f, oc, od, kV, doc, pm, an, ct, osl, lk, hcd, hk, hm⟩ := A.ex
  subst hn
  refine ⟨f, _, ps, [], [], [], _, fn_of lk hcd Sc (fun vs H Q E h => h.1) fun A outer s H vs Q E hr h => ?_, hm, hk, fun s us _ hl => ?_, .nil, fun _ => .nil, by simp, fun args => by rw [List.append_nil]⟩
  · obtain ⟨hl, F, ds, sm, r, h⟩ := h
    refine ⟨_, pss_wp _, body_core sm (hbody f A outer s H F E hr) r ?_⟩
    simp only [] at h
    by_cases q : indep (fun tok => runB (g tok) N.length ds) = .stuck
    · rw [q] at h; exact h.elim
    · rw [indep_ok q (envOfC x (defScope st) s.heap.objs.size f (.ref c)).cells] at h; exact h
  · rw [List.append_nil] at hl ⊢
    exact .of_eq (hb kV doc pm an (.ref c) ct us hl)
end
/-- a call that hands lambdas over -/
def dCallM (g : Cl → List D → Res D) (clM : En → Cl) (fs : DenA) : Den := fun ρ => (fs ρ).bind (g (clM ρ))
section
variable {X : Cx} {c : Cc}
theorem ej_callM {k kl n : Nat} {x : Str} {g : Cl → List D → Res D} {clM : En → Cl} {p pos : Pos} {e : Expr} {es : List Expr} {fs : DenA} (hf : FnC X.prog X.w X.K X.mg X.base k kl x n g) (hr : Room k X.A) (tk : Takes X c.W) (hcl : CanX X c kl clM) (ha : AJ X c (e :: es) fs) [hl : ALen fs n] (hg : Gl X x := by rfl)
    (hdb : (x == ("__debug__" : Str)) = false := by decide) (he : starEach (e :: es) X.env = (false, eval e X.env) :: starEach es X.env := by first | with_reducible exact st_c | with_reducible exact st_n | with_reducible exact st_b | with_reducible exact st_u | with_reducible exact st_s | with_reducible exact st_f | with_reducible exact st_t | with_reducible exact st_l | with_reducible exact st_q | with_reducible exact st_o | with_reducible exact st_i | with_reducible exact st_m | with_reducible exact st_a | with_reducible exact st_h | with_reducible exact st_g | with_reducible exact st_d | rfl) (hpl : (backTo pos (starEach es X.env)).any (·.1) = false := by ((repeat (first | with_reducible exact pl_0 | with_reducible refine Eq.trans pl_c ?_ | with_reducible refine Eq.trans pl_n ?_ | with_reducible refine Eq.trans pl_b ?_ | with_reducible refine Eq.trans pl_u ?_ | with_reducible refine Eq.trans pl_s ?_ | with_reducible refine Eq.trans pl_f ?_ | with_reducible refine Eq.trans pl_t ?_ | with_reducible refine Eq.trans pl_l ?_ | with_reducible refine Eq.trans pl_q ?_ | with_reducible refine Eq.trans pl_o ?_ | with_reducible refine Eq.trans pl_i ?_ | with_reducible refine Eq.trans pl_m ?_ | with_reducible refine Eq.trans pl_a ?_ | with_reducible refine Eq.trans pl_h ?_ | with_reducible refine Eq.trans pl_g ?_ | with_reducible refine Eq.trans pl_d ?_)); first | done | rfl)) :
    EJ X c (.Call (.Name x p) (e :: es) [] pos) (dCallM g clM fs) := by
  obtain ⟨f, hm, hk, run⟩ := hf.ok
  intro ρ σ F H Q S o
  refine ⟨fun pins s I => ?_⟩
  refine wpAny_Call_Name_kw (ld_glob I hg hm ?_ hdb)
  refine PySem.W.callWith_K (h₀ := X.base) I.ok.mod.kin hk (thn ((ha ρ σ F H (fun vs H2 => ∃ F2 ds, fs ρ = .ok ds ∧ Grow F H F2 H2 ∧ Reps X.K F2 vs ds ∧ Out X c σ F2 H2 (fun F' _ v d => Rep X.K F' v d) (g (clM ρ) ds) Q) S (Out.seq o fun ds F2 H2 vs q g2 r2 o2 => ⟨F2, ds, q, g2, r2, o2⟩)).run pos pins s I) fun us s2 ⟨vs, H2, I2, r, F2, ds, q, g2, r2, o2⟩ => ⟨I2.kIn, ?_⟩) he hpl
  have S2 := S.grow g2
  have o' : OutE X.K X.mg F2 H2 (WE c.W σ) Q (g (clM ρ) ds) := by
    cases e : g (clM ρ) ds with
    | ok d => rw [e] at o2; exact o2
    | exn x => rw [e] at o2; exact o2
    | stuck => rw [e] at o2; exact o2
  refine wpAny_call (codeAny_mono (run X.A X.stack s2 H2 F2 us vs ds Q _ (clM ρ) hr I2.env0 r (by rw [r2.length]; exact hl.len ρ ds q) S2.st r2 (hcl pins σ H2 s2 ρ F2 I2 S2) o') fun r s' hq => ?_)
  cases r with
  | error e => exact passAt tk σ pins H2 s2 e s' I2 hq
  | ok fl =>
    cases fl with
    | ret u => exact I2.after hq
    | next => exact False.elim hq
    | brk => exact False.elim hq
    | cont => exact False.elim hq
end
end FV

set_option maxHeartbeats 4000000
/-! FVO: where a lambda stands in the text; the end of a law whose text makes lambdas. -/
namespace FV
open PySem PySem.Spec PyProof.Rows L2
/-! ### where it stands -/
def valS : Stmt → Expr
  | .Assign _ v .. => v
  | .Expr v .. => v
  | .Return (some v) .. => v
  | .If q .. => q
  | .For _ i .. => i
  | _ => .Constant .none 0 ⟨0, 0, 0, 0⟩
def blkS : Stmt → Nat → List Stmt
  | .If _ a b _, 0 => a
  | .If _ a b _, _ => b
  | .For _ _ b _ _, _ => b
  | .While _ b _ _, _ => b
  | .Try b _ _ _ _, _ => b
  | _, _ => []
def sAt (l : List Stmt) (k : Nat) : Stmt := l.getD k (.Pass ⟨0, 0, 0, 0⟩)
def eAt (l : List Expr) (k : Nat) : Expr := l.getD k (.Constant .none 0 ⟨0, 0, 0, 0⟩)
def kidE : Expr → Nat → Expr
  | .Call f _ _ _, 0 => f
  | .Call _ es _ _, k + 1 => eAt es k
  | .Compare l _ _ _, 0 => l
  | .Compare _ _ rs _, k + 1 => eAt rs k
  | .BoolOp _ es _, k => eAt es k
  | .UnaryOp _ e _, _ => e
  | .List es _, k => eAt es k
  | .Tuple es _ _, k => eAt es k
  | .Subscript v _ _, 0 => v
  | .Subscript _ i _, _ => i
  | .BinOp a _ _ _, 0 => a
  | .BinOp _ _ b _, _ => b
  | .IfExp q _ _ _, 0 => q
  | .IfExp _ a _ _, 1 => a
  | .IfExp _ _ b _, _ => b
  | _, _ => .Constant .none 0 ⟨0, 0, 0, 0⟩
def lamTx (x : Str) : Expr → LamTx
  | .Lambda ps b sc _ => ⟨x ++ ".<locals>." ++ "<lambda>", ps, b, sc⟩
  | _ => ⟨x, ⟨[], [], none, [], [], none, []⟩, .Constant .none 0 ⟨0, 0, 0, 0⟩, ⟨.function, [], false, false, []⟩⟩
section
variable [Tbs] {P : Program} {w : World} {K : PySem.W.Frag} {mg : Str → Option Value} {base : Heap}
structure MkT (x : Str) (T : Addr) : Prop where
  mem : (T, x ++ ".<locals>." ++ "<lambda>") ∈ Tbs.T
  un : ∀ p ∈ Tbs.T, p.1 = T → p.2 = x ++ ".<locals>." ++ "<lambda>"
theorem mkr_of {CX : CXT} {N : List Str} {x : Str} {sc : Scope} {f c T : Addr} {A : Around} {outer : List PySem.Env} {s : Shared} {H : Hp} {E : XK} (M : MkT x T) (B : LamX.TabB base mg c T) : Mkr (cxOf CX P w K mg base N x sc f (.ref c) A outer s H E) := ⟨c, T, B, rfl, M.mem, M.un⟩
theorem lam_takes {tx : LamTx} {tok : LTok} {N : List Str} {A : Around} {outer : List PySem.Env} {s : Shared} {H : Hp} {E : XK} {f c : Addr} : Takes (lamC P w K mg base tx tok N A outer s H E f c) (fun cls d _ H => E cls d H) := takes_of rfl rfl rfl rfl
def spLawT (K : PySem.W.Frag) (n : Nat) : Sp := fun vs H Q _ => ∃ (a : Addr) (ns : List Int), vs = [.ref a] ∧ ns.length ≤ n ∧ SqL K H a (ns.map V.int) ∧ LamX.Tabs Tbs.T H ∧ ∀ H', Q (.bl true) H'
theorem spLaw_imp {n : Nat} {g : List D → Res D} (hz : n ≤ sizeLine) (h : ∀ ns : List Int, ns.length ≤ n → g [.klst (ns.map D.int)] = .ok (.bl true)) (vs : List V) (H : Hp) (Q : VK) (E : XK) (q : spLawT K n vs H Q E) : spOf K mg 1 g vs H Q E := by
  obtain ⟨a, ns, e, hl, hs, t, q⟩ := q
  subst e
  refine ⟨rfl, clean H, [.klst (ns.map D.int)], ⟨clean_same H, clean_nt H, t⟩, .cons (.klst (clean_seq hs) (by rw [List.length_map]; omega) .ints) .nil, ?_⟩
  rw [h ns hl]
  intro F' H' v _ r
  cases r
  exact q H'
/-- the law's own def -/
theorem law_ofT {k n : Nat} {x p : Str} {st : Stmt} {N : List Str} {g : SDen} {fa : Addr} (A : At K mg x st) (hfa : mg x = some (.ref fa)) (Sc : FnScope N [p] (defScope st)) (hb : BindOk x st [p]) (hz : n ≤ sizeLine) (h : ∀ ns : List Int, ns.length ≤ n → runB g N.length [.klst (ns.map D.int)] = .ok (.bl true)) :
    ∃ fd : FuncData, (∀ (s : Shared) (u : Value), BindsTo s fd ⟨[u], []⟩ [(p, u)]) ∧ ∀ base : Heap, (∀ (f : Addr) (cdv : Value) (A : Around) (outer : List PySem.Env) (s : Shared) (H F : Hp) (E : XK), Room k (A.deeper (envOfC x (defScope st) s.heap.objs.size f cdv)) →
      ∀ {sm : St F H}, BJ (cxOf (L2.CX P w) P w K mg base N x (defScope st) f cdv A outer s H E) ⟨F, H, fun cls d _ H => E cls d H, sm⟩ (defBody st) g) → FnOk P w K mg base (L2.CX P w) (k + 1) fa fd [p] (spLawT K n) := by
  obtain ⟨f, fd, Fn, hm⟩ := A.ex
  rw [hm] at hfa
  obtain rfl : f = fa := by cases hfa; rfl
  obtain ⟨oc, od, kV, doc, pm, an, cdv, ct, osl, e, lk, hcd⟩ := Fn.ex
  exact ⟨fd, fun s u => .of_eq (by rw [e]; exact hb kV doc pm an cdv ct [u] rfl), fun base hbody => (fun_ok Fn Sc (hbody f)).imp (spLaw_imp hz h)⟩
/-- .. that makes lambdas itself -/
theorem law_ofTM {k n : Nat} {x p : Str} {st : Stmt} {N : List Str} {g : LTok → SDen} {fa c : Addr} (A : AtC K mg x st c) (hfa : mg x = some (.ref fa)) (Sc : FnScope N [p] (defScope st)) (hb : BindOk x st [p]) (hz : n ≤ sizeLine) (h : ∀ ns : List Int, ns.length ≤ n → (indep fun tok => runB (g tok) N.length [.klst (ns.map D.int)]) = .ok (.bl true)) :
    ∃ fd : FuncData, (∀ (s : Shared) (u : Value), BindsTo s fd ⟨[u], []⟩ [(p, u)]) ∧ ∀ base : Heap, (∀ (f : Addr) (A : Around) (outer : List PySem.Env) (s : Shared) (H F : Hp) (E : XK), Room k (A.deeper (envOfC x (defScope st) s.heap.objs.size f (.ref c))) →
      ∀ {sm : St F H}, BJ (cxOf (L2.CX P w) P w K mg base N x (defScope st) f (.ref c) A outer s H E) ⟨F, H, fun cls d _ H => E cls d H, sm⟩ (defBody st) (g (envOfC x (defScope st) s.heap.objs.size f (.ref c)).cells)) → FnOk P w K mg base (L2.CX P w) (k + 1) fa fd [p] (spLawT K n) := by
  obtain ⟨f, oc, od, kV, doc, pm, an, ct, osl, lk, hcd, hk, hm⟩ := A.ex
  rw [hm] at hfa
  obtain rfl : f = fa := by cases hfa; rfl
  refine ⟨_, fun s u => .of_eq (hb kV doc pm an (.ref c) ct [u] rfl), fun base hbody => ?_⟩
  refine FnOk.imp (sp := spOf K mg 1 (fun ds => indep fun tok => runB (g tok) N.length ds)) (fn_of lk hcd Sc (fun vs H Q E h => h.1) fun A outer s H vs Q E hr h => ?_) (spLaw_imp hz h)
  obtain ⟨hl, F, ds, sm, r, h⟩ := h
  refine ⟨_, pss_wp _, body_core sm (hbody f A outer s H F E hr) r ?_⟩
  simp only [] at h
  by_cases q : indep (fun tok => runB (g tok) N.length ds) = .stuck
  · rw [q] at h; exact h.elim
  · rw [indep_ok q (envOfC x (defScope st) s.heap.objs.size f (.ref c)).cells] at h; exact h
end
/-- a maker as it stands behind the top: its code object at c, its table at T -/
structure MkK (K : PySem.W.Frag) (mg : Str → Option Value) (ts : List Addr) (x : Str) (st : Stmt) (c T : Addr) : Prop where
  at_ : AtC K mg x st c
  hd : PySem.W.codeHdIn K c T = true
  no : K.lookup T = none
  mem : T ∈ ts
theorem mkK_mk {K : PySem.W.Frag} {h : Heap} {mg : Str → Option Value} {ts : List Addr} (X : K.In h) (G : h.Ns mainGlobals mg) {x : Str} {st : Stmt} {f c T : Addr} {oc : Value} {od an : Option Addr} {osl : Array (Option Value)} {kV doc pm ct : Value}
    (a : PySem.W.nsIn K mainGlobals x = some (some (.ref f))) (l : K.lookup f = some ⟨oc, od, .func (PySem.W.fnOf x x (defArgs st) (defBody st) (defScope st) .none kV doc pm an (.ref c) ct), osl⟩)
    (cd : PySem.W.codeIn K (.ref c) x = true) (k : PySem.W.keepIn K (.ref f) = true) {vs : Array Value} {oc2 : Value} {od2 : Option Addr} {sl2 : Array (Option Value)} (lc : K.lookup c = some ⟨oc2, od2, .fields vs, sl2⟩) (tb : vs[11]? = some (.ref T)) (hd : PySem.W.codeHdIn K c T = true) (no : K.lookup T = none) (mem : T ∈ ts) : MkK K mg ts x st c T :=
  ⟨⟨f, oc, od, kV, doc, pm, an, ct, osl, l, cd, k, PySem.W.mg_of X G a⟩, hd, no, mem⟩
/-- the law's promise, with tables: ms, the makers' code objects, tables and names -/
abbrev tabsOf (ms : List (Addr × Addr × Str)) : List (Addr × Str) := ms.map fun m => (m.2.1, m.2.2 ++ ".<locals>." ++ "<lambda>")
theorem mkT_of [Tbs] {ms : List (Addr × Addr × Str)} (hT : Tbs.T = tabsOf ms) (nd : (ms.map fun m => m.2.1).Nodup) {c t : Addr} {x : Str} (h : (c, t, x) ∈ ms) : MkT x t := by
  refine ⟨by rw [hT]; exact List.mem_map.mpr ⟨_, h, rfl⟩, fun p hp e => ?_⟩
  rw [hT] at hp
  obtain ⟨m, hm, rfl⟩ := List.mem_map.mp hp
  have key : m = (c, t, x) := by
    clear hp hT
    induction ms with
    | nil => cases h
    | cons a r ih =>
      rw [List.map_cons, List.nodup_cons] at nd
      rcases List.mem_cons.mp h with h1 | h1 <;> rcases List.mem_cons.mp hm with h2 | h2
      · rw [h1, h2]
      · exact absurd (List.mem_map.mpr ⟨m, h2, by rw [← h1]; exact e⟩) nd.1
      · exact absurd (List.mem_map.mpr ⟨_, h1, by rw [← h2]; exact e.symm⟩) nd.1
      · exact ih nd.2 h1 h2
  rw [key]
theorem use_ {a b : Prop} (h : a) (f : a → b) : b := f h
inductive MkAll (K : PySem.W.Frag) (mg : Str → Option Value) (ts : List Addr) : List (Str × Stmt) → List (Addr × Addr × Str) → Prop
  | nil : MkAll K mg ts [] []
  | cons {x : Str} {st : Stmt} {c t : Addr} {r : List (Str × Stmt)} {ms : List (Addr × Addr × Str)} : MkK K mg ts x st c t → MkAll K mg ts r ms → MkAll K mg ts ((x, st) :: r) ((c, t, x) :: ms)
theorem MkAll.facts {K : PySem.W.Frag} {mg : Str → Option Value} {ts : List Addr} : ∀ {sts : List (Str × Stmt)} {ms : List (Addr × Addr × Str)}, MkAll K mg ts sts ms → ∀ m ∈ ms, PySem.W.codeHdIn K m.1 m.2.1 = true ∧ K.lookup m.2.1 = none ∧ m.2.1 ∈ ts
  | _, _, .cons M A, m, h => by
    rcases List.mem_cons.mp h with rfl | h
    · exact ⟨M.hd, M.no, M.mem⟩
    · exact A.facts m h
theorem law_at {l : PySem.W.OpenLaw} {w : World} {K : PySem.W.Frag} {k n : Nat} {x : Str} {mg : Str → Option Value} {fa : Addr} {h : Heap} {ts : List Addr} (sts : List (Str × Stmt)) (Lm : Nat → LamTx) (X : K.In h) (hT : ∀ T ∈ ts, h.get? T = some (PySem.W.tabObj #[]))
    (E : ∃ ms, MkAll K mg ts sts ms ∧ (ms.map fun m => m.2.1).Nodup)
    (F : ∀ ms, MkAll K mg ts sts ms → (ms.map fun m => m.2.1).Nodup → ∀ [Tbs], Tbs.T = tabsOf ms → Tbs.L = Lm → ∃ fd : FuncData, (∀ (s : Shared) (u : Value), BindsTo s fd ⟨[u], []⟩ [(x, u)]) ∧ ∀ base : Heap, (∀ m ∈ ms, LamX.TabB base mg m.1 m.2.1) → FnOk l.prog w K mg base (L2.CX l.prog w) k fa fd [x] (spLawT K n)) :
    LamX.LawAtS l w K (L2.CX l.prog w) k n x mg fa h := by
  obtain ⟨ms, A, nd⟩ := E
  have hc := A.facts
  letI : Tbs := { T := tabsOf ms, L := Lm }
  obtain ⟨fd, hb, hF⟩ := F ms A nd rfl rfl
  refine ⟨fd, ms.map fun m => (m.1, m.2.1), _, fun p hp => ?_, fun p hp => ?_, fun p hp => ?_, hb, fun H a ns hl _ hH hS => ?_, fun base _ _ tb => hF base fun m hm => tb (m.1, m.2.1) (List.mem_map.mpr ⟨m, hm, rfl⟩)⟩
  · obtain ⟨m, hm, rfl⟩ := List.mem_map.mp hp; exact hT _ (hc m hm).2.2
  · obtain ⟨m, hm, rfl⟩ := List.mem_map.mp hp; exact (hc m hm).2.1
  · obtain ⟨m, hm, rfl⟩ := List.mem_map.mp hp; exact PySem.W.codeHd_of_K X (hc m hm).1
  · refine ⟨a, ns, rfl, hl, hS, fun p hp => ?_, fun _ => rfl⟩
    obtain ⟨m, hm, rfl⟩ := List.mem_map.mp hp
    exact LamX.TabS.nil (hH (m.1, m.2.1) (List.mem_map.mpr ⟨m, hm, rfl⟩))
end FV

set_option maxHeartbeats 4000000
/-! FVLC: a comprehension in whose block the maker's lambdas may be called: what is asked of the block is asked at the one state in which it was entered. -/
namespace FV
open PySem PySem.Spec PyProof.Rows L2
variable [Tbs]
/-- the tests of a clause, at these slots -/
def WpTs (B : Cx) (ifs : List Expr) (τ : L2.St) (M : Hp) (Q : Bool → Hp → Prop) : Prop := ∀ (pl : List (Addr × Obj)) (t : Shared), Inv B pl τ M t →
  wpAny (model B.prog B.w) B.A (forIn ifs true fun q r => if r = true then do let z ← isTrue q B.env (eval q B.env); pure (ForInStep.yield z) else pure (ForInStep.yield r)) (TP B pl τ Q) B.xe t
/-- what is asked of a block B entered with the new list at A: W by the turn and a measure -/
structure Walks (B : Cx) (J : It) (tg : Expr) (ifs : List Expr) (elt : Expr) (τ : L2.St) (vs : List Nat) (A : Addr) (W : Nat → Nat → Hp → Prop) (Qd : Hp → Prop) : Prop where
  turn : ∀ i m M, W i m M → (J.stop i M ∧ Qd M) ∨ (J.go i M ∧ ∃ Nx : Hp → Prop, (∀ M', Nx M' → ∃ m', m' < m ∧ W (i + 1) m' M') ∧ ∀ x M', J.yld i M x M' →
    WpG B tg x τ M' fun τ2 M2 => L2.wipe τ2 vs = τ ∧ WpTs B ifs τ2 M2 fun b M3 => if b = true then WpI B elt τ2 M3 fun y M4 => ∃ acc, M4 A = some (.lst acc) ∧ acc.length < sizeLine ∧ Nx (upd M4 A (.lst (acc ++ [y]))) else Nx M3)
section
variable {X : Cx} {pins : List (Addr × Obj)} {σ : L2.St} {s : Shared} {scope : Scope} {own : List (Str × Nat)} {elt tg iter : Expr} {ifs : List Expr} {pos : Pos}
/-- the iterator stays at its turn as long as its objects do -/
theorem still {P : Program} {w : World} {K : PySem.W.Frag} {J : It} {fp : List Addr} {it : Addr} {tn : Nat → Heap → Prop} (T : Turn P w K tg J fp it tn) {B : Cx} {τ : L2.St} {M : Hp} {i : Nat} {h : Heap} {t : Shared} (k : tn i h) (I : Inv B ([] ++ pinsAt fp h) τ M t) : tn i t.heap ∧ ∀ b ∈ fp, M b = none := by
  have st : ∀ b ∈ fp, ∀ o, h.get? b = some o → t.heap.get? b = some o ∧ M b = none := fun b hb o e => by
    obtain ⟨z1, z2, _⟩ := I.pin (b, o) (List.mem_append_right B.pn (List.mem_append_right [] (mem_pinsAt hb e)))
    exact ⟨z1, z2⟩
  exact ⟨T.keep _ _ _ k fun b hb o e => (st b hb o e).1, fun b hb => let ⟨o, e, _⟩ := T.obj _ _ k b hb; (st b hb o e).2⟩
/-- the whole loop of a block -/
theorem walk_blk {B : Cx} {J : It} {fp : List Addr} {it A : Addr} {tn : Nat → Heap → Prop} {τ : L2.St} {vs : List Nat} {W : Nat → Nat → Hp → Prop} {Qd : Hp → Prop} {R : Result → Shared → Prop} (hc : B.calm = true) (hx : B.xe = fun _ _ => False)
    (T : Turn B.prog B.w B.K tg J fp it tn) (L : Walks B J tg ifs elt τ vs A W Qd) (ok : ∀ (M : Hp) (b : Addr), b ∈ fp → M b = none → FpOk B [] M b) {m : Nat} {M : Hp} {t : Shared} (I : Inv B [] τ M t) (k : tn 0 t.heap) (hn : ∀ b ∈ fp, M b = none) (w : W 0 m M)
    (fin : ∀ M' t', Inv B [] τ M' t' → Qd M' → R (.ok .next) t') : codeAny (model B.prog B.w) B.A (.compLoop (.ListComp elt [⟨tg, iter, ifs, 0⟩] scope pos) 0 (.ref it) (.ref A) B.env) R t := by
  refine compLoop_any (fun n t' => ∃ i M', W i n M' ∧ tn i t'.heap ∧ (∀ b ∈ fp, M' b = none) ∧ Inv B [] τ M' t') ?_ m ⟨0, M, w, k, hn, I⟩
  rintro n t1 ⟨i, M1, w1, k1, n1, I1⟩
  have f1 : ∀ b ∈ fp, FpOk B [] M1 b := fun b hb => ok M1 b hb (n1 b hb)
  rcases L.turn i n M1 w1 with ⟨stop, qd⟩ | ⟨go, Nx, nx, body⟩
  · refine thnF (T.done B rfl rfl rfl hc i [] t1 τ M1 (fun _ _ => False) I1 f1 k1 stop) fun r t2 ⟨hr, I2⟩ => ?_
    cases hr
    exact fin M1 t2 I2 qd
  · refine thnF (T.item B rfl rfl rfl hc i [] t1 τ M1 (fun _ _ => False) I1 f1 k1 go) fun r t2 ⟨u, hr, h2⟩ => ?_
    cases hr
    refine thnF h2 fun _ t3 ⟨x, M3, I3, rx, y3, k3, n3⟩ => ?_
    have J3 := I3.pinned (fun b hb => ok M3 b hb (n3 b hb)) (T.obj _ _ k3)
    have a3 := body x M3 y3 _ t3 u J3 rx
    rw [hx] at a3
    refine thnF a3 fun _ t4 ⟨τ4, M4, I4, e4, h4⟩ => ?_
    have a4 := h4 _ t4 I4
    rw [hx] at a4
    -- back at the loop's head
    have back : ∀ {t' : Shared} {M' : Hp}, Inv B ([] ++ pinsAt fp t3.heap) τ4 M' t' → Nx M' → ∃ n', n' < n ∧ ∃ j M'', W j n' M'' ∧ tn j t'.heap ∧ (∀ b ∈ fp, M'' b = none) ∧ Inv B [] τ M'' t' := fun {t' M'} I' q => by
      obtain ⟨n', hlt, w'⟩ := nx M' q
      obtain ⟨z1, z2⟩ := still T k3 I'
      exact ⟨n', hlt, i + 1, M', w', z1, z2, (Inv.unpinned (pins := []) I').weak (by rw [← e4, wipe_length]) fun l v e => (wipe_some (by rw [← e4] at e; exact e)).1⟩
    refine thnF a4 fun z t5 ⟨M5, I5, q5⟩ => ?_
    cases z with
    | false => rw [if_neg Bool.false_ne_true] at q5 ⊢; exact back I5 q5
    | true =>
      rw [if_pos rfl] at q5 ⊢
      have a5 := q5.run _ t5 I5
      rw [hx] at a5
      exact thnF a5 fun _ t6 ⟨y, M6, I6, ry, acc, hA, hl, q6⟩ => app_ok (X := B) I6 hA hl ry fun t7 I7 => back I7 q6
/-- a comprehension, its block known -/
def KnownAt (X : Cx) (pins : List (Addr × Obj)) (σ : L2.St) (scope : Scope) (tg : Expr) (ifs : List Expr) (elt : Expr) (vs : List Nat) (J : It) (H1 : Hp) (Q : VK) : Prop := ∀ (A C : Addr) (cl : List (Str × Addr)) (fp : List Addr) (t : Shared), H1 A = none → Inv X pins σ (upd H1 A (.lst [])) t →
  (∀ b ∈ fp, ∃ o, t.heap.get? b = some o ∧ ∀ v, o.data ≠ .cell v) →
  ∃ W, Walks (Blk X scope t (upd H1 A (.lst [])) C cl fp) J tg ifs elt (L2.wipe σ vs) vs A W (fun H => Q (.ref A) H) ∧ ∃ m, W 0 m (upd H1 A (.lst []))
theorem known_comp {wi : TI} {H : Hp} {Q : VK} (hc : X.calm = true) (hN : X.N.Nodup) (I : Inv X pins σ H s) (hi : PI X tg iter wi) (ok : BlkOk X.N X.env.scope scope own) (hs : ∀ x, foldedSetIterable iter X.env x = pure x)
    (h : wi σ H fun J H1 => KnownAt X pins σ scope tg ifs elt (own.map (·.2)) J H1 Q) : wpAny (model X.prog X.w) X.A (eval (.ListComp elt [⟨tg, iter, ifs, 0⟩] scope pos) X.env) (EP X pins σ Q) X.xe s := by
  rw [eval_ListComp]
  have caps : ∀ y ∈ scope.names, y.2 = .free → ∃ a, X.env.cells.lookup y.1 = some a := fun y hy e => I.ok.has _ (ok.free y hy e)
  refine wpAny_comprehension_free (use := none) rfl hs (closure_ok caps) ok.kind (fun y hy e => (ok.uniq y hy).trans (congrArg some e)) (thn (hi.run pins s σ H _ I h) fun _ t1 k1 => thn k1 fun _ t2 k2 => ?_)
  obtain ⟨it, fp, tn, J, H2, rfl, I2, T, k2, f2, known⟩ := k2
  refine wpAny_newObj_type (newEnv_comp ?_) (by show 0 ≤ sizeLine; decide)
  obtain ⟨A, hA⟩ : ∃ A, A = t2.heap.objs.size := ⟨_, rfl⟩
  obtain ⟨t3, e3⟩ : ∃ t3 : Shared, t3 = { t2 with heap := t2.heap.push { cls := .type "list", data := .seq ([] : List Value).toArray } } := ⟨_, rfl⟩
  have h3 : t3.heap = t2.heap.push { cls := .type "list", data := .seq ([] : List Value).toArray } := by rw [e3]
  have grew : ∀ b o, t2.heap.get? b = some o → t3.heap.get? b = some o := fun b o e => by rw [h3]; exact Heap.get?_push_of_some _ e
  have nA : H2 A = none := I2.hok.fresh (Nat.le_of_eq hA.symm)
  have I3 : Inv X pins σ (upd H2 A (.lst [])) t3 := by
    rw [e3]
    refine I2.laid (t' := t2.toks) (fun b o e => Heap.get?_push_of_some _ e) (Nat.le_of_eq hA.symm) ⟨Nat.zero_le _, [], 0, .nil, ?_⟩
    rw [hA]
    exact Heap.get?_push_size _ rfl
  have young : ∀ b ∈ fp, FpOk X pins (upd H2 A (.lst [])) b ∧ b < t3.heap.objs.size := fun b hb => by
    obtain ⟨o, e, _⟩ := T.obj _ _ k2 b hb
    have lt := Heap.lt_size e
    refine ⟨⟨?_, (f2 b hb).2⟩, by rw [h3, Heap.size_push]; exact Nat.lt_succ_of_lt lt⟩
    rw [upd_ne (Nat.ne_of_lt (by rw [hA]; exact lt))]
    exact (f2 b hb).1
  have k3 : tn 0 t3.heap := T.keep _ _ _ k2 fun b _ o e => grew b o e
  have I4 := block_start I3 ok hN young
  obtain ⟨W, L, m, w0⟩ := known A t3.heap.objs.size (cellsFrom (t3.heap.objs.size + 1) scope.names (cloFrom X.env.cells scope.names [])) fp t3 nA I3 fun b hb => let ⟨o, e, z⟩ := T.obj _ _ k2 b hb; ⟨o, grew b o e, z⟩
  have fin : ∀ (E : Env) (hE : E.locals = t3.heap.objs.size) (M' : Hp) (t' : Shared), Inv (X.blk t3 (upd H2 A (.lst [])) scope E fp) [] (L2.wipe σ (own.map (·.2))) M' t' → Q (.ref A) M' → compPost (model X.prog X.w) X.A X.xe none (EP X pins σ Q) (.ref A) t3.heap.objs.size (.ok .next) t' := fun E hE M' t' I' q => by
    have I5 : Inv X pins σ M' t' := I3.call' (ch := fp) I'.os I'.base I'.hok I'.bare fun b hb => by
      obtain ⟨_, q1, q2, q3, q4, q5⟩ := (young b hb).1
      exact ⟨q3, q1, q4, q5⟩
    have nL : M' t3.heap.objs.size = none := by rw [← hE]; exact I'.free
    obtain ⟨mm, hn, _⟩ := I'.loc
    have hn : t'.heap.Ns E.locals mm := hn
    rw [hE] at hn
    refine ⟨mm, hn, fun h'' sb => ?_⟩
    obtain ⟨q0, q1, q2, q3, q4, q5⟩ := I3.fpOk (Nat.le_refl _) nL
    exact ⟨.ref A, M', I5.turned (t' := t'.toks) (fun b o hb e => (sb.2 b hb).trans e) q0 q1 q3 q4 q5, rfl, q⟩
  rw [← hA, ← e3]
  show codeAny _ _ (.compStart (.ListComp elt [⟨tg, iter, ifs, 0⟩] scope pos) 0 (.ref it) (.ref A) (compEnvC scope (cellsFrom (t3.heap.objs.size + 1) scope.names (cloFrom X.env.cells scope.names [])) t3.heap.objs.size X.env)) (compPost (model X.prog X.w) X.A X.xe none (EP X pins σ Q) (.ref A) t3.heap.objs.size) { t3 with heap := pushCells (t3.heap.push { cls := .type "dict", data := .dict #[] }) scope.names }
  have k4 : tn 0 (pushCells (t3.heap.push { cls := .type "dict", data := .dict #[] }) scope.names) := T.keep _ _ _ k3 fun b _ o e => pushCells_keeps _ _ _ _ (Heap.get?_push_of_some _ e)
  have hE : (compEnvC scope (cellsFrom (t3.heap.objs.size + 1) scope.names (cloFrom X.env.cells scope.names [])) t3.heap.objs.size X.env).locals = t3.heap.objs.size := rfl
  have fin' := fin _ hE
  have L : Walks (X.blk t3 (upd H2 A (.lst [])) scope (compEnvC scope (cellsFrom (t3.heap.objs.size + 1) scope.names (cloFrom X.env.cells scope.names [])) t3.heap.objs.size X.env) fp) J tg ifs elt (L2.wipe σ (own.map (·.2))) (own.map (·.2)) A W (fun H => Q (.ref A) H) := L
  generalize compEnvC scope (cellsFrom (t3.heap.objs.size + 1) scope.names (cloFrom X.env.cells scope.names [])) t3.heap.objs.size X.env = E at I4 L fin' ⊢
  have loop := walk_blk (iter := iter) (scope := scope) (pos := pos) (B := X.blk t3 (upd H2 A (.lst [])) scope E fp) hc rfl T L (fun M b hb hM => ⟨hM, (I4.ok.exf b hb).1, I4.ok.exfs b hb, .inl hb, fun x a e => (I4.ok.exf b hb).2 x a e, fun p hp => absurd (show p ∈ ([] : List (Addr × Obj)) ++ [] from hp) (by simp)⟩) I4 k4 (fun b hb => (young b hb).1.1) w0 fin'
  exact codeAny_compStart_list loop (T.self X.A 0 _ _ _ k4 loop)
end
/-! ### as a denotation -/
theorem LamOk.later {P : Program} {w : World} {K : PySem.W.Frag} {mg : Str → Option Value} {base : Heap} {s0 s1 : Shared} {H0 H1 F0 F1 : Hp} {k j : Nat} {tok : LTok} {g : List D → Res D} (h : LamOk P w K mg base s0 H0 F0 k j tok g) (u : UnC H0 H1 s0.heap s1.heap) (f : Same F0 F1) : LamOk P w K mg base s1 H1 F1 k j tok g :=
  ⟨fun A outer s H F a us vs ds Q E hr e0 un sf => h.run A outer s H F a us vs ds Q E hr e0 (u.join un) (f.trans sf)⟩
section
variable {X : Cx} {c : Cc} {scope : Scope} {own : List (Str × Nat)} {elt tg iter : Expr} {ifs : List Expr} {pos : Pos}
/-- in a block entered where lambdas may be called -/
theorem canX_blk {B : Cx} {cb : Cc} {k : Nat} {cl : Cl} (h : CanM B.prog B.w B.K B.mg B.base B.s_0 B.H_0 cb.F0 k cl) (nc : ∀ b ∈ B.ex, ∀ o, B.s_0.heap.get? b = some o → ∀ v, o.data ≠ .cell v) : CanX B cb k (fun _ => cl) := fun pins σ H s ρ F I S j tok =>
  (h j tok).later ⟨B.fs, B.ex, I.base, fun b hb _ => nc b hb⟩ S.g.f
def dCompM (f : DenI) (vs : List Nat) (T : Tg) (t : Cl → En → Res Bool) (g : Cl → Den) (clM : En → Cl) : Den := fun ρ => (f ρ).bind fun ds => if ds.length ≤ sizeLine then compR (compD T (t (clM ρ)) (g (clM ρ)) ds (wipeE (thaw ρ) vs)) else .stuck
abbrev ccB (F H : Hp) (st : St F H) : Cc := ⟨F, H, fun _ _ _ _ => False, st⟩
theorem eo_compM {kl : Nat} {clM : En → Cl} {f : DenI} {T : Tg} {t : Cl → En → Res Bool} {g : Cl → Den} (hX : CanX X c kl clM) (hc : X.calm = true) (hN : X.N.Nodup) (hi : IC X c tg iter f) (ok : BlkOk X.N X.env.scope scope own)
    (hg : ∀ s H C cl fp, GJ (Blk X scope s H C cl fp) tg T)
    (ht : ∀ (cl : Cl) (s : Shared) (H : Hp) (C : Addr) (cs : List (Str × Addr)) (fp : List Addr) (Fb Hb : Hp) (st : St Fb Hb), CanX (Blk X scope s H C cs fp) (ccB Fb Hb st) kl (fun _ => cl) → TsJ (Blk X scope s H C cs fp) (ccB Fb Hb st) ifs (t cl))
    (he : ∀ (cl : Cl) (s : Shared) (H : Hp) (C : Addr) (cs : List (Str × Addr)) (fp : List Addr) (Fb Hb : Hp) (st : St Fb Hb), CanX (Blk X scope s H C cs fp) (ccB Fb Hb st) kl (fun _ => cl) → EJ (Blk X scope s H C cs fp) (ccB Fb Hb st) elt (g cl))
    (hsl : ∀ i ∈ slotsOf T, i ∈ own.map (·.2)) (hs : ∀ x, foldedSetIterable iter X.env x = pure x := by intro _; rfl) : EO X c (.ListComp elt [⟨tg, iter, ifs, 0⟩] scope pos) (dCompM f (own.map (·.2)) T t g clM) := by
  obtain ⟨wi, pwi, qwi⟩ := hi.ok
  intro ρ σ F H Q S o
  refine ⟨fun pins s I => known_comp hc hN I pwi ok hs (qwi ρ σ F H _ S (o.seq fun ds F1 H1 J _ g1 it o1 => ?_))⟩
  intro A C cs fp u hA I3 nc
  generalize own.map (·.2) = vs at hsl o1 ⊢
  have S1 := S.grow g1
  have S3 : Sim X.K c.F0 c.H0 F1 (upd H1 A (.lst [])) ρ σ := S1.grow ((Grow.refl g1.fh).allocOwn hA)
  have cx : CanX (Blk X scope u (upd H1 A (.lst [])) C cs fp) (ccB F1 H1 S1.st) kl (fun _ => clM ρ) := canX_blk (hX pins σ (upd H1 A (.lst [])) u ρ F1 I3 S3) fun b hb o e => by
    obtain ⟨o', e', z⟩ := nc b hb
    have e : u.heap.get? b = some o := e
    rw [e'] at e
    cases e
    exact z
  have S0 : Sim X.K F1 H1 F1 H1 (thaw ρ) σ := lam_sim (F0 := F1) (ds := []) (vs := []) g1.fh (Same.refl F1) .nil S1.len S1.frz
  by_cases hz : ds.length ≤ sizeLine
  · rw [if_pos hz] at o1
    unfold compR at o1
    split at o1
    · rename_i ys ey
      have fA : F1 A = none := by
        cases q : F1 A with
        | none => rfl
        | some v => rw [g1.fh A v q] at hA; cases hA
      refine ⟨fun i m H' => m = ds.length - i ∧ i ≤ ds.length ∧ ∃ F' acc es rest, Grow F1 H1 F' H' ∧ H' A = some (.lst acc) ∧ F' A = none ∧ Reps X.K F' acc es ∧ acc.length ≤ i ∧ compD T (t (clM ρ)) (g (clM ρ)) (ds.drop i) (wipeE (thaw ρ) vs) = .ok rest ∧ es ++ rest = ys,
        ⟨?_⟩, ds.length, by simp, Nat.zero_le _, F1, [], [], ys, (Grow.refl g1.fh).allocOwn hA, upd_same, fA, .nil, Nat.le_refl _, by simpa using ey, rfl⟩
      rintro i m H' ⟨rfl, hi, F', acc, es, rest, g', hAc, hAf, hr, hl, ec, eys⟩
      have okH : Same F1 F' ∧ GH H1 H' := ⟨g'.f, g'.h⟩
      by_cases hlt : i < ds.length
      · refine .inr ⟨it.go i F' H' hlt okH g'.fh, fun H2 => ∃ F2 acc es rest, Grow F1 H1 F2 H2 ∧ H2 A = some (.lst acc) ∧ F2 A = none ∧ Reps X.K F2 acc es ∧ acc.length ≤ i + 1 ∧ compD T (t (clM ρ)) (g (clM ρ)) (ds.drop (i + 1)) (wipeE (thaw ρ) vs) = .ok rest ∧ es ++ rest = ys,
          fun H2 h => ⟨ds.length - (i + 1), by omega, rfl, hlt, h⟩, fun x H2 y => ?_⟩
        have ed : ds[i]? = some ds[i] := by simp [hlt]
        obtain ⟨F2, g2, r2⟩ := it.yld i ds[i] F' H' x H2 ed okH g'.fh y
        rw [List.drop_eq_getElem_cons hlt] at ec
        unfold compD at ec
        obtain ⟨ρ1, e1, ec⟩ := bind_ok ec
        obtain ⟨b, e2, ec⟩ := bind_ok ec
        have gg := g'.trans g2
        have Sw : Sim X.K F1 H1 F2 H2 (wipeE (thaw ρ) vs) (L2.wipe σ vs) := (S0.grow gg).wipe vs
        refine gj_asg (c := ccB F1 H1 S1.st) (hg u (upd H1 A (.lst [])) C cs fp) Sw r2 e1 fun σ' S' hw => ⟨?_, fun pl t4 I4 => ?_⟩
        · obtain ⟨w, rfl⟩ := hw
          exact wipe_asg hsl
        · refine ht (clM ρ) u _ C cs fp F1 H1 S1.st cx ρ1 σ' F2 H2 _ S' ?_ pl t4 I4
          rw [e2]
          intro F3 H3 v g3 hv
          subst hv
          have S3' := S'.grow g3
          have A3 : H3 A = some (.lst acc) := g3.h.k _ _ (g2.h.k _ _ hAc)
          have f2 : F2 A = none := g2.new A _ hAc hAf True.intro
          have f3 : F3 A = none := g3.new A _ (g2.h.k _ _ hAc) f2 True.intro
          cases v with
          | false =>
            rw [if_neg Bool.false_ne_true] at ec ⊢
            exact ⟨F3, acc, es, rest, gg.trans g3, A3, f3, hr.mono (g2.f.trans g3.f), by omega, ec, eys⟩
          | true =>
            rw [if_pos rfl] at ec ⊢
            obtain ⟨yv, e3, ec⟩ := bind_ok ec
            obtain ⟨rest', e4, ec⟩ := bind_ok ec
            cases ec
            refine he (clM ρ) u _ C cs fp F1 H1 S1.st cx ρ1 σ' F3 H3 _ S3' ?_
            rw [e3]
            intro F4 H4 v4 g4 r4
            have A4 : H4 A = some (.lst acc) := g4.h.k _ _ A3
            have f4 : F4 A = none := g4.new A _ A3 f3 True.intro
            refine ⟨acc, A4, by omega, F4, acc ++ [v4], es ++ [yv], rest', ?_, upd_same, f4, (hr.mono ((g2.f.trans g3.f).trans g4.f)).append (.cons r4 .nil), by rw [List.length_append, List.length_singleton]; omega, e4, by rw [List.append_assoc]; exact eys⟩
            have g5 := (gg.trans g3).trans g4
            refine ⟨g5.f, g5.h.mut (frN_none hA) A4, fun b o q => ?_, g5.new, g5.nt⟩
            rw [upd_ne (ne_of_none q f4)]
            exact g5.fh _ _ q
      · have e : i = ds.length := by omega
        subst e
        rw [List.drop_length] at ec
        cases ec
        rw [List.append_nil] at eys
        subst eys
        refine .inl ⟨it.stop _ F' H' (Nat.le_refl _) okH g'.fh, o1 F' H' _ g' ⟨A, acc, es, rfl, rfl, hAc, hAf, g1.h.free hA, by omega, hr⟩⟩
    · exact o1.elim
  · rw [if_neg hz] at o1; exact o1.elim
end
end FV

/-! ## the walk of the linked text (printed by gen.py) -/
namespace Walk
open PySem PySem.Spec PyProof.Rows L2 FV FVP
set_option maxHeartbeats 4000000
noncomputable section
abbrev xsE : List Str := ["NoPart"]
def s__law_word : SDen :=
  (bSeq (sSetO 1 (dLst (aCons (dUn (isXD xsE ["NoPart"]) (dVarR 0)) (aCons (dUn (isXD xsE []) (dVarR 0)) (aCons (dUn (isXD xsE []) (dVarR 0)) aNil)))))
  (bSeq (sSetO 1 (dBin catD (dVarR 1) (dLst (aCons (dUn (isXD xsE []) (dVarR 0)) (aCons (dUn (isXD xsE []) (dVarR 0)) (aCons (dUn (isXD xsE []) (dVarR 0)) aNil))))))
  (bSeq (sSetO 1 (dBin catD (dVarR 1) (dLst (aCons (dUn (isXD xsE []) (dVarR 0)) (aCons (dUn (isXD xsE []) (dVarR 0)) (aCons (dUn (isXD xsE []) (dVarR 0)) aNil))))))
  (bSeq (sSetO 1 (dBin catD (dVarR 1) (dLst (aCons (dUn (isXD xsE []) (dVarR 0)) (aCons (dUn (isXD xsE []) (dVarR 0)) (aCons (dUn (isXD xsE []) (dVarR 0)) aNil))))))
  (bSeq (sApp 1 (dUn (isXD xsE []) (dVarR 0)))
  (bSeq (sIf (tOrB (tVal (dBin neD (dLM cntK (dVarR 1) (dC (.bl true))) (dC (.int 1)))) (tNotB (tVal (dUn (isXD xsE ["NoPart"]) (dVarR 0)))))
  (sRet (dC (.str "other")))
  bNil)
  (bSeq (sSet 2 (dLst (aCons (dC (.str "part")) (aCons (dC (.str "line")) (aCons (dC (.str "place")) (aCons (dC (.str "nought")) (aCons (dC (.str "charter")) (aCons (dC (.str "taken")) (aCons (dC (.str "let")) (aCons (dC (.str "people")) (aCons (dC (.str "year")) aNil)))))))))))
  (sRet (dBin ixD (dBin addD (dVarR 2) (dLst (aCons (dC (.str "deed")) (aCons (dC (.str "now")) (aCons (dC (.str "many")) (aCons (dC (.str "text")) aNil)))))) (dLM idxK (dVarR 1) (dC (.bl true))))))))))))
def d__law_word : List D → Res D := runB s__law_word 3
def s__law_refused (cl : Cl) : SDen :=
  (bSeq (sSet 1 (dC .non))
  (bSeq (sTryK 2 1 xsE
  (sExpr (dCallC 0 cl aNil)))
  (sRet (dIf (tVal (dBin isD (dVarR 1) (dC .non))) (dC (.str "")) (dCall d__law_word (aCons (dVar 1) aNil))))))
def d__law_refused : Cl → List D → Res D := fun cl => runB (s__law_refused cl) 3
def s__law_whole : SDen :=
  (sRet (dAnd (dUn (isiD "int") (dVarR 0)) (dUn notD (dUn (isiD "bool") (dVarR 0)))))
def d__law_whole : List D → Res D := runB s__law_whole 1
def s__law_is_part : SDen :=
  (bSeq (sIf (tOrB (tNotB (tVal (dUn (isiD "tuple") (dVarR 0)))) (tOrB (tVal (dBin neD (dCall lenD (aCons (dVarR 0) aNil)) (dC (.int 2)))) (tNotB (tVal (dCall d__law_whole (aCons (dBin ixD (dVarR 0) (dC (.int 0))) aNil))))))
  (sRet (dC (.bl false)))
  bNil)
  (bSeq (sIf (tNotB (tVal (dCall d__law_whole (aCons (dBin ixD (dVarR 0) (dC (.int 1))) aNil))))
  (sRet (dC (.bl false)))
  bNil)
  (sRet (dAnd (dBin gtD (dBin ixD (dVarR 0) (dC (.int 1))) (dC (.int 0))) (dBin eqD (dCall d__law_lowest (aCons (dBin ixD (dVarR 0) (dC (.int 0))) (aCons (dBin ixD (dVarR 0) (dC (.int 1))) aNil))) (dVarR 0))))))
def d__law_is_part : List D → Res D := runB s__law_is_part 1
def s__law_odd : SDen :=
  (bSeq (sSet 3 (dLst (aCons (dC .non) (aCons (dC (.bl true)) (aCons (dC (.bl false)) (aCons (dC (.str "1")) (aCons (dC (.str "")) (aCons (dTup (aCons (dC (.int 1)) (aCons (dC (.int 2)) aNil))) (aCons (dLst (aCons (dC (.int 1)) aNil)) (aCons (dC .dic0) (aCons (dTup (aCons (dVar 1) aNil)) (aCons (dTup (aCons (dVar 1) (aCons (dVar 2) (aCons (dC (.int 1)) aNil)))) (aCons (dLst (aCons (dVar 1) (aCons (dVar 2) aNil))) aNil)))))))))))))
  (bSeq (sSet 3 (dBin addD (dVarR 3) (dLst (aCons (dTup (aCons (dVar 1) (aCons (dC (.int 0)) aNil))) (aCons (dTup (aCons (dC (.int 0)) (aCons (dC (.int 0)) aNil))) (aCons (dTup (aCons (dVar 1) (aCons (dUn negD (dVarR 2)) aNil))) (aCons (dTup (aCons (dC (.bl true)) (aCons (dC (.int 1)) aNil))) (aCons (dTup (aCons (dC (.int 1)) (aCons (dC (.bl true)) aNil))) (aCons (dTup (aCons (dC (.str "1")) (aCons (dC (.int 2)) aNil))) (aCons (dTup (aCons (dC .non) (aCons (dC (.int 1)) aNil))) aNil))))))))))
  (sRet (dBin ixD (dBin addD (dVarR 3) (dLst (aCons (dTup (aCons (dTup (aCons (dC (.int 1)) (aCons (dC (.int 2)) aNil))) (aCons (dC (.int 1)) aNil))) (aCons (dTup (aCons (dC (.int 0)) (aCons (dVar 2) aNil))) (aCons (dTup (aCons (dBin mulD (dC (.int 2)) (dVarR 1)) (aCons (dBin mulD (dC (.int 2)) (dVarR 2)) aNil))) aNil))))) (dBin modD (dVarR 0) (dC (.int 21)))))))
def d__law_odd : List D → Res D := runB s__law_odd 4
def s__law_told_l1 : SDen :=
  (sIf (tOrB (tNotB (tVal (dUn (isiD "bool") (dVarR 1)))) (tVal (dBin neD (dVarR 1) (dVarR 2))))
    (sRet (dC (.bl false)))
    bNil)
def s__law_told : SDen :=
  (bSeq (sFor (iSeq (dLst (aCons (dTup (aCons (dCall d_is_whole (aCons (dVar 0) aNil)) (aCons (dCall d__law_whole (aCons (dVar 0) aNil)) aNil))) (aCons (dTup (aCons (dCall d_is_part (aCons (dVar 0) aNil)) (aCons (dCall d__law_is_part (aCons (dVar 0) aNil)) aNil))) aNil)))) (.tp [1, 2]) s__law_told_l1)
  (sRet (dC (.bl true))))
def d__law_told : List D → Res D := runB s__law_told 3
def lb_law_0 (cl : Cl) : Den :=
  (dCall d_part_1 (aCons (dVar 6) aNil))
def c_law_0 (tok : LTok) (ρ : En) : Cl := clCons 0 tok 0 (lb_law_0 (clNil)) ρ (clNil)
def lb_law_1 (cl : Cl) : Den :=
  (dCall d_part_2 (aCons (dVar 8) (aCons (dVar 6) aNil)))
def c_law_1 (tok : LTok) (ρ : En) : Cl := clCons 1 tok 0 (lb_law_1 (c_law_0 tok ρ)) ρ (c_law_0 tok ρ)
def lb_law_2 (cl : Cl) : Den :=
  (dCall d_part_2 (aCons (dVar 6) (aCons (dVar 9) aNil)))
def c_law_2 (tok : LTok) (ρ : En) : Cl := clCons 2 tok 0 (lb_law_2 (c_law_1 tok ρ)) ρ (c_law_1 tok ρ)
def lb_law_3 (cl : Cl) : Den :=
  (dCall d_part_2 (aCons (dVar 8) (aCons (dC (.int 0)) aNil)))
def c_law_3 (tok : LTok) (ρ : En) : Cl := clCons 3 tok 0 (lb_law_3 (c_law_2 tok ρ)) ρ (c_law_2 tok ρ)
def c_law (tok : LTok) (ρ : En) : Cl := c_law_3 tok ρ
def s_law_l1 (tok : LTok) : SDen :=
  (bSeq (sSet 2 (dCall d__law_cell_at_k04 (aCons (dVar 0) (aCons (dVar 1) aNil))))
    (bSeq (sAsg (.tp [8, 9]) (dCall d__law_pair (aCons (dVar 2) (aCons (dC (.int 1)) aNil))))
    (bSeq (sSet 3 (dBin addD (dC (.int 1)) (dCall d__law_number (aCons (dVar 2) (aCons (dC (.int 40)) (aCons (dBin ixD (dLst (aCons (dC (.int 1)) (aCons (dC (.int 10)) (aCons (dBin powD (dC (.int 10)) (dC (.int 30))) aNil)))) (dBin modD (dVarR 2) (dC (.int 3)))) aNil))))))
    (bSeq (sSet 4 (dBin mulD (dBin ixD (dLst (aCons (dVar 9) (aCons (dUn negD (dVarR 9)) aNil))) (dBin modD (dBin fdivD (dVarR 2) (dC (.int 3))) (dC (.int 2)))) (dVarR 3)))
    (bSeq (sSet 5 (dCall d__law_lowest (aCons (dVar 8) (aCons (dVar 9) aNil))))
    (bSeq (sIf (tVal (dBin ltD (dVarR 4) (dC (.int 0))))
    (sSet 5 (dTup (aCons (dUn negD (dBin ixD (dVarR 5) (dC (.int 0)))) (aCons (dBin ixD (dVarR 5) (dC (.int 1))) aNil))))
    bNil)
    (bSeq (sIf (tOrB (tNotB (tVal (dCall d__law_is (aCons (dCall d_part_2 (aCons (dBin mulD (dVarR 8) (dVarR 3)) (aCons (dVar 4) aNil))) (aCons (dVar 5) aNil))))) (tNotB (tVal (dCall d__law_is (aCons (dCall d_part_1 (aCons (dVar 8) aNil)) (aCons (dTup (aCons (dVar 8) (aCons (dC (.int 1)) aNil))) aNil))))))
    (sRet (dC (.bl false)))
    bNil)
    (bSeq (sIf (tNotB (tVal (dCall d__law_is (aCons (dCall d_part_2 (aCons (dC (.int 0)) (aCons (dVar 4) aNil))) (aCons (dTup (aCons (dC (.int 0)) (aCons (dC (.int 1)) aNil))) aNil)))))
    (sRet (dC (.bl false)))
    bNil)
    (bSeq (sSet 6 (dCall d__law_odd (aCons (dBin fdivD (dVarR 2) (dC (.int 6))) (aCons (dVar 8) (aCons (dVar 9) aNil)))))
    (bSeq (sIf (tVal (dBin neD (dComp (iSeq (dLst (aCons (dVar 6) (aCons (dVar 8) (aCons (dTup (aCons (dVar 8) (aCons (dVar 9) aNil))) (aCons (dVar 5) aNil)))))) [10] (.nm 10) (tNotB (tVal (dCall d__law_told (aCons (dVar 10) aNil)))) (dVar 10)) (dLst aNil)))
    (sRet (dC (.bl false)))
    bNil)
    (bSeq (sSetO 7 (dLst (aCons (dC (.lam 0 tok)) aNil)))
    (bSeq (sApp 7 (dC (.lam 1 tok)))
    (bSeq (sApp 7 (dC (.lam 2 tok)))
    (bSeq (sApp 7 (dC (.lam 3 tok)))
    (sIf (tVal (dBin neD (dCompM (iSeq (dVarR 7)) [11] (.nm 11) (fun cl => (tVal (dBin neD (dCallM d__law_refused (fun _ => cl) (aCons (dVar 11) aNil)) (dC (.str "part"))))) (fun cl => (dVar 11)) (c_law tok)) (dLst aNil)))
    (sRet (dC (.bl false)))
    bNil)))))))))))))))
def s_law (tok : LTok) : SDen :=
  (bSeq (sFor (iRng (aCons (dCall max2D (aCons (dC (.int 1)) (aCons (dCall min2D (aCons (dCall lenD (aCons (dVarR 0) aNil)) (aCons (dC (.int 50)) aNil))) aNil))) aNil)) (.nm 1) (s_law_l1 tok))
  (sRet (dC (.bl true))))
def d_law : List D → Res D := fun ds => indep fun tok => runB (s_law tok) 12 ds
end
end Walk

namespace Walk
open PySem PySem.Spec PyProof.Rows L2 FV FVP
set_option maxHeartbeats 4000000
noncomputable section
def topS (i : Nat) : Stmt := PySem.Challenge.pw_levyhouse_k01_parts_made.main.body.getD i (.Pass ⟨0, 0, 0, 0⟩)
abbrev st_common : Stmt := topS 17
abbrev N_common : List Str := ["one", "other"]
abbrev st_is_whole : Stmt := topS 16
abbrev N_is_whole : List Str := ["thing"]
abbrev st_part : Stmt := topS 19
abbrev N_part : List Str := ["up", "under", "by"]
abbrev st_is_part : Stmt := topS 18
abbrev N_is_part : List Str := ["thing"]
abbrev st__law_mixed : Stmt := topS 21
abbrev N__law_mixed : List Str := ["_law_cell", "_law_k", "_law_number_here"]
abbrev st__law_cell_at : Stmt := topS 22
abbrev N__law_cell_at : List Str := ["_law_script", "_law_k"]
abbrev st__law_number : Stmt := topS 23
abbrev N__law_number : List Str := ["_law_cell", "_law_k", "_law_size", "_law_found", "_law_j"]
abbrev st__law_pair : Stmt := topS 24
abbrev N__law_pair : List Str := ["_law_cell", "_law_k", "_law_size", "_law_up", "_law_under"]
abbrev st__law_lowest : Stmt := topS 25
abbrev N__law_lowest : List Str := ["_law_up", "_law_under", "_law_one", "_law_other"]
abbrev st__law_is : Stmt := topS 26
abbrev N__law_is : List Str := ["_law_found", "_law_due", "_law_number_here"]
abbrev st__law_word : Stmt := topS 27
abbrev N__law_word : List Str := ["_law_e", "_law_some", "_law_names"]
abbrev st__law_refused : Stmt := topS 28
abbrev N__law_refused : List Str := ["_law_work", "_law_refused_here", "_law_e"]
abbrev st__law_whole : Stmt := topS 29
abbrev N__law_whole : List Str := ["_law_thing"]
abbrev st__law_is_part : Stmt := topS 30
abbrev N__law_is_part : List Str := ["_law_thing"]
abbrev st__law_odd : Stmt := topS 31
abbrev N__law_odd : List Str := ["_law_cell", "_law_up", "_law_under", "_law_some"]
abbrev st__law_told : Stmt := topS 32
abbrev N__law_told : List Str := ["_law_thing", "_law_found", "_law_due"]
abbrev st_law : Stmt := topS 33
abbrev N_law : List Str := ["_law_script", "_law_k", "_law_cell", "_law_more", "_law_signed", "_law_due", "_law_odd_here", "_law_works", "_law_up", "_law_under", "_law_thing", "_law_work"]
section
variable [Tbs]
structure Txt (K : PySem.W.Frag) (mg : Str → Option Value) : Prop where
  a_common : At K mg "common" st_common
  a_is_whole : At K mg "is_whole" st_is_whole
  a_part : AtD K mg "part" st_part [.int 1]
  a_is_part : At K mg "is_part" st_is_part
  a__law_mixed : At K mg "_law_mixed" st__law_mixed
  a__law_cell_at : At K mg "_law_cell_at" st__law_cell_at
  a__law_number : At K mg "_law_number" st__law_number
  a__law_pair : At K mg "_law_pair" st__law_pair
  a__law_lowest : At K mg "_law_lowest" st__law_lowest
  a__law_is : At K mg "_law_is" st__law_is
  a__law_word : At K mg "_law_word" st__law_word
  a__law_refused : At K mg "_law_refused" st__law_refused
  a__law_whole : At K mg "_law_whole" st__law_whole
  a__law_is_part : At K mg "_law_is_part" st__law_is_part
  a__law_odd : At K mg "_law_odd" st__law_odd
  a__law_told : At K mg "_law_told" st__law_told
  z_ValueError : mg "ValueError" = none
  z_abs : mg "abs" = none
  z_bool : mg "bool" = none
  z_int : mg "int" = none
  z_isinstance : mg "isinstance" = none
  z_len : mg "len" = none
  z_max : mg "max" = none
  z_min : mg "min" = none
  z_range : mg "range" = none
  z_tuple : mg "tuple" = none
  e_all : Excs K xsE
  i_BelowNought : IsO K mg "BelowNought" [] xsE
  i_NoCharter : IsO K mg "NoCharter" [] xsE
  i_NoDeed : IsO K mg "NoDeed" [] xsE
  i_NoLet : IsO K mg "NoLet" [] xsE
  i_NoLine : IsO K mg "NoLine" [] xsE
  i_NoPart : IsO K mg "NoPart" ["NoPart"] xsE
  i_NoPeople : IsO K mg "NoPeople" [] xsE
  i_NoPlace : IsO K mg "NoPlace" [] xsE
  i_NoTaken : IsO K mg "NoTaken" [] xsE
  i_NoText : IsO K mg "NoText" [] xsE
  i_NoYear : IsO K mg "NoYear" [] xsE
  i_NotNow : IsO K mg "NotNow" [] xsE
  i_TooMany : IsO K mg "TooMany" [] xsE
  k_ValueError : Kits K (.type "ValueError") ["NoPart"] xsE
  t_LevyError : ClD K mg "LevyError" xsE
  x_NoPart : ExD K mg "NoPart"
end
def ltx_0 : LamTx := lamTx "law" (kidE (valS (sAt (blkS (sAt (defBody st_law) 0) 0) 10)) 0)
def ltx_1 : LamTx := lamTx "law" (kidE (valS (sAt (blkS (sAt (defBody st_law) 0) 0) 11)) 1)
def ltx_2 : LamTx := lamTx "law" (kidE (valS (sAt (blkS (sAt (defBody st_law) 0) 0) 12)) 1)
def ltx_3 : LamTx := lamTx "law" (kidE (valS (sAt (blkS (sAt (defBody st_law) 0) 0) 13)) 1)
def lamTab : Nat → LamTx
  | 0 => ltx_0
  | 1 => ltx_1
  | 2 => ltx_2
  | 3 => ltx_3
  | _ => ltx_0
structure Lams (K : PySem.W.Frag) (mg : Str → Option Value) (cc_law tt_law : Addr) [Tbs] : Prop where
  a_law : AtC K mg "law" st_law cc_law
  m_law : MkT "law" tt_law
  l_0 : Tbs.L 0 = ltx_0
  l_1 : Tbs.L 1 = ltx_1
  l_2 : Tbs.L 2 = ltx_2
  l_3 : Tbs.L 3 = ltx_3
section
variable [Tbs] {cc_law tt_law : Addr}
variable {BB : Heap → Prop}
section
variable {P : Program} {w : World} {K : PySem.W.Frag} {mg : Str → Option Value} {base : Heap}
theorem sc_common : FnScope N_common ["one", "other"] (defScope st_common) := ⟨rfl, rfl, rfl, by decide +kernel, rfl, by decide +kernel, by decide +kernel⟩
theorem b_common : BindOk "common" st_common ["one", "other"] := fun _ _ _ _ _ _ us hl => match us, hl with | [_, _], _ => rfl
theorem ok_common (T : Txt K mg) : FnD P w K mg base 1 "common" 2 d_common := fnd_of T.a_common sc_common b_common rfl fun f cdv A outer s H F E hr => have hN := sc_common.nd; have tk := cx_takes (P := P) (w := w) (K := K) (mg := mg) (base := base) (N := N_common) (x := "common") (sc := defScope st_common) (f := f) (cdv := cdv) (A := A) (outer := outer) (s := s) (H := H) (E := E); have hp := cx_passes (P := P) (w := w) (K := K) (mg := mg) (base := base) (N := N_common) (x := "common") (sc := defScope st_common) (f := f) (cdv := cdv) (A := A) (outer := outer) (s := s) (H := H) (E := E);
  (bj_cons (sj_while hp (tj_cmp gt_op cmp_nx (er_var 1) ej_int.er)
  (bj_one (sj_par 0 1 (ej_var 1) (ej_bin mod_op mod_nx (er_var 0) (er_var 1)) rfl hN)))
  (bj_one (sj_ret (ej_var 0))))
theorem sc_is_whole : FnScope N_is_whole ["thing"] (defScope st_is_whole) := ⟨rfl, rfl, rfl, by decide +kernel, rfl, by decide +kernel, by decide +kernel⟩
theorem b_is_whole : BindOk "is_whole" st_is_whole ["thing"] := fun _ _ _ _ _ _ us hl => match us, hl with | [_], _ => rfl
theorem ok_is_whole (T : Txt K mg) : FnD P w K mg base 1 "is_whole" 1 d_is_whole := fnd_of T.a_is_whole sc_is_whole b_is_whole rfl fun f cdv A outer s H F E hr => have hN := sc_is_whole.nd; have tk := cx_takes (P := P) (w := w) (K := K) (mg := mg) (base := base) (N := N_is_whole) (x := "is_whole") (sc := defScope st_is_whole) (f := f) (cdv := cdv) (A := A) (outer := outer) (s := s) (H := H) (E := E); have hp := cx_passes (P := P) (w := w) (K := K) (mg := mg) (base := base) (N := N_is_whole) (x := "is_whole") (sc := defScope st_is_whole) (f := f) (cdv := cdv) (A := A) (outer := outer) (s := s) (H := H) (E := E);
  (bj_one (sj_ret (ej_and (ej_isi "int" (er_var 0) T.z_isinstance T.z_int).er (ej_one (ej_not (ej_isi "bool" (er_var 0) T.z_isinstance T.z_bool).er)))))
theorem sc_part : FnScope N_part ["up", "under"] (defScope st_part) := ⟨rfl, rfl, rfl, by decide +kernel, rfl, by decide +kernel, by decide +kernel⟩
theorem b_part_1 : BindOkD "part" st_part ["up", "under"] 1 1 0 := fun _ _ _ _ _ _ _ us its h1 h2 => match us, h1, its, h2 with | [_], _, [_], _ => ⟨_, rfl, rfl⟩
theorem b_part_2 : BindOkD "part" st_part ["up", "under"] 1 2 1 := fun _ _ _ _ _ _ _ us its h1 h2 => match us, h1, its, h2 with | [_, _], _, [_], _ => ⟨_, rfl, rfl⟩
theorem ok_part_1 (T : Txt K mg) (h_common : FnD P w K mg base 1 "common" 2 d_common) (h_is_whole : FnD P w K mg base 1 "is_whole" 1 d_is_whole) : FnD P w K mg base 2 "part" 1 d_part_1 := fnd_ofD T.a_part sc_part (by simp) b_part_1 rfl (fun _ => (.cons (.int 1) .nil)) fun f cdv A outer s H F E hr => have hN := sc_part.nd; have tk := cx_takes (P := P) (w := w) (K := K) (mg := mg) (base := base) (N := N_part) (x := "part") (sc := defScope st_part) (f := f) (cdv := cdv) (A := A) (outer := outer) (s := s) (H := H) (E := E); have hp := cx_passes (P := P) (w := w) (K := K) (mg := mg) (base := base) (N := N_part) (x := "part") (sc := defScope st_part) (f := f) (cdv := cdv) (A := A) (outer := outer) (s := s) (H := H) (E := E);
  (bj_cons (sj_if (tw_tj (tw_or (tj_not (tj_val (ej_call h_is_whole (hr.mono (by decide)) tk (aj_cons (ej_var 0) aj_nil)).er)) (tw_or (tj_not (tj_val (ej_call h_is_whole (hr.mono (by decide)) tk (aj_cons (ej_var 1) aj_nil)).er)) (tw_or1 (tj_cmp (eq_op (room_u hr)) eq_nx (er_var 1) ej_int.er)))))
  (bj_one (sj_raise tk T.x_NoPart))
  bj_nil)
  (bj_cons (sj_set 2 (ej_call h_common (hr.mono (by decide)) tk (aj_cons (ej_callB abs_ok abs_nx T.z_abs (ar_cons (er_var 0) ar_nil)) (aj_cons (ej_callB abs_ok abs_nx T.z_abs (ar_cons (er_var 1) ar_nil)) aj_nil))) hN)
  (bj_cons (sj_if (tj_cmp lt_op cmp_nx (er_var 1) ej_int.er)
  (bj_one (sj_set 2 (ej_neg (er_var 2)) hN))
  bj_nil)
  (bj_one (sj_ret (ej_tup (aj_cons (ej_bin fdiv_op fdiv_nx (er_var 0) (er_var 2)) (aj_cons (ej_bin fdiv_op fdiv_nx (er_var 1) (er_var 2)) aj_nil))))))))
theorem ok_part_2 (T : Txt K mg) (h_common : FnD P w K mg base 1 "common" 2 d_common) (h_is_whole : FnD P w K mg base 1 "is_whole" 1 d_is_whole) : FnD P w K mg base 2 "part" 2 d_part_2 := fnd_ofD0 T.a_part sc_part (by simp) b_part_2 rfl rfl fun f cdv A outer s H F E hr => have hN := sc_part.nd; have tk := cx_takes (P := P) (w := w) (K := K) (mg := mg) (base := base) (N := N_part) (x := "part") (sc := defScope st_part) (f := f) (cdv := cdv) (A := A) (outer := outer) (s := s) (H := H) (E := E); have hp := cx_passes (P := P) (w := w) (K := K) (mg := mg) (base := base) (N := N_part) (x := "part") (sc := defScope st_part) (f := f) (cdv := cdv) (A := A) (outer := outer) (s := s) (H := H) (E := E);
  (bj_cons (sj_if (tw_tj (tw_or (tj_not (tj_val (ej_call h_is_whole (hr.mono (by decide)) tk (aj_cons (ej_var 0) aj_nil)).er)) (tw_or (tj_not (tj_val (ej_call h_is_whole (hr.mono (by decide)) tk (aj_cons (ej_var 1) aj_nil)).er)) (tw_or1 (tj_cmp (eq_op (room_u hr)) eq_nx (er_var 1) ej_int.er)))))
  (bj_one (sj_raise tk T.x_NoPart))
  bj_nil)
  (bj_cons (sj_set 2 (ej_call h_common (hr.mono (by decide)) tk (aj_cons (ej_callB abs_ok abs_nx T.z_abs (ar_cons (er_var 0) ar_nil)) (aj_cons (ej_callB abs_ok abs_nx T.z_abs (ar_cons (er_var 1) ar_nil)) aj_nil))) hN)
  (bj_cons (sj_if (tj_cmp lt_op cmp_nx (er_var 1) ej_int.er)
  (bj_one (sj_set 2 (ej_neg (er_var 2)) hN))
  bj_nil)
  (bj_one (sj_ret (ej_tup (aj_cons (ej_bin fdiv_op fdiv_nx (er_var 0) (er_var 2)) (aj_cons (ej_bin fdiv_op fdiv_nx (er_var 1) (er_var 2)) aj_nil))))))))
theorem sc_is_part : FnScope N_is_part ["thing"] (defScope st_is_part) := ⟨rfl, rfl, rfl, by decide +kernel, rfl, by decide +kernel, by decide +kernel⟩
theorem b_is_part : BindOk "is_part" st_is_part ["thing"] := fun _ _ _ _ _ _ us hl => match us, hl with | [_], _ => rfl
theorem ok_is_part (T : Txt K mg) (h_common : FnD P w K mg base 1 "common" 2 d_common) (h_is_whole : FnD P w K mg base 1 "is_whole" 1 d_is_whole) : FnD P w K mg base 2 "is_part" 1 d_is_part := fnd_of T.a_is_part sc_is_part b_is_part rfl fun f cdv A outer s H F E hr => have hN := sc_is_part.nd; have tk := cx_takes (P := P) (w := w) (K := K) (mg := mg) (base := base) (N := N_is_part) (x := "is_part") (sc := defScope st_is_part) (f := f) (cdv := cdv) (A := A) (outer := outer) (s := s) (H := H) (E := E); have hp := cx_passes (P := P) (w := w) (K := K) (mg := mg) (base := base) (N := N_is_part) (x := "is_part") (sc := defScope st_is_part) (f := f) (cdv := cdv) (A := A) (outer := outer) (s := s) (H := H) (E := E);
  (bj_cons (sj_if (tw_tj (tw_or (tj_not (tj_val (ej_isi "tuple" (er_var 0) T.z_isinstance T.z_tuple).er)) (tw_or (tj_cmp (ne_op (room_u hr)) ne_nx (ej_callB len_ok len_nx T.z_len (ar_cons (er_var 0) ar_nil)).er ej_int.er) (tw_or (tj_not (tj_val (ej_call h_is_whole (hr.mono (by decide)) tk (aj_cons (ej_ix (er_var 0) ej_int.er) aj_nil)).er)) (tw_or1 (tj_not (tj_val (ej_call h_is_whole (hr.mono (by decide)) tk (aj_cons (ej_ix (er_var 0) ej_int.er) aj_nil)).er)))))))
  (bj_one (sj_ret ej_bl))
  bj_nil)
  (bj_one (sj_ret (ej_and (ej_cmp gt_op cmp_nx (ej_ix (er_var 0) ej_int.er).er ej_int.er).er (ej_one (ej_cmp (eq_op (room_u hr)) eq_nx (ej_call h_common (hr.mono (by decide)) tk (aj_cons (ej_callB abs_ok abs_nx T.z_abs (ar_cons (ej_ix (er_var 0) ej_int.er).er ar_nil)) (aj_cons (ej_ix (er_var 0) ej_int.er) aj_nil))).er ej_int.er))))))
theorem sc__law_mixed : FnScope N__law_mixed ["_law_cell", "_law_k"] (defScope st__law_mixed) := ⟨rfl, rfl, rfl, by decide +kernel, rfl, by decide +kernel, by decide +kernel⟩
theorem b__law_mixed : BindOk "_law_mixed" st__law_mixed ["_law_cell", "_law_k"] := fun _ _ _ _ _ _ us hl => match us, hl with | [_, _], _ => rfl
theorem ok__law_mixed (T : Txt K mg) : FnD P w K mg base 1 "_law_mixed" 2 d__law_mixed := fnd_of T.a__law_mixed sc__law_mixed b__law_mixed rfl fun f cdv A outer s H F E hr => have hN := sc__law_mixed.nd; have tk := cx_takes (P := P) (w := w) (K := K) (mg := mg) (base := base) (N := N__law_mixed) (x := "_law_mixed") (sc := defScope st__law_mixed) (f := f) (cdv := cdv) (A := A) (outer := outer) (s := s) (H := H) (E := E); have hp := cx_passes (P := P) (w := w) (K := K) (mg := mg) (base := base) (N := N__law_mixed) (x := "_law_mixed") (sc := defScope st__law_mixed) (f := f) (cdv := cdv) (A := A) (outer := outer) (s := s) (H := H) (E := E);
  (bj_cons (sj_set 2 (ej_bin mod_op mod_nx (ej_bin mul_op mul_nx (ej_bin add_op add_nx (er_var 0) (ej_bin mul_op mul_nx ej_int.er (er_var 1)).er).er ej_int.er).er ej_int.er) hN)
  (bj_one (sj_ret (ej_bin mod_op mod_nx (ej_bin mul_op mul_nx (er_var 2) (ej_bin add_op add_nx (ej_bin add_op add_nx (er_var 2) (ej_bin mul_op mul_nx ej_int.er (er_var 1)).er).er ej_int.er).er).er ej_int.er))))
theorem sc__law_cell_at : FnScope N__law_cell_at ["_law_script", "_law_k"] (defScope st__law_cell_at) := ⟨rfl, rfl, rfl, by decide +kernel, rfl, by decide +kernel, by decide +kernel⟩
theorem b__law_cell_at : BindOk "_law_cell_at" st__law_cell_at ["_law_script", "_law_k"] := fun _ _ _ _ _ _ us hl => match us, hl with | [_, _], _ => rfl
theorem ok__law_cell_at (T : Txt K mg) (h__law_mixed : FnD P w K mg base 1 "_law_mixed" 2 d__law_mixed) : FnD P w K mg base 2 "_law_cell_at" 2 d__law_cell_at_k04 := fnd_of T.a__law_cell_at sc__law_cell_at b__law_cell_at rfl fun f cdv A outer s H F E hr => have hN := sc__law_cell_at.nd; have tk := cx_takes (P := P) (w := w) (K := K) (mg := mg) (base := base) (N := N__law_cell_at) (x := "_law_cell_at") (sc := defScope st__law_cell_at) (f := f) (cdv := cdv) (A := A) (outer := outer) (s := s) (H := H) (E := E); have hp := cx_passes (P := P) (w := w) (K := K) (mg := mg) (base := base) (N := N__law_cell_at) (x := "_law_cell_at") (sc := defScope st__law_cell_at) (f := f) (cdv := cdv) (A := A) (outer := outer) (s := s) (H := H) (E := E);
  (bj_cons (sj_if (tj_cmp lt_op cmp_nx (er_var 1) (ej_callB len_ok len_nx T.z_len (ar_cons (er_var 0) ar_nil)).er)
  (bj_one (sj_ret (ej_call h__law_mixed (hr.mono (by decide)) tk (aj_cons (ej_ix (er_var 0) (er_var 1)) (aj_cons (ej_var 1) aj_nil)))))
  bj_nil)
  (bj_one (sj_ret (ej_call h__law_mixed (hr.mono (by decide)) tk (aj_cons (ej_var 1) (aj_cons ej_int aj_nil))))))
theorem sc__law_number : FnScope N__law_number ["_law_cell", "_law_k", "_law_size"] (defScope st__law_number) := ⟨rfl, rfl, rfl, by decide +kernel, rfl, by decide +kernel, by decide +kernel⟩
theorem b__law_number : BindOk "_law_number" st__law_number ["_law_cell", "_law_k", "_law_size"] := fun _ _ _ _ _ _ us hl => match us, hl with | [_, _, _], _ => rfl
theorem ok__law_number (T : Txt K mg) (h__law_mixed : FnD P w K mg base 1 "_law_mixed" 2 d__law_mixed) : FnD P w K mg base 2 "_law_number" 3 d__law_number := fnd_of T.a__law_number sc__law_number b__law_number rfl fun f cdv A outer s H F E hr => have hN := sc__law_number.nd; have tk := cx_takes (P := P) (w := w) (K := K) (mg := mg) (base := base) (N := N__law_number) (x := "_law_number") (sc := defScope st__law_number) (f := f) (cdv := cdv) (A := A) (outer := outer) (s := s) (H := H) (E := E); have hp := cx_passes (P := P) (w := w) (K := K) (mg := mg) (base := base) (N := N__law_number) (x := "_law_number") (sc := defScope st__law_number) (f := f) (cdv := cdv) (A := A) (outer := outer) (s := s) (H := H) (E := E);
  (bj_cons (sj_set 3 ej_int hN)
  (bj_cons (sj_for hp rfl (ij_range1 T.z_range (ar_cons ej_int.er ar_nil)) (gj_nm 4 hN)
  (bj_one (sj_set 3 (ej_bin add_op add_nx (ej_bin mul_op mul_nx (er_var 3) ej_int.er).er (ej_call h__law_mixed (hr.mono (by decide)) tk (aj_cons (ej_var 0) (aj_cons (ej_bin add_op add_nx (er_var 1) (er_var 4)) aj_nil))).er) hN)))
  (bj_one (sj_ret (ej_bin mod_op mod_nx (er_var 3) (er_var 2))))))
theorem sc__law_pair : FnScope N__law_pair ["_law_cell", "_law_k"] (defScope st__law_pair) := ⟨rfl, rfl, rfl, by decide +kernel, rfl, by decide +kernel, by decide +kernel⟩
theorem b__law_pair : BindOk "_law_pair" st__law_pair ["_law_cell", "_law_k"] := fun _ _ _ _ _ _ us hl => match us, hl with | [_, _], _ => rfl
theorem ok__law_pair (T : Txt K mg) (h__law_mixed : FnD P w K mg base 1 "_law_mixed" 2 d__law_mixed) (h__law_number : FnD P w K mg base 2 "_law_number" 3 d__law_number) : FnD P w K mg base 3 "_law_pair" 2 d__law_pair := fnd_of T.a__law_pair sc__law_pair b__law_pair rfl fun f cdv A outer s H F E hr => have hN := sc__law_pair.nd; have tk := cx_takes (P := P) (w := w) (K := K) (mg := mg) (base := base) (N := N__law_pair) (x := "_law_pair") (sc := defScope st__law_pair) (f := f) (cdv := cdv) (A := A) (outer := outer) (s := s) (H := H) (E := E); have hp := cx_passes (P := P) (w := w) (K := K) (mg := mg) (base := base) (N := N__law_pair) (x := "_law_pair") (sc := defScope st__law_pair) (f := f) (cdv := cdv) (A := A) (outer := outer) (s := s) (H := H) (E := E);
  (bj_cons (sj_set 2 (ej_ix (eo_lst (aj_cons ej_int (aj_cons ej_int (aj_cons (ej_bin pow_op pow_nx ej_int.er ej_int.er) (aj_cons (ej_bin pow_op pow_nx ej_int.er ej_int.er) aj_nil))))).ej.er (ej_bin mod_op mod_nx (ej_call h__law_mixed (hr.mono (by decide)) tk (aj_cons (ej_var 0) (aj_cons (ej_var 1) aj_nil))).er ej_int.er).er) hN)
  (bj_cons (sj_set 3 (ej_bin sub_op sub_nx (ej_call h__law_number (hr.mono (by decide)) tk (aj_cons (ej_var 0) (aj_cons (ej_bin add_op add_nx (er_var 1) ej_int.er) (aj_cons (ej_bin add_op add_nx (ej_bin mul_op mul_nx ej_int.er (er_var 2)).er ej_int.er) aj_nil)))).er (er_var 2)) hN)
  (bj_cons (sj_set 4 (ej_bin add_op add_nx ej_int.er (ej_call h__law_number (hr.mono (by decide)) tk (aj_cons (ej_var 0) (aj_cons (ej_bin add_op add_nx (er_var 1) ej_int.er) (aj_cons (ej_ix (eo_lst (aj_cons ej_int (aj_cons ej_int (aj_cons (ej_var 2) aj_nil)))).ej.er (ej_bin mod_op mod_nx (ej_call h__law_mixed (hr.mono (by decide)) tk (aj_cons (ej_var 0) (aj_cons (ej_bin add_op add_nx (er_var 1) ej_int.er) aj_nil))).er ej_int.er).er) aj_nil)))).er) hN)
  (bj_one (sj_ret (ej_tup (aj_cons (ej_var 3) (aj_cons (ej_var 4) aj_nil))))))))
theorem sc__law_lowest : FnScope N__law_lowest ["_law_up", "_law_under"] (defScope st__law_lowest) := ⟨rfl, rfl, rfl, by decide +kernel, rfl, by decide +kernel, by decide +kernel⟩
theorem b__law_lowest : BindOk "_law_lowest" st__law_lowest ["_law_up", "_law_under"] := fun _ _ _ _ _ _ us hl => match us, hl with | [_, _], _ => rfl
theorem ok__law_lowest (T : Txt K mg) : FnD P w K mg base 1 "_law_lowest" 2 d__law_lowest := fnd_of T.a__law_lowest sc__law_lowest b__law_lowest rfl fun f cdv A outer s H F E hr => have hN := sc__law_lowest.nd; have tk := cx_takes (P := P) (w := w) (K := K) (mg := mg) (base := base) (N := N__law_lowest) (x := "_law_lowest") (sc := defScope st__law_lowest) (f := f) (cdv := cdv) (A := A) (outer := outer) (s := s) (H := H) (E := E); have hp := cx_passes (P := P) (w := w) (K := K) (mg := mg) (base := base) (N := N__law_lowest) (x := "_law_lowest") (sc := defScope st__law_lowest) (f := f) (cdv := cdv) (A := A) (outer := outer) (s := s) (H := H) (E := E);
  (bj_cons (sj_set 2 (ej_callB abs_ok abs_nx T.z_abs (ar_cons (er_var 0) ar_nil)) hN)
  (bj_cons (sj_set 3 (ej_callB abs_ok abs_nx T.z_abs (ar_cons (er_var 1) ar_nil)) hN)
  (bj_cons (sj_while hp (tj_cmp gt_op cmp_nx (er_var 3) ej_int.er)
  (bj_one (sj_par 2 3 (ej_var 3) (ej_bin mod_op mod_nx (er_var 2) (er_var 3)) rfl hN)))
  (bj_cons (sj_if (tj_cmp lt_op cmp_nx (er_var 1) ej_int.er)
  (bj_one (sj_set 2 (ej_neg (er_var 2)) hN))
  bj_nil)
  (bj_one (sj_ret (ej_tup (aj_cons (ej_bin fdiv_op fdiv_nx (er_var 0) (er_var 2)) (aj_cons (ej_bin fdiv_op fdiv_nx (er_var 1) (er_var 2)) aj_nil)))))))))
theorem sc__law_is : FnScope N__law_is ["_law_found", "_law_due"] (defScope st__law_is) := ⟨rfl, rfl, rfl, by decide +kernel, rfl, by decide +kernel, by decide +kernel⟩
theorem b__law_is : BindOk "_law_is" st__law_is ["_law_found", "_law_due"] := fun _ _ _ _ _ _ us hl => match us, hl with | [_, _], _ => rfl
theorem ok__law_is (T : Txt K mg) : FnD P w K mg base 1 "_law_is" 2 d__law_is := fnd_of T.a__law_is sc__law_is b__law_is rfl fun f cdv A outer s H F E hr => have hN := sc__law_is.nd; have tk := cx_takes (P := P) (w := w) (K := K) (mg := mg) (base := base) (N := N__law_is) (x := "_law_is") (sc := defScope st__law_is) (f := f) (cdv := cdv) (A := A) (outer := outer) (s := s) (H := H) (E := E); have hp := cx_passes (P := P) (w := w) (K := K) (mg := mg) (base := base) (N := N__law_is) (x := "_law_is") (sc := defScope st__law_is) (f := f) (cdv := cdv) (A := A) (outer := outer) (s := s) (H := H) (E := E);
  (bj_cons (sj_if (tw_tj (tw_or (tj_not (tj_val (ej_isi "tuple" (er_var 0) T.z_isinstance T.z_tuple).er)) (tw_or1 (tj_cmp (ne_op (room_u hr)) ne_nx (ej_callB len_ok len_nx T.z_len (ar_cons (er_var 0) ar_nil)).er ej_int.er))))
  (bj_one (sj_ret ej_bl))
  bj_nil)
  (bj_cons (sj_for hp rfl (ij_seq (ej_var 0)) (gj_nm 2 hN)
  (bj_one (sj_if (tw_tj (tw_or (tj_not (tj_val (ej_isi "int" (er_var 2) T.z_isinstance T.z_int).er)) (tw_or1 (tj_val (ej_isi "bool" (er_var 2) T.z_isinstance T.z_bool).er))))
    (bj_one (sj_ret ej_bl))
    bj_nil)))
  (bj_one (sj_ret (ej_cmp (eq_op (room_u hr)) eq_nx (er_var 0) (er_var 1))))))
theorem sc__law_word : FnScope N__law_word ["_law_e"] (defScope st__law_word) := ⟨rfl, rfl, rfl, by decide +kernel, rfl, by decide +kernel, by decide +kernel⟩
theorem b__law_word : BindOk "_law_word" st__law_word ["_law_e"] := fun _ _ _ _ _ _ us hl => match us, hl with | [_], _ => rfl
theorem ok__law_word (T : Txt K mg) : FnD P w K mg base 1 "_law_word" 1 d__law_word := fnd_of T.a__law_word sc__law_word b__law_word rfl fun f cdv A outer s H F E hr => have hN := sc__law_word.nd; have tk := cx_takes (P := P) (w := w) (K := K) (mg := mg) (base := base) (N := N__law_word) (x := "_law_word") (sc := defScope st__law_word) (f := f) (cdv := cdv) (A := A) (outer := outer) (s := s) (H := H) (E := E); have hp := cx_passes (P := P) (w := w) (K := K) (mg := mg) (base := base) (N := N__law_word) (x := "_law_word") (sc := defScope st__law_word) (f := f) (cdv := cdv) (A := A) (outer := outer) (s := s) (H := H) (E := E);
  (bj_cons (sj_setO 1 (eo_lst (aj_cons (ej_isO (xs := xsE) (sup := ["NoPart"]) (er_var 0) T.z_isinstance T.e_all T.i_NoPart) (aj_cons (ej_isO (xs := xsE) (sup := []) (er_var 0) T.z_isinstance T.e_all T.i_NoLine) (aj_cons (ej_isO (xs := xsE) (sup := []) (er_var 0) T.z_isinstance T.e_all T.i_NoPlace) aj_nil)))) hN)
  (bj_cons (sj_setO 1 (eo_cat (er_var 1) (eo_lst (aj_cons (ej_isO (xs := xsE) (sup := []) (er_var 0) T.z_isinstance T.e_all T.i_BelowNought) (aj_cons (ej_isO (xs := xsE) (sup := []) (er_var 0) T.z_isinstance T.e_all T.i_NoCharter) (aj_cons (ej_isO (xs := xsE) (sup := []) (er_var 0) T.z_isinstance T.e_all T.i_NoTaken) aj_nil)))).ej.er) hN)
  (bj_cons (sj_setO 1 (eo_cat (er_var 1) (eo_lst (aj_cons (ej_isO (xs := xsE) (sup := []) (er_var 0) T.z_isinstance T.e_all T.i_NoLet) (aj_cons (ej_isO (xs := xsE) (sup := []) (er_var 0) T.z_isinstance T.e_all T.i_NoPeople) (aj_cons (ej_isO (xs := xsE) (sup := []) (er_var 0) T.z_isinstance T.e_all T.i_NoYear) aj_nil)))).ej.er) hN)
  (bj_cons (sj_setO 1 (eo_cat (er_var 1) (eo_lst (aj_cons (ej_isO (xs := xsE) (sup := []) (er_var 0) T.z_isinstance T.e_all T.i_NoDeed) (aj_cons (ej_isO (xs := xsE) (sup := []) (er_var 0) T.z_isinstance T.e_all T.i_NotNow) (aj_cons (ej_isO (xs := xsE) (sup := []) (er_var 0) T.z_isinstance T.e_all T.i_TooMany) aj_nil)))).ej.er) hN)
  (bj_cons (sj_app 1 (ej_isO (xs := xsE) (sup := []) (er_var 0) T.z_isinstance T.e_all T.i_NoText))
  (bj_cons (sj_if (tw_tj (tw_or (tj_cmp (ne_op (room_u hr)) ne_nx (ej_cnt (room_u5 hr) (er_var 1) ej_bl.er).er ej_int.er) (tw_or1 (tj_not (tj_val (ej_isB "ValueError" (xs := xsE) (sup := ["NoPart"]) (er_var 0) T.z_isinstance T.e_all T.k_ValueError T.z_ValueError).er)))))
  (bj_one (sj_ret ej_str))
  bj_nil)
  (bj_cons (sj_set 2 (eo_lst (aj_cons ej_str (aj_cons ej_str (aj_cons ej_str (aj_cons ej_str (aj_cons ej_str (aj_cons ej_str (aj_cons ej_str (aj_cons ej_str (aj_cons ej_str aj_nil)))))))))).ej hN)
  (bj_one (sj_ret (ej_ix (ej_bin add_op add_nx (er_var 2) (eo_lst (aj_cons ej_str (aj_cons ej_str (aj_cons ej_str (aj_cons ej_str aj_nil))))).ej.er).er (ej_idx (room_u5 hr) (er_var 1) ej_bl.er).er))))))))))
theorem sc__law_refused : FnScope N__law_refused ["_law_work"] (defScope st__law_refused) := ⟨rfl, rfl, rfl, by decide +kernel, rfl, by decide +kernel, by decide +kernel⟩
theorem b__law_refused : BindOk "_law_refused" st__law_refused ["_law_work"] := fun _ _ _ _ _ _ us hl => match us, hl with | [_], _ => rfl
theorem ok__law_refused (T : Txt K mg) (h__law_word : FnD P w K mg base 1 "_law_word" 1 d__law_word) : FnC P w K mg base 4 3 "_law_refused" 1 d__law_refused := fnc_of T.a__law_refused sc__law_refused b__law_refused rfl fun cl f cdv A outer s H F E hr HC => have hN := sc__law_refused.nd; have tk := cx_takes (P := P) (w := w) (K := K) (mg := mg) (base := base) (N := N__law_refused) (x := "_law_refused") (sc := defScope st__law_refused) (f := f) (cdv := cdv) (A := A) (outer := outer) (s := s) (H := H) (E := E); have hp := cx_passes (P := P) (w := w) (K := K) (mg := mg) (base := base) (N := N__law_refused) (x := "_law_refused") (sc := defScope st__law_refused) (f := f) (cdv := cdv) (A := A) (outer := outer) (s := s) (H := H) (E := E);
  (bj_cons (sj_set 1 ej_non hN)
  (bj_cons (sj_tryK 2 1 (xs := xsE) T.t_LevyError hN (fun W pn xe tk hp => 
  (bj_one (sj_expr (ej_callC0 0 HC (hr.mono (by decide)) tk).er))))
  (bj_one (sj_ret (ej_if (tj_cmp is_op is_nx (er_var 1) ej_non.er) ej_str (ej_call h__law_word (hr.mono (by decide)) tk (aj_cons (ej_var 1) aj_nil)))))))
theorem sc__law_whole : FnScope N__law_whole ["_law_thing"] (defScope st__law_whole) := ⟨rfl, rfl, rfl, by decide +kernel, rfl, by decide +kernel, by decide +kernel⟩
theorem b__law_whole : BindOk "_law_whole" st__law_whole ["_law_thing"] := fun _ _ _ _ _ _ us hl => match us, hl with | [_], _ => rfl
theorem ok__law_whole (T : Txt K mg) : FnD P w K mg base 1 "_law_whole" 1 d__law_whole := fnd_of T.a__law_whole sc__law_whole b__law_whole rfl fun f cdv A outer s H F E hr => have hN := sc__law_whole.nd; have tk := cx_takes (P := P) (w := w) (K := K) (mg := mg) (base := base) (N := N__law_whole) (x := "_law_whole") (sc := defScope st__law_whole) (f := f) (cdv := cdv) (A := A) (outer := outer) (s := s) (H := H) (E := E); have hp := cx_passes (P := P) (w := w) (K := K) (mg := mg) (base := base) (N := N__law_whole) (x := "_law_whole") (sc := defScope st__law_whole) (f := f) (cdv := cdv) (A := A) (outer := outer) (s := s) (H := H) (E := E);
  (bj_one (sj_ret (ej_and (ej_isi "int" (er_var 0) T.z_isinstance T.z_int).er (ej_one (ej_not (ej_isi "bool" (er_var 0) T.z_isinstance T.z_bool).er)))))
theorem sc__law_is_part : FnScope N__law_is_part ["_law_thing"] (defScope st__law_is_part) := ⟨rfl, rfl, rfl, by decide +kernel, rfl, by decide +kernel, by decide +kernel⟩
theorem b__law_is_part : BindOk "_law_is_part" st__law_is_part ["_law_thing"] := fun _ _ _ _ _ _ us hl => match us, hl with | [_], _ => rfl
theorem ok__law_is_part (T : Txt K mg) (h__law_lowest : FnD P w K mg base 1 "_law_lowest" 2 d__law_lowest) (h__law_whole : FnD P w K mg base 1 "_law_whole" 1 d__law_whole) : FnD P w K mg base 2 "_law_is_part" 1 d__law_is_part := fnd_of T.a__law_is_part sc__law_is_part b__law_is_part rfl fun f cdv A outer s H F E hr => have hN := sc__law_is_part.nd; have tk := cx_takes (P := P) (w := w) (K := K) (mg := mg) (base := base) (N := N__law_is_part) (x := "_law_is_part") (sc := defScope st__law_is_part) (f := f) (cdv := cdv) (A := A) (outer := outer) (s := s) (H := H) (E := E); have hp := cx_passes (P := P) (w := w) (K := K) (mg := mg) (base := base) (N := N__law_is_part) (x := "_law_is_part") (sc := defScope st__law_is_part) (f := f) (cdv := cdv) (A := A) (outer := outer) (s := s) (H := H) (E := E);
  (bj_cons (sj_if (tw_tj (tw_or (tj_not (tj_val (ej_isi "tuple" (er_var 0) T.z_isinstance T.z_tuple).er)) (tw_or (tj_cmp (ne_op (room_u hr)) ne_nx (ej_callB len_ok len_nx T.z_len (ar_cons (er_var 0) ar_nil)).er ej_int.er) (tw_or1 (tj_not (tj_val (ej_call h__law_whole (hr.mono (by decide)) tk (aj_cons (ej_ix (er_var 0) ej_int.er) aj_nil)).er))))))
  (bj_one (sj_ret ej_bl))
  bj_nil)
  (bj_cons (sj_if (tj_not (tj_val (ej_call h__law_whole (hr.mono (by decide)) tk (aj_cons (ej_ix (er_var 0) ej_int.er) aj_nil)).er))
  (bj_one (sj_ret ej_bl))
  bj_nil)
  (bj_one (sj_ret (ej_and (ej_cmp gt_op cmp_nx (ej_ix (er_var 0) ej_int.er).er ej_int.er).er (ej_one (ej_cmp (eq_op (room_u hr)) eq_nx (ej_call h__law_lowest (hr.mono (by decide)) tk (aj_cons (ej_ix (er_var 0) ej_int.er) (aj_cons (ej_ix (er_var 0) ej_int.er) aj_nil))).er (er_var 0))))))))
theorem sc__law_odd : FnScope N__law_odd ["_law_cell", "_law_up", "_law_under"] (defScope st__law_odd) := ⟨rfl, rfl, rfl, by decide +kernel, rfl, by decide +kernel, by decide +kernel⟩
theorem b__law_odd : BindOk "_law_odd" st__law_odd ["_law_cell", "_law_up", "_law_under"] := fun _ _ _ _ _ _ us hl => match us, hl with | [_, _, _], _ => rfl
theorem ok__law_odd (T : Txt K mg) : FnD P w K mg base 1 "_law_odd" 3 d__law_odd := fnd_of T.a__law_odd sc__law_odd b__law_odd rfl fun f cdv A outer s H F E hr => have hN := sc__law_odd.nd; have tk := cx_takes (P := P) (w := w) (K := K) (mg := mg) (base := base) (N := N__law_odd) (x := "_law_odd") (sc := defScope st__law_odd) (f := f) (cdv := cdv) (A := A) (outer := outer) (s := s) (H := H) (E := E); have hp := cx_passes (P := P) (w := w) (K := K) (mg := mg) (base := base) (N := N__law_odd) (x := "_law_odd") (sc := defScope st__law_odd) (f := f) (cdv := cdv) (A := A) (outer := outer) (s := s) (H := H) (E := E);
  (bj_cons (sj_set 3 (eo_lst (aj_cons ej_non (aj_cons ej_bl (aj_cons ej_bl (aj_cons ej_str (aj_cons ej_str (aj_cons (ej_tup (aj_cons ej_int (aj_cons ej_int aj_nil))) (aj_cons (eo_lst (aj_cons ej_int aj_nil)).ej (aj_cons ej_dic0 (aj_cons (ej_tup (aj_cons (ej_var 1) aj_nil)) (aj_cons (ej_tup (aj_cons (ej_var 1) (aj_cons (ej_var 2) (aj_cons ej_int aj_nil)))) (aj_cons (eo_lst (aj_cons (ej_var 1) (aj_cons (ej_var 2) aj_nil))).ej aj_nil)))))))))))).ej hN)
  (bj_cons (sj_set 3 (ej_bin add_op add_nx (er_var 3) (eo_lst (aj_cons (ej_tup (aj_cons (ej_var 1) (aj_cons ej_int aj_nil))) (aj_cons (ej_tup (aj_cons ej_int (aj_cons ej_int aj_nil))) (aj_cons (ej_tup (aj_cons (ej_var 1) (aj_cons (ej_neg (er_var 2)) aj_nil))) (aj_cons (ej_tup (aj_cons ej_bl (aj_cons ej_int aj_nil))) (aj_cons (ej_tup (aj_cons ej_int (aj_cons ej_bl aj_nil))) (aj_cons (ej_tup (aj_cons ej_str (aj_cons ej_int aj_nil))) (aj_cons (ej_tup (aj_cons ej_non (aj_cons ej_int aj_nil))) aj_nil)))))))).ej.er) hN)
  (bj_one (sj_ret (ej_ix (ej_bin add_op add_nx (er_var 3) (eo_lst (aj_cons (ej_tup (aj_cons (ej_tup (aj_cons ej_int (aj_cons ej_int aj_nil))) (aj_cons ej_int aj_nil))) (aj_cons (ej_tup (aj_cons ej_int (aj_cons (ej_var 2) aj_nil))) (aj_cons (ej_tup (aj_cons (ej_bin mul_op mul_nx ej_int.er (er_var 1)) (aj_cons (ej_bin mul_op mul_nx ej_int.er (er_var 2)) aj_nil))) aj_nil)))).ej.er).er (ej_bin mod_op mod_nx (er_var 0) ej_int.er).er)))))
theorem sc__law_told : FnScope N__law_told ["_law_thing"] (defScope st__law_told) := ⟨rfl, rfl, rfl, by decide +kernel, rfl, by decide +kernel, by decide +kernel⟩
theorem b__law_told : BindOk "_law_told" st__law_told ["_law_thing"] := fun _ _ _ _ _ _ us hl => match us, hl with | [_], _ => rfl
theorem ok__law_told (T : Txt K mg) (h__law_is_part : FnD P w K mg base 2 "_law_is_part" 1 d__law_is_part) (h__law_whole : FnD P w K mg base 1 "_law_whole" 1 d__law_whole) (h_is_part : FnD P w K mg base 2 "is_part" 1 d_is_part) (h_is_whole : FnD P w K mg base 1 "is_whole" 1 d_is_whole) : FnD P w K mg base 3 "_law_told" 1 d__law_told := fnd_of T.a__law_told sc__law_told b__law_told rfl fun f cdv A outer s H F E hr => have hN := sc__law_told.nd; have tk := cx_takes (P := P) (w := w) (K := K) (mg := mg) (base := base) (N := N__law_told) (x := "_law_told") (sc := defScope st__law_told) (f := f) (cdv := cdv) (A := A) (outer := outer) (s := s) (H := H) (E := E); have hp := cx_passes (P := P) (w := w) (K := K) (mg := mg) (base := base) (N := N__law_told) (x := "_law_told") (sc := defScope st__law_told) (f := f) (cdv := cdv) (A := A) (outer := outer) (s := s) (H := H) (E := E);
  (bj_cons (sj_for hp rfl (ij_seq (eo_lst (aj_cons (ej_tup (aj_cons (ej_call h_is_whole (hr.mono (by decide)) tk (aj_cons (ej_var 0) aj_nil)) (aj_cons (ej_call h__law_whole (hr.mono (by decide)) tk (aj_cons (ej_var 0) aj_nil)) aj_nil))) (aj_cons (ej_tup (aj_cons (ej_call h_is_part (hr.mono (by decide)) tk (aj_cons (ej_var 0) aj_nil)) (aj_cons (ej_call h__law_is_part (hr.mono (by decide)) tk (aj_cons (ej_var 0) aj_nil)) aj_nil))) aj_nil))).ej) (gj_tp (gs_cons 1 (gs_cons 2 gs_nil hN) hN) rfl)
  (bj_one (sj_if (tw_tj (tw_or (tj_not (tj_val (ej_isi "bool" (er_var 1) T.z_isinstance T.z_bool).er)) (tw_or1 (tj_cmp (ne_op (room_u hr)) ne_nx (er_var 1) (er_var 2)))))
    (bj_one (sj_ret ej_bl))
    bj_nil)))
  (bj_one (sj_ret ej_bl)))
theorem sc_law : FnScope N_law ["_law_script"] (defScope st_law) := ⟨rfl, rfl, rfl, by decide +kernel, rfl, by decide +kernel, by decide +kernel⟩
theorem b_law : BindOk "law" st_law ["_law_script"] := fun _ _ _ _ _ _ us hl => match us, hl with | [_], _ => rfl
abbrev NL_0 : List Str := ["_law_script", "_law_k", "_law_cell", "_law_more", "_law_signed", "_law_due", "_law_odd_here", "_law_works", "_law_up", "_law_under", "_law_thing", "_law_work"]
theorem sl_0 : LamS ltx_0.sc [] N_law NL_0 := lamS_by (by decide +kernel)
theorem bl_0 : BindLam ltx_0 [] := fun _ _ _ _ us h => match us, h with | [], _ => rfl
theorem fr_0 : freeB (defScope st_law) ltx_0.sc = true := by decide +kernel
theorem nl_0 : NL_0.Nodup := by decide +kernel
abbrev NL_1 : List Str := ["_law_script", "_law_k", "_law_cell", "_law_more", "_law_signed", "_law_due", "_law_odd_here", "_law_works", "_law_up", "_law_under", "_law_thing", "_law_work"]
theorem sl_1 : LamS ltx_1.sc [] N_law NL_1 := lamS_by (by decide +kernel)
theorem bl_1 : BindLam ltx_1 [] := fun _ _ _ _ us h => match us, h with | [], _ => rfl
theorem fr_1 : freeB (defScope st_law) ltx_1.sc = true := by decide +kernel
theorem nl_1 : NL_1.Nodup := by decide +kernel
abbrev NL_2 : List Str := ["_law_script", "_law_k", "_law_cell", "_law_more", "_law_signed", "_law_due", "_law_odd_here", "_law_works", "_law_up", "_law_under", "_law_thing", "_law_work"]
theorem sl_2 : LamS ltx_2.sc [] N_law NL_2 := lamS_by (by decide +kernel)
theorem bl_2 : BindLam ltx_2 [] := fun _ _ _ _ us h => match us, h with | [], _ => rfl
theorem fr_2 : freeB (defScope st_law) ltx_2.sc = true := by decide +kernel
theorem nl_2 : NL_2.Nodup := by decide +kernel
abbrev NL_3 : List Str := ["_law_script", "_law_k", "_law_cell", "_law_more", "_law_signed", "_law_due", "_law_odd_here", "_law_works", "_law_up", "_law_under", "_law_thing", "_law_work"]
theorem sl_3 : LamS ltx_3.sc [] N_law NL_3 := lamS_by (by decide +kernel)
theorem bl_3 : BindLam ltx_3 [] := fun _ _ _ _ us h => match us, h with | [], _ => rfl
theorem fr_3 : freeB (defScope st_law) ltx_3.sc = true := by decide +kernel
theorem nl_3 : NL_3.Nodup := by decide +kernel
theorem canx_law_0 (T : Txt K mg) (LL : Lams K mg cc_law tt_law) (h__law_cell_at : FnD P w K mg base 2 "_law_cell_at" 2 d__law_cell_at_k04) (h__law_is : FnD P w K mg base 1 "_law_is" 2 d__law_is) (h__law_lowest : FnD P w K mg base 1 "_law_lowest" 2 d__law_lowest) (h__law_number : FnD P w K mg base 2 "_law_number" 3 d__law_number) (h__law_odd : FnD P w K mg base 1 "_law_odd" 3 d__law_odd) (h__law_pair : FnD P w K mg base 3 "_law_pair" 2 d__law_pair) (h__law_refused : FnC P w K mg base 4 3 "_law_refused" 1 d__law_refused) (h__law_told : FnD P w K mg base 3 "_law_told" 1 d__law_told) (h_part_1 : FnD P w K mg base 2 "part" 1 d_part_1) (h_part_2 : FnD P w K mg base 2 "part" 2 d_part_2) {ff : Addr} {AA : Around} {oo : List PySem.Env} {ss : Shared} {HH : Hp} {EE : XK} {c : Cc} : CanX (cxOf (L2.CX P w) P w K mg base N_law "law" (defScope st_law) ff (.ref cc_law) AA oo ss HH EE) c 3 (c_law_0 (cxOf (L2.CX P w) P w K mg base N_law "law" (defScope st_law) ff (.ref cc_law) AA oo ss HH EE).env.cells) :=
  canX_cons (X := (cxOf (L2.CX P w) P w K mg base N_law "law" (defScope st_law) ff (.ref cc_law) AA oo ss HH EE)) (c := c) (k := 3) (k1 := 0) (kb := 2) (fb := lb_law_0) (clM := (fun _ => clNil)) (canX_nil (X := (cxOf (L2.CX P w) P w K mg base N_law "law" (defScope st_law) ff (.ref cc_law) AA oo ss HH EE)) (c := c) (k := 0)) LL.l_0 sl_0 fr_0 bl_0 (fun cl A outer s H F E f k st hr HC => have tk := lam_takes (P := P) (w := w) (K := K) (mg := mg) (base := base) (tx := ltx_0) (tok := (cxOf (L2.CX P w) P w K mg base N_law "law" (defScope st_law) ff (.ref cc_law) AA oo ss HH EE).env.cells) (N := NL_0) (A := A) (outer := outer) (s := s) (H := H) (E := E) (f := f) (c := k); have hN := nl_0; (ej_call h_part_1 (hr.mono (by decide)) tk (aj_cons (ej_var 6) aj_nil))) (by decide) (by decide)
theorem canx_law_1 (T : Txt K mg) (LL : Lams K mg cc_law tt_law) (h__law_cell_at : FnD P w K mg base 2 "_law_cell_at" 2 d__law_cell_at_k04) (h__law_is : FnD P w K mg base 1 "_law_is" 2 d__law_is) (h__law_lowest : FnD P w K mg base 1 "_law_lowest" 2 d__law_lowest) (h__law_number : FnD P w K mg base 2 "_law_number" 3 d__law_number) (h__law_odd : FnD P w K mg base 1 "_law_odd" 3 d__law_odd) (h__law_pair : FnD P w K mg base 3 "_law_pair" 2 d__law_pair) (h__law_refused : FnC P w K mg base 4 3 "_law_refused" 1 d__law_refused) (h__law_told : FnD P w K mg base 3 "_law_told" 1 d__law_told) (h_part_1 : FnD P w K mg base 2 "part" 1 d_part_1) (h_part_2 : FnD P w K mg base 2 "part" 2 d_part_2) {ff : Addr} {AA : Around} {oo : List PySem.Env} {ss : Shared} {HH : Hp} {EE : XK} {c : Cc} : CanX (cxOf (L2.CX P w) P w K mg base N_law "law" (defScope st_law) ff (.ref cc_law) AA oo ss HH EE) c 3 (c_law_1 (cxOf (L2.CX P w) P w K mg base N_law "law" (defScope st_law) ff (.ref cc_law) AA oo ss HH EE).env.cells) :=
  canX_cons (X := (cxOf (L2.CX P w) P w K mg base N_law "law" (defScope st_law) ff (.ref cc_law) AA oo ss HH EE)) (c := c) (k := 3) (k1 := 3) (kb := 2) (fb := lb_law_1) (clM := (c_law_0 (cxOf (L2.CX P w) P w K mg base N_law "law" (defScope st_law) ff (.ref cc_law) AA oo ss HH EE).env.cells)) (canx_law_0 T LL h__law_cell_at h__law_is h__law_lowest h__law_number h__law_odd h__law_pair h__law_refused h__law_told h_part_1 h_part_2) LL.l_1 sl_1 fr_1 bl_1 (fun cl A outer s H F E f k st hr HC => have tk := lam_takes (P := P) (w := w) (K := K) (mg := mg) (base := base) (tx := ltx_1) (tok := (cxOf (L2.CX P w) P w K mg base N_law "law" (defScope st_law) ff (.ref cc_law) AA oo ss HH EE).env.cells) (N := NL_1) (A := A) (outer := outer) (s := s) (H := H) (E := E) (f := f) (c := k); have hN := nl_1; (ej_call h_part_2 (hr.mono (by decide)) tk (aj_cons (ej_var 8) (aj_cons (ej_var 6) aj_nil)))) (by decide) (by decide)
theorem canx_law_2 (T : Txt K mg) (LL : Lams K mg cc_law tt_law) (h__law_cell_at : FnD P w K mg base 2 "_law_cell_at" 2 d__law_cell_at_k04) (h__law_is : FnD P w K mg base 1 "_law_is" 2 d__law_is) (h__law_lowest : FnD P w K mg base 1 "_law_lowest" 2 d__law_lowest) (h__law_number : FnD P w K mg base 2 "_law_number" 3 d__law_number) (h__law_odd : FnD P w K mg base 1 "_law_odd" 3 d__law_odd) (h__law_pair : FnD P w K mg base 3 "_law_pair" 2 d__law_pair) (h__law_refused : FnC P w K mg base 4 3 "_law_refused" 1 d__law_refused) (h__law_told : FnD P w K mg base 3 "_law_told" 1 d__law_told) (h_part_1 : FnD P w K mg base 2 "part" 1 d_part_1) (h_part_2 : FnD P w K mg base 2 "part" 2 d_part_2) {ff : Addr} {AA : Around} {oo : List PySem.Env} {ss : Shared} {HH : Hp} {EE : XK} {c : Cc} : CanX (cxOf (L2.CX P w) P w K mg base N_law "law" (defScope st_law) ff (.ref cc_law) AA oo ss HH EE) c 3 (c_law_2 (cxOf (L2.CX P w) P w K mg base N_law "law" (defScope st_law) ff (.ref cc_law) AA oo ss HH EE).env.cells) :=
  canX_cons (X := (cxOf (L2.CX P w) P w K mg base N_law "law" (defScope st_law) ff (.ref cc_law) AA oo ss HH EE)) (c := c) (k := 3) (k1 := 3) (kb := 2) (fb := lb_law_2) (clM := (c_law_1 (cxOf (L2.CX P w) P w K mg base N_law "law" (defScope st_law) ff (.ref cc_law) AA oo ss HH EE).env.cells)) (canx_law_1 T LL h__law_cell_at h__law_is h__law_lowest h__law_number h__law_odd h__law_pair h__law_refused h__law_told h_part_1 h_part_2) LL.l_2 sl_2 fr_2 bl_2 (fun cl A outer s H F E f k st hr HC => have tk := lam_takes (P := P) (w := w) (K := K) (mg := mg) (base := base) (tx := ltx_2) (tok := (cxOf (L2.CX P w) P w K mg base N_law "law" (defScope st_law) ff (.ref cc_law) AA oo ss HH EE).env.cells) (N := NL_2) (A := A) (outer := outer) (s := s) (H := H) (E := E) (f := f) (c := k); have hN := nl_2; (ej_call h_part_2 (hr.mono (by decide)) tk (aj_cons (ej_var 6) (aj_cons (ej_var 9) aj_nil)))) (by decide) (by decide)
theorem canx_law_3 (T : Txt K mg) (LL : Lams K mg cc_law tt_law) (h__law_cell_at : FnD P w K mg base 2 "_law_cell_at" 2 d__law_cell_at_k04) (h__law_is : FnD P w K mg base 1 "_law_is" 2 d__law_is) (h__law_lowest : FnD P w K mg base 1 "_law_lowest" 2 d__law_lowest) (h__law_number : FnD P w K mg base 2 "_law_number" 3 d__law_number) (h__law_odd : FnD P w K mg base 1 "_law_odd" 3 d__law_odd) (h__law_pair : FnD P w K mg base 3 "_law_pair" 2 d__law_pair) (h__law_refused : FnC P w K mg base 4 3 "_law_refused" 1 d__law_refused) (h__law_told : FnD P w K mg base 3 "_law_told" 1 d__law_told) (h_part_1 : FnD P w K mg base 2 "part" 1 d_part_1) (h_part_2 : FnD P w K mg base 2 "part" 2 d_part_2) {ff : Addr} {AA : Around} {oo : List PySem.Env} {ss : Shared} {HH : Hp} {EE : XK} {c : Cc} : CanX (cxOf (L2.CX P w) P w K mg base N_law "law" (defScope st_law) ff (.ref cc_law) AA oo ss HH EE) c 3 (c_law_3 (cxOf (L2.CX P w) P w K mg base N_law "law" (defScope st_law) ff (.ref cc_law) AA oo ss HH EE).env.cells) :=
  canX_cons (X := (cxOf (L2.CX P w) P w K mg base N_law "law" (defScope st_law) ff (.ref cc_law) AA oo ss HH EE)) (c := c) (k := 3) (k1 := 3) (kb := 2) (fb := lb_law_3) (clM := (c_law_2 (cxOf (L2.CX P w) P w K mg base N_law "law" (defScope st_law) ff (.ref cc_law) AA oo ss HH EE).env.cells)) (canx_law_2 T LL h__law_cell_at h__law_is h__law_lowest h__law_number h__law_odd h__law_pair h__law_refused h__law_told h_part_1 h_part_2) LL.l_3 sl_3 fr_3 bl_3 (fun cl A outer s H F E f k st hr HC => have tk := lam_takes (P := P) (w := w) (K := K) (mg := mg) (base := base) (tx := ltx_3) (tok := (cxOf (L2.CX P w) P w K mg base N_law "law" (defScope st_law) ff (.ref cc_law) AA oo ss HH EE).env.cells) (N := NL_3) (A := A) (outer := outer) (s := s) (H := H) (E := E) (f := f) (c := k); have hN := nl_3; (ej_call h_part_2 (hr.mono (by decide)) tk (aj_cons (ej_var 8) (aj_cons ej_int aj_nil)))) (by decide) (by decide)
theorem canx_law (T : Txt K mg) (LL : Lams K mg cc_law tt_law) (h__law_cell_at : FnD P w K mg base 2 "_law_cell_at" 2 d__law_cell_at_k04) (h__law_is : FnD P w K mg base 1 "_law_is" 2 d__law_is) (h__law_lowest : FnD P w K mg base 1 "_law_lowest" 2 d__law_lowest) (h__law_number : FnD P w K mg base 2 "_law_number" 3 d__law_number) (h__law_odd : FnD P w K mg base 1 "_law_odd" 3 d__law_odd) (h__law_pair : FnD P w K mg base 3 "_law_pair" 2 d__law_pair) (h__law_refused : FnC P w K mg base 4 3 "_law_refused" 1 d__law_refused) (h__law_told : FnD P w K mg base 3 "_law_told" 1 d__law_told) (h_part_1 : FnD P w K mg base 2 "part" 1 d_part_1) (h_part_2 : FnD P w K mg base 2 "part" 2 d_part_2) {ff : Addr} {AA : Around} {oo : List PySem.Env} {ss : Shared} {HH : Hp} {EE : XK} {c : Cc} : CanX (cxOf (L2.CX P w) P w K mg base N_law "law" (defScope st_law) ff (.ref cc_law) AA oo ss HH EE) c 3 (c_law (cxOf (L2.CX P w) P w K mg base N_law "law" (defScope st_law) ff (.ref cc_law) AA oo ss HH EE).env.cells) :=
  canX_mono (canx_law_3 T LL h__law_cell_at h__law_is h__law_lowest h__law_number h__law_odd h__law_pair h__law_refused h__law_told h_part_1 h_part_2) (by decide)
theorem ok_law {fa : Addr} (T : Txt K mg) (LL : Lams K mg cc_law tt_law) (hfa : mg "law" = some (.ref fa)) (h__law_cell_at : ∀ base : Heap, BB base → FnD P w K mg base 2 "_law_cell_at" 2 d__law_cell_at_k04) (h__law_is : ∀ base : Heap, BB base → FnD P w K mg base 1 "_law_is" 2 d__law_is) (h__law_lowest : ∀ base : Heap, BB base → FnD P w K mg base 1 "_law_lowest" 2 d__law_lowest) (h__law_number : ∀ base : Heap, BB base → FnD P w K mg base 2 "_law_number" 3 d__law_number) (h__law_odd : ∀ base : Heap, BB base → FnD P w K mg base 1 "_law_odd" 3 d__law_odd) (h__law_pair : ∀ base : Heap, BB base → FnD P w K mg base 3 "_law_pair" 2 d__law_pair) (h__law_refused : ∀ base : Heap, BB base → FnC P w K mg base 4 3 "_law_refused" 1 d__law_refused) (h__law_told : ∀ base : Heap, BB base → FnD P w K mg base 3 "_law_told" 1 d__law_told) (h_part_1 : ∀ base : Heap, BB base → FnD P w K mg base 2 "part" 1 d_part_1) (h_part_2 : ∀ base : Heap, BB base → FnD P w K mg base 2 "part" 2 d_part_2) (hB : ∀ base : Heap, BB base → LamX.TabB base mg cc_law tt_law) (h : ∀ ns : List Int, ns.length ≤ 63 → d_law [.klst (ns.map D.int)] = .ok (.bl true)) :
    ∃ fd : FuncData, (∀ (s : Shared) (u : Value), BindsTo s fd ⟨[u], []⟩ [("_law_script", u)]) ∧ ∀ base : Heap, BB base → FnOk P w K mg base (L2.CX P w) 5 fa fd ["_law_script"] (spLawT K 63) := by
  obtain ⟨fd, hb, hF⟩ := law_ofTM (P := P) (w := w) (k := 4) LL.a_law hfa sc_law b_law (by decide) h
  exact ⟨fd, hb, fun base hB0 => hF base fun f A outer s H F E hr => have B_law := hB base hB0; have h__law_cell_at := h__law_cell_at base hB0; have h__law_is := h__law_is base hB0; have h__law_lowest := h__law_lowest base hB0; have h__law_number := h__law_number base hB0; have h__law_odd := h__law_odd base hB0; have h__law_pair := h__law_pair base hB0; have h__law_refused := h__law_refused base hB0; have h__law_told := h__law_told base hB0; have h_part_1 := h_part_1 base hB0; have h_part_2 := h_part_2 base hB0;  have hN := sc_law.nd; have tk := cx_takes (P := P) (w := w) (K := K) (mg := mg) (base := base) (N := N_law) (x := "law") (sc := defScope st_law) (f := f) (cdv := .ref cc_law) (A := A) (outer := outer) (s := s) (H := H) (E := E); have hp := cx_passes (P := P) (w := w) (K := K) (mg := mg) (base := base) (N := N_law) (x := "law") (sc := defScope st_law) (f := f) (cdv := .ref cc_law) (A := A) (outer := outer) (s := s) (H := H) (E := E);
  (bj_cons (sj_for hp rfl (ij_range1 T.z_range (ar_cons (ej_callB (max2_ok rfl) max2_nx T.z_max (ar_cons ej_int.er (ar_cons (ej_callB (min2_ok rfl) min2_nx T.z_min (ar_cons (ej_callB len_ok len_nx T.z_len (ar_cons (er_var 0) ar_nil)).er (ar_cons ej_int.er ar_nil))).er ar_nil))).er ar_nil)) (gj_nm 1 hN)
  (bj_cons (sj_set 2 (ej_call h__law_cell_at (hr.mono (by decide)) tk (aj_cons (ej_var 0) (aj_cons (ej_var 1) aj_nil))) hN)
    (bj_cons (sj_asg (ej_call h__law_pair (hr.mono (by decide)) tk (aj_cons (ej_var 2) (aj_cons ej_int aj_nil))) (gj_tp (gs_cons 8 (gs_cons 9 gs_nil hN) hN) rfl))
    (bj_cons (sj_set 3 (ej_bin add_op add_nx ej_int.er (ej_call h__law_number (hr.mono (by decide)) tk (aj_cons (ej_var 2) (aj_cons ej_int (aj_cons (ej_ix (eo_lst (aj_cons ej_int (aj_cons ej_int (aj_cons (ej_bin pow_op pow_nx ej_int.er ej_int.er) aj_nil)))).ej.er (ej_bin mod_op mod_nx (er_var 2) ej_int.er).er) aj_nil)))).er) hN)
    (bj_cons (sj_set 4 (ej_bin mul_op mul_nx (ej_ix (eo_lst (aj_cons (ej_var 9) (aj_cons (ej_neg (er_var 9)) aj_nil))).ej.er (ej_bin mod_op mod_nx (ej_bin fdiv_op fdiv_nx (er_var 2) ej_int.er).er ej_int.er).er).er (er_var 3)) hN)
    (bj_cons (sj_set 5 (ej_call h__law_lowest (hr.mono (by decide)) tk (aj_cons (ej_var 8) (aj_cons (ej_var 9) aj_nil))) hN)
    (bj_cons (sj_if (tj_cmp lt_op cmp_nx (er_var 4) ej_int.er)
    (bj_one (sj_set 5 (ej_tup (aj_cons (ej_neg (ej_ix (er_var 5) ej_int.er).er) (aj_cons (ej_ix (er_var 5) ej_int.er) aj_nil))) hN))
    bj_nil)
    (bj_cons (sj_if (tw_tj (tw_or (tj_not (tj_val (ej_call h__law_is (hr.mono (by decide)) tk (aj_cons (ej_call h_part_2 (hr.mono (by decide)) tk (aj_cons (ej_bin mul_op mul_nx (er_var 8) (er_var 3)) (aj_cons (ej_var 4) aj_nil))) (aj_cons (ej_var 5) aj_nil))).er)) (tw_or1 (tj_not (tj_val (ej_call h__law_is (hr.mono (by decide)) tk (aj_cons (ej_call h_part_1 (hr.mono (by decide)) tk (aj_cons (ej_var 8) aj_nil)) (aj_cons (ej_tup (aj_cons (ej_var 8) (aj_cons ej_int aj_nil))) aj_nil))).er)))))
    (bj_one (sj_ret ej_bl))
    bj_nil)
    (bj_cons (sj_if (tj_not (tj_val (ej_call h__law_is (hr.mono (by decide)) tk (aj_cons (ej_call h_part_2 (hr.mono (by decide)) tk (aj_cons ej_int (aj_cons (ej_var 4) aj_nil))) (aj_cons (ej_tup (aj_cons ej_int (aj_cons ej_int aj_nil))) aj_nil))).er))
    (bj_one (sj_ret ej_bl))
    bj_nil)
    (bj_cons (sj_set 6 (ej_call h__law_odd (hr.mono (by decide)) tk (aj_cons (ej_bin fdiv_op fdiv_nx (er_var 2) ej_int.er) (aj_cons (ej_var 8) (aj_cons (ej_var 9) aj_nil)))) hN)
    (bj_cons (sj_if (tj_cmp (ne_op (room_u hr)) ne_nx (eo_comp (own := [("_law_thing", 10)]) rfl hN (ic_seq (eo_lst (aj_cons (ej_var 6) (aj_cons (ej_var 8) (aj_cons (ej_tup (aj_cons (ej_var 8) (aj_cons (ej_var 9) aj_nil))) (aj_cons (ej_var 5) aj_nil))))).ej.er) (blkOk_by (N := N_law) (sc := defScope st_law) (by decide +kernel)) (fun _ _ _ _ _ => (gj_nm 10 hN)) (fun _ _ _ _ _ => (ts_one (tj_not (tj_val (ej_call h__law_told (hr.mono (by decide)) takes0 (aj_cons (ej_var 10) aj_nil)).er)))) (fun _ _ _ _ _ => (ej_var 10)) (by decide)).ej.er (eo_lst aj_nil).ej.er)
    (bj_one (sj_ret ej_bl))
    bj_nil)
    (bj_cons (sj_setO 7 (eo_lst (aj_cons (ej_lam 0 (mkr_of LL.m_law B_law) LL.l_0 fr_0) aj_nil)) hN)
    (bj_cons (sj_app 7 (ej_lam 1 (mkr_of LL.m_law B_law) LL.l_1 fr_1))
    (bj_cons (sj_app 7 (ej_lam 2 (mkr_of LL.m_law B_law) LL.l_2 fr_2))
    (bj_cons (sj_app 7 (ej_lam 3 (mkr_of LL.m_law B_law) LL.l_3 fr_3))
    (bj_one (sj_if (tj_cmp (ne_op (room_u hr)) ne_nx (eo_compM (own := [("_law_work", 11)]) (canx_law T LL h__law_cell_at h__law_is h__law_lowest h__law_number h__law_odd h__law_pair h__law_refused h__law_told h_part_1 h_part_2) rfl hN (ic_seq (er_var 7)) (blkOk_by (N := N_law) (sc := defScope st_law) (by decide +kernel)) (fun _ _ _ _ _ => (gj_nm 11 hN)) (fun cl _ _ _ _ _ _ _ _ CXB => (ts_one (tj_cmp (ne_op (room_u hr)) ne_nx (ej_callM h__law_refused (hr.mono (by decide)) takes0 CXB (aj_cons (ej_var 11) aj_nil)).er ej_str.er))) (fun cl _ _ _ _ _ _ _ _ CXB => (ej_var 11)) (by decide)).ej.er (eo_lst aj_nil).ej.er)
    (bj_one (sj_ret ej_bl))
    bj_nil)))))))))))))))))
  (bj_one (sj_ret ej_bl)))⟩
end
variable {P : Program} {w : World} {K : PySem.W.Frag} {mg : Str → Option Value}
theorem all_ok {fa : Addr} (T : Txt K mg) (LL : Lams K mg cc_law tt_law) (hfa : mg "law" = some (.ref fa)) (h : ∀ ns : List Int, ns.length ≤ 63 → d_law [.klst (ns.map D.int)] = .ok (.bl true)) :
    ∃ fd : FuncData, (∀ (s : Shared) (u : Value), BindsTo s fd ⟨[u], []⟩ [("_law_script", u)]) ∧ ∀ base : Heap, (LamX.TabB base mg cc_law tt_law) → FnOk P w K mg base (L2.CX P w) 5 fa fd ["_law_script"] (spLawT K 63) := by
  have h_common := fun (base : Heap) (hB0 : LamX.TabB base mg cc_law tt_law) => ok_common (P := P) (w := w) (base := base) T
  have h_is_whole := fun (base : Heap) (hB0 : LamX.TabB base mg cc_law tt_law) => ok_is_whole (P := P) (w := w) (base := base) T
  have h_part_1 := fun (base : Heap) (hB0 : LamX.TabB base mg cc_law tt_law) => ok_part_1 (P := P) (w := w) (base := base) T (h_common base hB0) (h_is_whole base hB0)
  have h_part_2 := fun (base : Heap) (hB0 : LamX.TabB base mg cc_law tt_law) => ok_part_2 (P := P) (w := w) (base := base) T (h_common base hB0) (h_is_whole base hB0)
  have h_is_part := fun (base : Heap) (hB0 : LamX.TabB base mg cc_law tt_law) => ok_is_part (P := P) (w := w) (base := base) T (h_common base hB0) (h_is_whole base hB0)
  have h__law_mixed := fun (base : Heap) (hB0 : LamX.TabB base mg cc_law tt_law) => ok__law_mixed (P := P) (w := w) (base := base) T
  have h__law_cell_at := fun (base : Heap) (hB0 : LamX.TabB base mg cc_law tt_law) => ok__law_cell_at (P := P) (w := w) (base := base) T (h__law_mixed base hB0)
  have h__law_number := fun (base : Heap) (hB0 : LamX.TabB base mg cc_law tt_law) => ok__law_number (P := P) (w := w) (base := base) T (h__law_mixed base hB0)
  have h__law_pair := fun (base : Heap) (hB0 : LamX.TabB base mg cc_law tt_law) => ok__law_pair (P := P) (w := w) (base := base) T (h__law_mixed base hB0) (h__law_number base hB0)
  have h__law_lowest := fun (base : Heap) (hB0 : LamX.TabB base mg cc_law tt_law) => ok__law_lowest (P := P) (w := w) (base := base) T
  have h__law_is := fun (base : Heap) (hB0 : LamX.TabB base mg cc_law tt_law) => ok__law_is (P := P) (w := w) (base := base) T
  have h__law_word := fun (base : Heap) (hB0 : LamX.TabB base mg cc_law tt_law) => ok__law_word (P := P) (w := w) (base := base) T
  have h__law_refused := fun (base : Heap) (hB0 : LamX.TabB base mg cc_law tt_law) => ok__law_refused (P := P) (w := w) (base := base) T (h__law_word base hB0)
  have h__law_whole := fun (base : Heap) (hB0 : LamX.TabB base mg cc_law tt_law) => ok__law_whole (P := P) (w := w) (base := base) T
  have h__law_is_part := fun (base : Heap) (hB0 : LamX.TabB base mg cc_law tt_law) => ok__law_is_part (P := P) (w := w) (base := base) T (h__law_lowest base hB0) (h__law_whole base hB0)
  have h__law_odd := fun (base : Heap) (hB0 : LamX.TabB base mg cc_law tt_law) => ok__law_odd (P := P) (w := w) (base := base) T
  have h__law_told := fun (base : Heap) (hB0 : LamX.TabB base mg cc_law tt_law) => ok__law_told (P := P) (w := w) (base := base) T (h__law_is_part base hB0) (h__law_whole base hB0) (h_is_part base hB0) (h_is_whole base hB0)
  exact ok_law (BB := fun base => LamX.TabB base mg cc_law tt_law) T LL hfa h__law_cell_at h__law_is h__law_lowest h__law_number h__law_odd h__law_pair h__law_refused h__law_told h_part_1 h_part_2 (fun _ hB0 => hB0) h
end
end
end Walk

set_option maxHeartbeats 4000000
/-! FV7: the denotations evaluated (simp rows), facts of ints, parts. -/
namespace FV
open PySem L2
/-- for the layer's facts that do not speak of tables -/
instance (priority := low) noTbs : Tbs := {}
/-! ### simp rows -/
@[simp] theorem bind_ok' {α β : Type} {a : α} {k : α → Res β} : (Res.ok a).bind k = k a := rfl
@[simp] theorem bind_exn' {α β : Type} {x : Str} {k : α → Res β} : (Res.exn x : Res α).bind k = .exn x := rfl
@[simp] theorem bind_stuck' {α β : Type} {k : α → Res β} : (Res.stuck : Res α).bind k = .stuck := rfl
@[simp] theorem lift_ok {α : Type} {a : α} {ρ : En} {k : α → SRes} : lift (.ok a) ρ k = k a := rfl
@[simp] theorem lift_exn {α : Type} {x : Str} {ρ : En} {k : α → SRes} : lift (.exn x) ρ k = .exn x ρ := rfl
@[simp] theorem dBin_ev {g : D → D → Res D} {a b : Den} {ρ : En} : dBin g a b ρ = (a ρ).bind fun x => (b ρ).bind fun y => g x y := rfl
@[simp] theorem dUn_ev {g : D → Res D} {a : Den} {ρ : En} : dUn g a ρ = (a ρ).bind g := rfl
@[simp] theorem dC_ev {d : D} {ρ : En} : dC d ρ = .ok d := rfl
@[simp] theorem dVar_0 {d : D} {ρ : En} : dVar 0 (some (.frz d) :: ρ) = .ok d := rfl
@[simp] theorem dVar_s {i : Nat} {x : Option Sl} {ρ : En} : dVar (i + 1) (x :: ρ) = dVar i ρ := by simp [dVar]
@[simp] theorem dVarR_0 {d : D} {ρ : En} : dVarR 0 (some (.frz d) :: ρ) = .ok d := rfl
@[simp] theorem dVarR_0o {ds : List D} {ρ : En} : dVarR 0 (some (.own ds) :: ρ) = .ok (.lst ds) := rfl
@[simp] theorem dVarR_s {i : Nat} {x : Option Sl} {ρ : En} : dVarR (i + 1) (x :: ρ) = dVarR i ρ := by simp [dVarR]
@[simp] theorem aNil_ev {ρ : En} : aNil ρ = .ok [] := rfl
@[simp] theorem aCons_ev {f : Den} {g : DenA} {ρ : En} : aCons f g ρ = (f ρ).bind fun d => (g ρ).bind fun ds => .ok (d :: ds) := rfl
@[simp] theorem dTup_ev {g : DenA} {ρ : En} : dTup g ρ = (g ρ).bind fun ds => if ds.length ≤ 1000 then .ok (.tup ds) else .stuck := rfl
@[simp] theorem dLst_ev {g : DenA} {ρ : En} : dLst g ρ = (g ρ).bind fun ds => if ds.length ≤ 1000 then .ok (.lst ds) else .stuck := rfl
@[simp] theorem dCall_ev {g : List D → Res D} {fs : DenA} {ρ : En} : dCall g fs ρ = (fs ρ).bind g := rfl
@[simp] theorem tVal_ev {f : Den} {ρ : En} : tVal f ρ = (f ρ).bind asB := rfl
@[simp] theorem asB_ev {b : Bool} : asB (.bl b) = .ok b := rfl
@[simp] theorem tNotB_ev {t : En → Res Bool} {ρ : En} : tNotB t ρ = (t ρ).bind fun b => .ok (!b) := rfl
@[simp] theorem tAndB_ev {t u : En → Res Bool} {ρ : En} : tAndB t u ρ = (t ρ).bind fun b => if b = true then u ρ else .ok false := rfl
@[simp] theorem tOrB_ev {t u : En → Res Bool} {ρ : En} : tOrB t u ρ = (t ρ).bind fun b => if b = true then .ok true else u ρ := rfl
@[simp] theorem tYesB_ev {ρ : En} : tYesB ρ = .ok true := rfl
@[simp] theorem dAnd_ev {f g : Den} {ρ : En} : dAnd f g ρ = (f ρ).bind fun a => (asB a).bind fun b => if b = true then g ρ else .ok (.bl false) := rfl
@[simp] theorem dOr_ev {f g : Den} {ρ : En} : dOr f g ρ = (f ρ).bind fun a => (asB a).bind fun b => if b = true then .ok (.bl true) else g ρ := rfl
@[simp] theorem dIf_ev {t : En → Res Bool} {f g : Den} {ρ : En} : dIf t f g ρ = (t ρ).bind fun b => if b = true then f ρ else g ρ := rfl
@[simp] theorem notD_ev {b : Bool} : notD (.bl b) = .ok (.bl (!b)) := rfl
@[simp] theorem notD_lst {ds : List D} : notD (.lst ds) = .ok (.bl ds.isEmpty) := by simp [notD, truD]
@[simp] theorem negD_ev {i : Int} : negD (.int i) = .ok (.int (-i)) := rfl
@[simp] theorem sSet_ev {i : Nat} {f : Den} {ρ : En} : sSet i f ρ = lift (f ρ) ρ fun d => .next (ρ.set i (some (.frz d))) := rfl
@[simp] theorem sSetO_ev {i : Nat} {f : Den} {ρ : En} : sSetO i f ρ = lift (f ρ) ρ (setO ρ i) := rfl
@[simp] theorem setO_ev {i : Nat} {ds : List D} {ρ : En} : setO ρ i (.lst ds) = .next (ρ.set i (some (.own ds))) := rfl
@[simp] theorem sExpr_ev {f : Den} {ρ : En} : sExpr f ρ = lift (f ρ) ρ fun _ => .next ρ := rfl
@[simp] theorem sRet_ev {f : Den} {ρ : En} : sRet f ρ = lift (f ρ) ρ fun d => .ret d := rfl
@[simp] theorem sPass_ev {ρ : En} : sPass ρ = .next ρ := rfl
@[simp] theorem sCont_ev {ρ : En} : sCont ρ = .cont ρ := rfl
@[simp] theorem sBrk_ev {ρ : En} : sBrk ρ = .brk ρ := rfl
@[simp] theorem sRetN_ev {ρ : En} : sRetN ρ = .ret .non := rfl
@[simp] theorem bNil_ev {ρ : En} : bNil ρ = .next ρ := rfl
@[simp] theorem bSeq_ev {g h : SDen} {ρ : En} : bSeq g h ρ = match g ρ with | .next ρ' => h ρ' | r => r := rfl
@[simp] theorem sIf_ev {t : En → Res Bool} {g h : SDen} {ρ : En} : sIf t g h ρ = lift (t ρ) ρ fun b => if b = true then g ρ else h ρ := by
  unfold sIf
  cases t ρ with
  | ok b => cases b <;> rfl
  | exn x => rfl
  | stuck => rfl
@[simp] theorem sAsg_ev {T : Tg} {f : Den} {ρ : En} : sAsg T f ρ = lift (f ρ) ρ fun d => match asg T d ρ with | .ok ρ' => .next ρ' | _ => .stuck := rfl
@[simp] theorem sPar_ev {i j : Nat} {f g : Den} {ρ : En} : sPar i j f g ρ = lift (f ρ) ρ fun a => lift (g ρ) ρ fun b => .next ((ρ.set i (some (.frz a))).set j (some (.frz b))) := rfl
@[simp] theorem sFor_ev {f : DenI} {T : Tg} {g : SDen} {ρ : En} : sFor f T g ρ = lift (f ρ) ρ fun ds => forD T g ds ρ := by
  unfold sFor; cases f ρ <;> rfl
@[simp] theorem asg_nm {i : Nat} {d : D} {ρ : En} : asg (.nm i) d ρ = .ok (ρ.set i (some (.frz d))) := rfl
@[simp] theorem asg_tp {is : List Nat} {ds : List D} {ρ : En} : asg (.tp is) (.tup ds) ρ = if ds.length = is.length then .ok (sets is ds ρ) else .stuck := rfl
@[simp] theorem sets_cons {i : Nat} {is : List Nat} {d : D} {ds : List D} {ρ : En} : sets (i :: is) (d :: ds) ρ = sets is ds (ρ.set i (some (.frz d))) := rfl
@[simp] theorem sets_nil {ds : List D} {ρ : En} : sets [] ds ρ = ρ := by cases ds <;> rfl
@[simp] theorem iSeq_ev {f : Den} {ρ : En} : iSeq f ρ = (f ρ).bind itemsR := rfl
@[simp] theorem itemsR_tup {ds : List D} : itemsR (.tup ds) = .ok ds := rfl
@[simp] theorem itemsR_lst {ds : List D} : itemsR (.lst ds) = .ok ds := rfl
@[simp] theorem itemsR_klst {ds : List D} : itemsR (.klst ds) = .ok ds := rfl
@[simp] theorem iRng_ev {fs : DenA} {ρ : En} : iRng fs ρ = (fs ρ).bind rng1 := rfl
@[simp] theorem iEnumD_ev {fs : DenA} {ρ : En} : iEnumD fs ρ = (fs ρ).bind enumR := rfl
@[simp] theorem enumR_tup {ds : List D} : enumR [.tup ds] = .ok (enumL ds) := rfl
@[simp] theorem enumR_lst {ds : List D} : enumR [.lst ds] = .ok (enumL ds) := rfl
@[simp] theorem enumR_klst {ds : List D} : enumR [.klst ds] = .ok (enumL ds) := rfl
@[simp] theorem iZipD_ev {fs : DenA} {ρ : En} : iZipD fs ρ = (fs ρ).bind zipR := rfl
@[simp] theorem zipR_tup {ds es : List D} : zipR [.tup ds, .tup es] = .ok (zipL ds es) := rfl
@[simp] theorem zipR_lst {ds es : List D} : zipR [.lst ds, .lst es] = .ok (zipL ds es) := rfl
@[simp] theorem addD_int {i j : Int} : addD (.int i) (.int j) = .ok (.int (i + j)) := rfl
@[simp] theorem subD_int {i j : Int} : subD (.int i) (.int j) = .ok (.int (i - j)) := rfl
@[simp] theorem ltD_int {i j : Int} : ltD (.int i) (.int j) = .ok (.bl (decide (i < j))) := rfl
@[simp] theorem leD_int {i j : Int} : leD (.int i) (.int j) = .ok (.bl (decide (i ≤ j))) := rfl
@[simp] theorem gtD_int {i j : Int} : gtD (.int i) (.int j) = .ok (.bl (decide (j < i))) := rfl
@[simp] theorem geD_int {i j : Int} : geD (.int i) (.int j) = .ok (.bl (decide (j ≤ i))) := rfl
@[simp] theorem lenD_tup {ds : List D} : lenD [.tup ds] = .ok (.int ds.length) := rfl
@[simp] theorem lenD_lst {ds : List D} : lenD [.lst ds] = .ok (.int ds.length) := rfl
@[simp] theorem lenD_klst {ds : List D} : lenD [.klst ds] = .ok (.int ds.length) := rfl
@[simp] theorem max2D_int {i j : Int} : max2D [.int i, .int j] = .ok (.int (if j > i then j else i)) := rfl
@[simp] theorem min2D_int {i j : Int} : min2D [.int i, .int j] = .ok (.int (if j < i then j else i)) := rfl
@[simp] theorem absD_int {i : Int} : absD [.int i] = .ok (.int (if i < 0 then -i else i)) := rfl
@[simp] theorem int1D_int {i : Int} : int1D [.int i] = .ok (.int i) := rfl
@[simp] theorem int1D_bl {b : Bool} : int1D [.bl b] = .ok (.int (if b then 1 else 0)) := rfl
@[simp] theorem tyName_1 : tyName .non = some "NoneType" := rfl
@[simp] theorem tyName_2 {b : Bool} : tyName (.bl b) = some "bool" := rfl
@[simp] theorem tyName_3 {i : Int} : tyName (.int i) = some "int" := rfl
@[simp] theorem tyName_4 {x : Str} : tyName (.str x) = some "str" := rfl
@[simp] theorem tyName_5 {ds : List D} : tyName (.tup ds) = some "tuple" := rfl
@[simp] theorem tyName_6 {ds : List D} : tyName (.lst ds) = some "list" := rfl
@[simp] theorem tyName_7 {ds : List D} : tyName (.klst ds) = some "list" := rfl
theorem isiD_ev {T t : String} {d : D} (h : tyName d = some t) : isiD T d = .ok (.bl (isSub t T)) := by unfold isiD; rw [h]
@[simp] theorem ixD_tup {ds : List D} {i : Int} : ixD (.tup ds) (.int i) = match atI ds i with | some e => .ok e | none => .stuck := rfl
@[simp] theorem ixD_lst {ds : List D} {i : Int} : ixD (.lst ds) (.int i) = match atI ds i with | some e => .ok e | none => .stuck := rfl
@[simp] theorem ixD_klst {ds : List D} {i : Int} : ixD (.klst ds) (.int i) = match atI ds i with | some e => .ok e | none => .stuck := rfl
theorem atI_lt {ds : List D} {i : Int} {d : D} (h0 : 0 ≤ i) (h : ds[i.toNat]? = some d) : atI ds i = some d := by
  have e := atI_nat (xs := ds) (j := i.toNat) (v := d) h
  rw [show ((i.toNat : Nat) : Int) = i by omega] at e
  exact e
theorem runB_ret {g : SDen} {n : Nat} {ds : List D} {d : D} (h : g (ds.map (fun d => some (.frz d)) ++ List.replicate (n - ds.length) none) = .ret d) : runB g n ds = .ok d := by unfold runB; rw [h]

/-! ### numbers -/
theorem mulOk_r {i j : Int} (h1 : -18446744073709551616 < j) (h2 : j < 18446744073709551616) : MulOk i j := .inl (.inr ⟨h1, h2⟩)
theorem mulOk_l {i j : Int} (h1 : -18446744073709551616 < i) (h2 : i < 18446744073709551616) : MulOk i j := .inl (.inl ⟨h1, h2⟩)
/-- below 2 ^ n either way -/
def Sm (n : Nat) (i : Int) : Prop := i.natAbs < 2 ^ n
theorem mulOk_w {i j : Int} {a b : Nat} (ha : Sm a i) (hb : Sm b j) (h0 : 0 < a) (h1 : 0 < b) (h : a + b ≤ 1000000) : MulOk i j := .inr (wide_mul ha hb h0 h1 h)
theorem sm_mul {i j : Int} {a b : Nat} (ha : Sm a i) (hb : Sm b j) : Sm (a + b) (i * j) := wide_lt ha hb
theorem sm_add {i j : Int} {a : Nat} (ha : Sm a i) (hb : Sm a j) : Sm (a + 1) (i + j) := by unfold Sm at *; rw [Nat.pow_succ]; omega
theorem sm_sub {i j : Int} {a : Nat} (ha : Sm a i) (hb : Sm a j) : Sm (a + 1) (i - j) := by unfold Sm at *; rw [Nat.pow_succ]; omega
theorem sm_neg {i : Int} {a : Nat} (ha : Sm a i) : Sm a (-i) := by unfold Sm at *; rw [Int.natAbs_neg]; exact ha
theorem sm_mono {i : Int} {a b : Nat} (ha : Sm a i) (h : a ≤ b) : Sm b i := Nat.lt_of_lt_of_le ha (Nat.pow_le_pow_right (by decide) h)
theorem sm_zero {a : Nat} : Sm a 0 := Nat.two_pow_pos a
theorem sm_one {a : Nat} (h : a ≠ 0) : Sm a 1 := Nat.one_lt_two_pow h
theorem divOk_of {j : Int} {b : Nat} (h : j ≠ 0) (hb : Sm b j) (h0 : 0 < b) (h9 : b ≤ 9000) : DivOk j := ⟨h, Nat.lt_of_lt_of_le (PySem.Flt.log2_lt_of h0 hb) h9⟩
theorem mulD_int {i j : Int} (h : MulOk i j) : mulD (.int i) (.int j) = .ok (.int (i * j)) := if_pos h
theorem fdivD_int {i j : Int} (h : DivOk j) : fdivD (.int i) (.int j) = .ok (.int (i.fdiv j)) := if_pos h
theorem modD_int {i j : Int} (h : 0 < j) : modD (.int i) (.int j) = .ok (.int (i % j)) := if_pos h
theorem powD_int {i j : Int} (h : PowOk i j) : powD (.int i) (.int j) = .ok (.int (i ^ j.toNat)) := if_pos h
end FV

set_option maxHeartbeats 4000000
/-! FV8: loops by their turns; the greatest divisor; fractions. -/
namespace FV
/-! ### loops -/
/-- a for whose turns go on -/
theorem forD_inv {T : Tg} {body : SDen} (I : Nat → En → Prop) : ∀ (ds : List D) (k : Nat) (ρ : En), I k ρ → (∀ i d ρ, ds[i]? = some d → I (k + i) ρ → ∃ ρ1 ρ2, asg T d ρ = .ok ρ1 ∧ (body ρ1 = .next ρ2 ∨ body ρ1 = .cont ρ2) ∧ I (k + i + 1) ρ2) → ∃ ρ', forD T body ds ρ = .next ρ' ∧ I (k + ds.length) ρ'
  | [], k, ρ, h0, _ => ⟨ρ, rfl, h0⟩
  | d :: ds, k, ρ, h0, hs => by
    obtain ⟨ρ1, ρ2, e1, e2, h2⟩ := hs 0 d ρ rfl h0
    obtain ⟨ρ', e3, h3⟩ := forD_inv I ds (k + 1) ρ2 h2 fun i d ρ hd hi => by
      have := hs (i + 1) d ρ (by simpa using hd) (by rw [show k + (i + 1) = k + 1 + i by omega]; exact hi)
      rw [show k + (i + 1) + 1 = k + 1 + i + 1 by omega] at this
      exact this
    refine ⟨ρ', ?_, by rw [List.length_cons, show k + (ds.length + 1) = k + 1 + ds.length by omega]; exact h3⟩
    unfold forD
    rw [e1]
    rcases e2 with e2 | e2 <;> simp only [e2] <;> exact e3
/-- a for as a fold: the state s is told by R -/
theorem forD_fold {α : Type} {T : Tg} {body : SDen} (R : α → En) (f : α → D → α) : ∀ (ds : List D) (s : α), (∀ s d, d ∈ ds → ∃ ρ1, asg T d (R s) = .ok ρ1 ∧ (body ρ1 = .next (R (f s d)) ∨ body ρ1 = .cont (R (f s d)))) → forD T body ds (R s) = .next (R (ds.foldl f s))
  | [], s, _ => rfl
  | d :: ds, s, hs => by
    obtain ⟨ρ1, e1, e2⟩ := hs s d (by simp)
    unfold forD
    rw [e1]
    have ih := forD_fold R f ds (f s d) fun s d hd => hs s d (List.mem_cons_of_mem _ hd)
    rcases e2 with e2 | e2 <;> simp only [e2] <;> exact ih
theorem whN_mono {t : En → Res Bool} {g : SDen} : ∀ {n : Nat} {ρ : En} {r : SRes}, whN t g n ρ = some r → ∀ m, n ≤ m → whN t g m ρ = some r
  | 0, _, _, h, _, _ => by cases h
  | n + 1, ρ, r, h, m, hm => by
    obtain ⟨k, rfl⟩ : ∃ k, m = k + 1 := ⟨m - 1, by omega⟩
    unfold whN at h ⊢
    cases e1 : t ρ with
    | ok b =>
      rw [e1] at h
      cases b with
      | false => exact h
      | true =>
        cases e2 : g ρ with
        | next ρ' => simp only [e2] at h ⊢; exact whN_mono h k (by omega)
        | cont ρ' => simp only [e2] at h ⊢; exact whN_mono h k (by omega)
        | brk ρ' => simp only [e2] at h ⊢; exact h
        | ret d => simp only [e2] at h ⊢; exact h
        | exn x ρ' => simp only [e2] at h ⊢; exact h
        | stuck => simp only [e2] at h ⊢; exact h
    | exn x => rw [e1] at h; exact h
    | stuck => rw [e1] at h; exact h
theorem whD_of {t : En → Res Bool} {g : SDen} {n : Nat} {ρ : En} {r : SRes} (h : whN t g n ρ = some r) : whD t g ρ = r := by
  have hx : ∃ r n, whN t g n ρ = some r := ⟨r, n, h⟩
  unfold whD
  rw [dif_pos hx]
  obtain ⟨m, hm⟩ := hx.choose_spec
  have h1 := whN_mono hm (max n m) (by omega)
  have h2 := whN_mono h (max n m) (by omega)
  rw [h1] at h2
  exact Option.some.inj h2
theorem whD_done {t : En → Res Bool} {g : SDen} {ρ : En} (h : t ρ = .ok false) : whD t g ρ = .next ρ := whD_of (n := 1) (by unfold whN; rw [h])
theorem whD_turn {t : En → Res Bool} {g : SDen} {ρ ρ' : En} (h : t ρ = .ok true) (hg : g ρ = .next ρ') {r : SRes} (hr : ∃ n, whN t g n ρ' = some r) : whD t g ρ = r := by
  obtain ⟨n, hn⟩ := hr
  exact whD_of (n := n + 1) (by unfold whN; rw [h]; simp only [hg]; exact hn)
theorem whN_turn {t : En → Res Bool} {g : SDen} {ρ ρ' : En} {n : Nat} {r : SRes} (h : t ρ = .ok true) (hg : g ρ = .next ρ') (hr : whN t g n ρ' = some r) : whN t g (n + 1) ρ = some r := by
  unfold whN; rw [h]; simp only [hg]; exact hr
theorem whN_done {t : En → Res Bool} {g : SDen} {ρ : En} (h : t ρ = .ok false) : whN t g 1 ρ = some (.next ρ) := by unfold whN; rw [h]
/-- a while by a measure and its one-turn function -/
theorem whN_meas {α : Type} {t : En → Res Bool} {g : SDen} (R : α → En) (p : α → Bool) (f : α → α) (μ : α → Nat) (fin : α → α) (I : α → Prop)
    (ht : ∀ s, I s → t (R s) = .ok (p s)) (hg : ∀ s, I s → p s = true → g (R s) = .next (R (f s))) (hI : ∀ s, I s → p s = true → I (f s)) (hm : ∀ s, I s → p s = true → μ (f s) < μ s)
    (f1 : ∀ s, I s → p s = true → fin (f s) = fin s) (f0 : ∀ s, I s → p s = false → fin s = s) : ∀ (n : Nat) (s : α), I s → μ s ≤ n → ∃ m, whN t g m (R s) = some (.next (R (fin s))) := by
  intro n
  induction n with
  | zero =>
    intro s hs hn
    cases e : p s with
    | true => have := hm s hs e; omega
    | false => exact ⟨1, by rw [f0 s hs e]; exact whN_done (by rw [ht s hs, e])⟩
  | succ n ih =>
    intro s hs hn
    cases e : p s with
    | true =>
      obtain ⟨m, h⟩ := ih (f s) (hI s hs e) (by have := hm s hs e; omega)
      rw [f1 s hs e] at h
      exact ⟨m + 1, whN_turn (by rw [ht s hs, e]) (hg s hs e) h⟩
    | false => exact ⟨1, by rw [f0 s hs e]; exact whN_done (by rw [ht s hs, e])⟩
/-- the greatest divisor -/
theorem gcd_loop {t : En → Res Bool} {g : SDen} (R : Nat → Nat → En) (ht : ∀ a b, t (R a b) = .ok (decide (0 < b))) (hg : ∀ a b, 0 < b → g (R a b) = .next (R b (a % b))) (a b : Nat) : whD t g (R a b) = .next (R (Nat.gcd a b) 0) := by
  obtain ⟨m, h⟩ := whN_meas (α := Nat × Nat) (t := t) (g := g) (fun s => R s.1 s.2) (fun s => decide (0 < s.2)) (fun s => (s.2, s.1 % s.2)) (fun s => s.2) (fun s => (Nat.gcd s.1 s.2, 0)) (fun _ => True)
    (fun s _ => ht _ _) (fun s _ h => hg _ _ (of_decide_eq_true h)) (fun _ _ _ => trivial) (fun s _ h => Nat.mod_lt _ (of_decide_eq_true h))
    (fun s _ h => by
      show (Nat.gcd s.2 (s.1 % s.2), 0) = (Nat.gcd s.1 s.2, 0)
      rw [Nat.gcd_comm s.2, ← Nat.gcd_rec, Nat.gcd_comm])
    (fun s _ h => by
      have h0 : s.2 = 0 := by have := of_decide_eq_false h; omega
      obtain ⟨x, y⟩ := s
      subst h0
      simp) b (a, b) trivial (Nat.le_refl _)
  exact whD_of h

/-! ### fractions: a pair in lowest terms is a number of Rat -/
def pt (q : Rat) : D := .tup [.int q.num, .int (q.den : Int)]
theorem red_pos (u v : Int) (hv : 0 < v) : u.fdiv ((Nat.gcd u.natAbs v.natAbs : Nat) : Int) = (Rat.divInt u v).num ∧ v.fdiv ((Nat.gcd u.natAbs v.natAbs : Nat) : Int) = ((Rat.divInt u v).den : Int) := by
  have hg : 0 < Nat.gcd u.natAbs v.natAbs := Nat.gcd_pos_of_pos_right _ (by omega)
  have e : Int.gcd v u = Nat.gcd u.natAbs v.natAbs := Nat.gcd_comm _ _
  have hs : v.sign = 1 := Int.sign_eq_one_of_pos hv
  rw [Rat.num_divInt, Rat.den_divInt, if_neg (by omega), e, hs, Int.one_mul]
  rw [Int.fdiv_eq_ediv_of_nonneg _ (by omega), Int.fdiv_eq_ediv_of_nonneg _ (by omega)]
  refine ⟨rfl, ?_⟩
  rw [Int.natCast_ediv]
  congr 1
  omega
theorem red_neg (u v : Int) (hv : v < 0) : u.fdiv (-((Nat.gcd u.natAbs v.natAbs : Nat) : Int)) = (Rat.divInt u v).num ∧ v.fdiv (-((Nat.gcd u.natAbs v.natAbs : Nat) : Int)) = ((Rat.divInt u v).den : Int) := by
  have h := red_pos (-u) (-v) (by omega)
  rw [Int.natAbs_neg, Int.natAbs_neg, Rat.neg_divInt_neg] at h
  refine ⟨?_, ?_⟩
  · rw [← h.1]
    rw [← Int.neg_fdiv_neg]
    simp
  · rw [← h.2]
    rw [← Int.neg_fdiv_neg]
    simp
theorem den_le (u v : Int) (hv : v ≠ 0) : (Rat.divInt u v).den ≤ v.natAbs := by
  rw [Rat.den_divInt, if_neg hv]
  exact Nat.div_le_self _ _
theorem num_le (u v : Int) : (Rat.divInt u v).num.natAbs ≤ u.natAbs := by
  rw [Rat.num_divInt]
  have h1 : (v.sign * u / ((Int.gcd v u : Nat) : Int)).natAbs ≤ (v.sign * u).natAbs := Int.natAbs_ediv_le_natAbs _ _
  have h2 : (v.sign * u).natAbs ≤ u.natAbs := by
    rw [Int.natAbs_mul, Int.natAbs_sign]
    split
    · omega
    · omega
  omega
/-- a fraction whose parts have less than n bits -/
def SmQ (n : Nat) (q : Rat) : Prop := Sm n q.num ∧ Sm n (q.den : Int)
theorem smQ_low {u v : Int} {n : Nat} (hu : Sm n u) (hv : Sm n v) (h : v ≠ 0) : SmQ n (Rat.divInt u v) := by
  have a1 := num_le u v
  have a2 := den_le u v h
  refine ⟨Nat.lt_of_le_of_lt a1 hu, ?_⟩
  unfold Sm
  rw [Int.natAbs_natCast]
  exact Nat.lt_of_le_of_lt a2 hv
theorem smQ_mono {q : Rat} {a b : Nat} (h : SmQ a q) (hab : a ≤ b) : SmQ b q := ⟨sm_mono h.1 hab, sm_mono h.2 hab⟩
theorem smQ_neg {q : Rat} {a : Nat} (h : SmQ a q) : SmQ a (-q) := ⟨by rw [Rat.neg_num]; exact sm_neg h.1, by rw [Rat.neg_den]; exact h.2⟩
theorem rng1_nat {n : Nat} (h : n < 1000000000) : rng1 [.int (n : Int)] = .ok (rangeL 0 n) := by
  have e : rng1 [.int (n : Int)] = if -(2 ^ 62) ≤ (n : Int) ∧ (n : Int) < 2 ^ 62 then .ok (rangeL 0 (n : Int).toNat) else .stuck := rfl
  rw [e, if_pos ⟨by omega, by omega⟩, Int.toNat_natCast]
theorem rangeL_get {lo : Int} {n i : Nat} {d : D} (h : (rangeL lo n)[i]? = some d) : i < n ∧ d = .int (lo + (i : Int)) := by
  unfold rangeL at h
  rw [List.getElem?_map] at h
  obtain ⟨j, e1, rfl⟩ := Option.map_eq_some_iff.mp h
  have hi := (List.getElem?_eq_some_iff.mp e1).1
  rw [List.length_range] at hi
  rw [List.getElem?_range hi] at e1
  cases e1
  exact ⟨hi, rfl⟩
theorem range0_get {n i : Nat} {d : D} (h : (rangeL 0 n)[i]? = some d) : i < n ∧ d = .int (i : Int) := by
  obtain ⟨h1, h2⟩ := rangeL_get h
  rw [Int.zero_add] at h2
  exact ⟨h1, h2⟩
theorem atI_nn {α : Type} {xs : List α} (n : Nat) : L2.atI xs (n : Int) = xs[n]? := by
  unfold L2.atI L2.ixN
  rw [if_pos (by omega)]
  by_cases h : (n : Int) < xs.length
  · rw [if_pos h]; simp
  · rw [if_neg h]; simp; omega
@[simp] theorem atI_zero {α : Type} {xs : List α} : L2.atI xs 0 = xs[0]? := atI_nn 0
@[simp] theorem atI_one {α : Type} {xs : List α} : L2.atI xs 1 = xs[1]? := atI_nn 1
@[simp] theorem atI_ofNat {α : Type} {xs : List α} {n : Nat} : L2.atI xs (no_index (OfNat.ofNat n : Int)) = xs[n]? := atI_nn n
@[simp] theorem atI_cast {α : Type} {xs : List α} {n : Nat} : L2.atI xs (n : Int) = xs[n]? := atI_nn n
@[simp] theorem ix_pt0 {q : Rat} : ixD (pt q) (.int 0) = .ok (.int q.num) := rfl
@[simp] theorem ix_pt1 {q : Rat} : ixD (pt q) (.int 1) = .ok (.int (q.den : Int)) := rfl
end FV

set_option maxHeartbeats 4000000
/-! FV9: == of plain data is being the same. -/
namespace FV
open PySem PySem.PyData
/-- data without ints (b) or without truths (not b), n deep -/
inductive Pl (b : Bool) : Nat → D → Prop
  | non {n : Nat} : Pl b n .non
  | str {n : Nat} {x : Str} (h : strOk x = true) : Pl b n (.str x)
  | int {n : Nat} {i : Int} (h : b = false) : Pl b n (.int i)
  | bl {n : Nat} {v : Bool} (h : b = true) : Pl b n (.bl v)
  | tup {n : Nat} {ds : List D} (h : ∀ d, d ∈ ds → Pl b n d) : Pl b (n + 1) (.tup ds)
  | lst {n : Nat} {ds : List D} (h : ∀ d, d ∈ ds → Pl b n d) : Pl b (n + 1) (.lst ds)
theorem toPs_of {n : Nat} : ∀ {ds : List D}, (∀ d, d ∈ ds → ∃ p, toP d = some p ∧ canLay0 p = true ∧ depth p ≤ n) → ∃ ps, toPs ds = some ps ∧ canLayAll0 ps = true ∧ depthAll ps ≤ n
  | [], _ => ⟨[], by simp [toPs], by simp [canLayAll0], by simp [depthAll]⟩
  | d :: ds, h => by
    obtain ⟨p, h1, h2, h3⟩ := h d (by simp)
    obtain ⟨ps, k1, k2, k3⟩ := toPs_of (ds := ds) fun e he => h e (List.mem_cons_of_mem _ he)
    refine ⟨p :: ps, by simp [toPs, h1, k1], by simp [canLayAll0, h2, k2], ?_⟩
    simp only [depthAll]
    omega
theorem Pl.toP {b : Bool} {n : Nat} {d : D} (h : Pl b n d) : ∃ p, toP d = some p ∧ canLay0 p = true ∧ depth p ≤ n := by
  induction h with
  | non => exact ⟨.none, by simp [FV.toP], by simp [canLay0], by simp [depth]⟩
  | @str n x h => exact ⟨.str x, by simp [FV.toP], by simpa [canLay0] using h, by simp [depth]⟩
  | @int n i h => exact ⟨.int i, by simp [FV.toP], by simp [canLay0], by simp [depth]⟩
  | @bl n v h => exact ⟨.bool v, by simp [FV.toP], by simp [canLay0], by simp [depth]⟩
  | tup h ih =>
    obtain ⟨ps, k1, k2, k3⟩ := toPs_of ih
    exact ⟨.tuple ps, by simp [FV.toP, k1], by simpa [canLay0] using k2, by simpa [depth] using k3⟩
  | lst h ih =>
    obtain ⟨ps, k1, k2, k3⟩ := toPs_of ih
    exact ⟨.list ps, by simp [FV.toP, k1], by simpa [canLay0] using k2, by simpa [depth] using k3⟩
theorem toPs_cons {d : D} {ds : List D} {ps : List PyData} (h : toPs (d :: ds) = some ps) : ∃ p qs, toP d = some p ∧ toPs ds = some qs ∧ ps = p :: qs := by
  simp only [toPs] at h
  split at h
  · cases h; exact ⟨_, _, by assumption, by assumption, rfl⟩
  · cases h
theorem toPs_nil {ps : List PyData} (h : toPs [] = some ps) : ps = [] := by simp [toPs] at h; first | exact h | exact h.symm
theorem eqvAll_of {m : Nat} {b : Bool} : ∀ {ds es : List D} {ps qs : List PyData}, (∀ d, d ∈ ds → ∀ (m : Nat) (e : D) (p q : PyData), Pl b m e → toP d = some p → toP e = some q → (eqv p q = true ↔ d = e)) → (∀ e, e ∈ es → Pl b m e) → toPs ds = some ps → toPs es = some qs → (eqvAll ps qs = true ↔ ds = es)
  | [], [], ps, qs, _, _, h1, h2 => by rw [toPs_nil h1, toPs_nil h2]; simp [eqvAll]
  | [], e :: es, ps, qs, _, _, h1, h2 => by
    obtain ⟨q, qs', _, _, rfl⟩ := toPs_cons h2
    rw [toPs_nil h1]; simp [eqvAll]
  | d :: ds, [], ps, qs, _, _, h1, h2 => by
    obtain ⟨q, qs', _, _, rfl⟩ := toPs_cons h1
    rw [toPs_nil h2]; simp [eqvAll]
  | d :: ds, e :: es, ps, qs, hd, he, h1, h2 => by
    obtain ⟨p, ps', p1, p2, rfl⟩ := toPs_cons h1
    obtain ⟨q, qs', q1, q2, rfl⟩ := toPs_cons h2
    have a := hd d (by simp) m e p q (he e (by simp)) p1 q1
    have c := eqvAll_of (ds := ds) (es := es) (fun d hd' => hd d (List.mem_cons_of_mem _ hd')) (fun e he' => he e (List.mem_cons_of_mem _ he')) p2 q2
    simp only [eqvAll, Bool.and_eq_true, a, c, List.cons.injEq]
theorem Pl.eqv_iff {b : Bool} {n : Nat} {d : D} (h : Pl b n d) : ∀ (m : Nat) (e : D) (p q : PyData), Pl b m e → FV.toP d = some p → FV.toP e = some q → (eqv p q = true ↔ d = e) := by
  induction h with
  | non =>
    intro m e p q he h1 h2
    simp only [FV.toP] at h1; cases h1
    cases he with
    | non => simp only [FV.toP] at h2; cases h2; simp [eqv]
    | str _ => simp only [FV.toP] at h2; cases h2; simp [eqv]
    | int _ => simp only [FV.toP] at h2; cases h2; simp [eqv]
    | bl _ => simp only [FV.toP] at h2; cases h2; simp [eqv]
    | tup _ => simp only [FV.toP] at h2; obtain ⟨qs, _, rfl⟩ := Option.map_eq_some_iff.mp h2; simp [eqv]
    | lst _ => simp only [FV.toP] at h2; obtain ⟨qs, _, rfl⟩ := Option.map_eq_some_iff.mp h2; simp [eqv]
  | str hs =>
    intro m e p q he h1 h2
    simp only [FV.toP] at h1; cases h1
    cases he with
    | non => simp only [FV.toP] at h2; cases h2; simp [eqv]
    | str _ => simp only [FV.toP] at h2; cases h2; simp [eqv]
    | int _ => simp only [FV.toP] at h2; cases h2; simp [eqv]
    | bl _ => simp only [FV.toP] at h2; cases h2; simp [eqv]
    | tup _ => simp only [FV.toP] at h2; obtain ⟨qs, _, rfl⟩ := Option.map_eq_some_iff.mp h2; simp [eqv]
    | lst _ => simp only [FV.toP] at h2; obtain ⟨qs, _, rfl⟩ := Option.map_eq_some_iff.mp h2; simp [eqv]
  | int hb =>
    intro m e p q he h1 h2
    simp only [FV.toP] at h1; cases h1
    cases he with
    | non => simp only [FV.toP] at h2; cases h2; simp [eqv]
    | str _ => simp only [FV.toP] at h2; cases h2; simp [eqv]
    | int _ => simp only [FV.toP] at h2; cases h2; simp [eqv]
    | bl hb' => rw [hb] at hb'; cases hb'
    | tup _ => simp only [FV.toP] at h2; obtain ⟨qs, _, rfl⟩ := Option.map_eq_some_iff.mp h2; simp [eqv]
    | lst _ => simp only [FV.toP] at h2; obtain ⟨qs, _, rfl⟩ := Option.map_eq_some_iff.mp h2; simp [eqv]
  | bl hb =>
    intro m e p q he h1 h2
    simp only [FV.toP] at h1; cases h1
    cases he with
    | non => simp only [FV.toP] at h2; cases h2; simp [eqv]
    | str _ => simp only [FV.toP] at h2; cases h2; simp [eqv]
    | int hb' => rw [hb] at hb'; cases hb'
    | bl _ => simp only [FV.toP] at h2; cases h2; simp [eqv]
    | tup _ => simp only [FV.toP] at h2; obtain ⟨qs, _, rfl⟩ := Option.map_eq_some_iff.mp h2; simp [eqv]
    | lst _ => simp only [FV.toP] at h2; obtain ⟨qs, _, rfl⟩ := Option.map_eq_some_iff.mp h2; simp [eqv]
  | tup hs ih =>
    intro m e p q he h1 h2
    simp only [FV.toP] at h1
    obtain ⟨ps, p1, rfl⟩ := Option.map_eq_some_iff.mp h1
    cases he with
    | non => simp only [FV.toP] at h2; cases h2; simp [eqv]
    | str _ => simp only [FV.toP] at h2; cases h2; simp [eqv]
    | int _ => simp only [FV.toP] at h2; cases h2; simp [eqv]
    | bl _ => simp only [FV.toP] at h2; cases h2; simp [eqv]
    | tup hq =>
      simp only [FV.toP] at h2
      obtain ⟨qs, q1, rfl⟩ := Option.map_eq_some_iff.mp h2
      simp only [eqv, D.tup.injEq]
      exact eqvAll_of ih hq p1 q1
    | lst _ => simp only [FV.toP] at h2; obtain ⟨qs, _, rfl⟩ := Option.map_eq_some_iff.mp h2; simp [eqv]
  | lst hs ih =>
    intro m e p q he h1 h2
    simp only [FV.toP] at h1
    obtain ⟨ps, p1, rfl⟩ := Option.map_eq_some_iff.mp h1
    cases he with
    | non => simp only [FV.toP] at h2; cases h2; simp [eqv]
    | str _ => simp only [FV.toP] at h2; cases h2; simp [eqv]
    | int _ => simp only [FV.toP] at h2; cases h2; simp [eqv]
    | bl _ => simp only [FV.toP] at h2; cases h2; simp [eqv]
    | tup _ => simp only [FV.toP] at h2; obtain ⟨qs, _, rfl⟩ := Option.map_eq_some_iff.mp h2; simp [eqv]
    | lst hq =>
      simp only [FV.toP] at h2
      obtain ⟨qs, q1, rfl⟩ := Option.map_eq_some_iff.mp h2
      simp only [eqv, D.lst.injEq]
      exact eqvAll_of ih hq p1 q1
theorem eqB_pl {b : Bool} {n m : Nat} {d e : D} (h1 : Pl b n d) (h2 : Pl b m e) (hn : n ≤ 64) (hm : m ≤ 64) : ∃ v : Bool, eqB d e = some v ∧ (v = true ↔ d = e) := by
  obtain ⟨p, p1, p2, p3⟩ := h1.toP
  obtain ⟨q, q1, q2, q3⟩ := h2.toP
  refine ⟨PyData.eqv p q, ?_, h1.eqv_iff m e p q h2 p1 q1⟩
  unfold eqB
  rw [p1, q1]
  have s1 : SeqAt.shaped p = true := by unfold SeqAt.shaped; rw [p2, decide_eq_true (Nat.le_trans p3 hn)]; rfl
  have s2 : SeqAt.shaped q = true := by unfold SeqAt.shaped; rw [q2, decide_eq_true (Nat.le_trans q3 hm)]; rfl
  exact if_pos ⟨s1, s2⟩
open Classical in
theorem eqD_pl {b : Bool} {n m : Nat} {d e : D} (h1 : Pl b n d) (h2 : Pl b m e) (hn : n ≤ 64) (hm : m ≤ 64) : eqD d e = .ok (.bl (decide (d = e))) := by
  obtain ⟨v, e1, e2⟩ := eqB_pl h1 h2 hn hm
  unfold eqD
  rw [e1]
  by_cases z : d = e
  · rw [decide_eq_true z, e2.mpr z]
  · have : v = false := by cases v with | true => exact absurd (e2.mp rfl) z | false => rfl
    rw [decide_eq_false z, this]
open Classical in
theorem neD_pl {b : Bool} {n m : Nat} {d e : D} (h1 : Pl b n d) (h2 : Pl b m e) (hn : n ≤ 64) (hm : m ≤ 64) : neD d e = .ok (.bl (!decide (d = e))) := by
  obtain ⟨v, e1, e2⟩ := eqB_pl h1 h2 hn hm
  unfold neD
  rw [e1]
  by_cases z : d = e
  · rw [decide_eq_true z, e2.mpr z]
  · have : v = false := by cases v with | true => exact absurd (e2.mp rfl) z | false => rfl
    rw [decide_eq_false z, this]
theorem pl_pt (q : Rat) : Pl false 1 (pt q) := .tup fun d h => by
  rcases List.mem_cons.mp h with rfl | h
  · exact .int rfl
  · rcases List.mem_cons.mp h with rfl | h
    · exact .int rfl
    · cases h
theorem pt_inj {p q : Rat} (h : pt p = pt q) : p = q := by
  unfold pt at h
  simp only [D.tup.injEq, List.cons.injEq, D.int.injEq, and_true] at h
  exact Rat.ext h.1 (by omega)
theorem eqD_int {i j : Int} : eqD (.int i) (.int j) = .ok (.bl (decide (i = j))) := by
  rw [eqD_pl (b := false) (n := 0) (m := 0) (.int rfl) (.int rfl) (by omega) (by omega)]
  simp only [D.int.injEq]
theorem neD_int {i j : Int} : neD (.int i) (.int j) = .ok (.bl (!decide (i = j))) := by
  rw [neD_pl (b := false) (n := 0) (m := 0) (.int rfl) (.int rfl) (by omega) (by omega)]
  simp only [D.int.injEq]
theorem eqD_bl {i j : Bool} : eqD (.bl i) (.bl j) = .ok (.bl (decide (i = j))) := by
  rw [eqD_pl (b := true) (n := 0) (m := 0) (.bl rfl) (.bl rfl) (by omega) (by omega)]
  simp only [D.bl.injEq]
theorem neD_bl {i j : Bool} : neD (.bl i) (.bl j) = .ok (.bl (!decide (i = j))) := by
  rw [neD_pl (b := true) (n := 0) (m := 0) (.bl rfl) (.bl rfl) (by omega) (by omega)]
  simp only [D.bl.injEq]
theorem eqD_pt {p q : Rat} : eqD (pt p) (pt q) = .ok (.bl (decide (p = q))) := by
  rw [eqD_pl (pl_pt p) (pl_pt q) (by omega) (by omega)]
  by_cases h : p = q
  · subst h; simp
  · rw [decide_eq_false h, @decide_eq_false _ (Classical.propDecidable _) fun z => h (pt_inj z)]
theorem neD_pt {p q : Rat} : neD (pt p) (pt q) = .ok (.bl (!decide (p = q))) := by
  rw [neD_pl (pl_pt p) (pl_pt q) (by omega) (by omega)]
  by_cases h : p = q
  · subst h; simp
  · rw [decide_eq_false h, @decide_eq_false _ (Classical.propDecidable _) fun z => h (pt_inj z)]
end FV

/-! FVP2: what the shared defs compute: fractions, rows. -/
namespace FVP
open FV
open L2 (atI)
/-! ### comprehensions -/
/-- a comprehension whose turns all go -/
theorem comp_map {T : Tg} {t : En → Res Bool} {g : Den} {ρ : En} (f : D → D) : ∀ (ds : List D), (∀ d, d ∈ ds → ∃ ρ1, asg T d ρ = .ok ρ1 ∧ t ρ1 = .ok true ∧ g ρ1 = .ok (f d)) → compD T t g ds ρ = .ok (ds.map f)
  | [], _ => rfl
  | d :: ds, h => by
    obtain ⟨ρ1, e1, e2, e3⟩ := h d (by simp)
    have ih := comp_map f ds fun e he => h e (List.mem_cons_of_mem _ he)
    unfold compD
    rw [e1, bind_ok', e2, bind_ok', if_pos rfl, e3, bind_ok', ih]
    rfl
/-- .. with a test -/
theorem comp_filter {T : Tg} {t : En → Res Bool} {g : Den} {ρ : En} (p : D → Bool) (f : D → D) : ∀ (ds : List D), (∀ d, d ∈ ds → ∃ ρ1, asg T d ρ = .ok ρ1 ∧ t ρ1 = .ok (p d) ∧ (p d = true → g ρ1 = .ok (f d))) → compD T t g ds ρ = .ok ((ds.filter p).map f)
  | [], _ => rfl
  | d :: ds, h => by
    obtain ⟨ρ1, e1, e2, e3⟩ := h d (by simp)
    have ih := comp_filter p f ds fun e he => h e (List.mem_cons_of_mem _ he)
    unfold compD
    rw [e1, bind_ok', e2, bind_ok']
    cases q : p d with
    | true => rw [if_pos rfl, e3 q, bind_ok', ih]; simp [q]
    | false => rw [if_neg (by simp), ih]; simp [q]
theorem dComp_ev {f : DenI} {vs : List Nat} {T : Tg} {t : En → Res Bool} {g : Den} {ρ : En} : dComp f vs T t g ρ = (f ρ).bind fun ds => if ds.length ≤ PySem.sizeLine then compR (compD T t g ds (wipeE ρ vs)) else .stuck := rfl
theorem bools_of : ∀ (bs : List Bool), boolsOf (bs.map D.bl) = some bs
  | [] => rfl
  | b :: bs => by simp [boolsOf, bools_of bs]
theorem all_bl (bs : List Bool) : allD [.lst (bs.map D.bl)] = .ok (.bl (bs.all id)) := by
  show (match boolsOf (bs.map D.bl) with | some bs => Res.ok (D.bl (bs.all id)) | none => Res.stuck) = _
  rw [bools_of]
@[simp] theorem tupleD_lst {ds : List D} : tupleD [.lst ds] = .ok (.tup ds) := rfl
@[simp] theorem tupleD_tup {ds : List D} : tupleD [.tup ds] = .ok (.tup ds) := rfl
@[simp] theorem listD_lst {ds : List D} : listD [.lst ds] = .ok (.lst ds) := rfl
@[simp] theorem listD_tup {ds : List D} : listD [.tup ds] = .ok (.lst ds) := rfl
@[simp] theorem sRaise_ev {x : PySem.Str} {ρ : En} : sRaise x ρ = .exn x ρ := rfl

/-! ### fractions -/
theorem sm_def {n : Nat} {i : Int} : Sm n i ↔ i.natAbs < 2 ^ n := Iff.rfl
theorem d_common_nat (a b : Nat) : d_common [.int (a : Int), .int (b : Int)] = .ok (.int ((Nat.gcd a b : Nat) : Int)) := by
  have loop := gcd_loop (t := tVal (dBin gtD (dVarR 1) (dC (.int 0)))) (g := sPar 0 1 (dVar 1) (dBin modD (dVarR 0) (dVarR 1)))
    (fun a b => [some (.frz (.int (a : Int))), some (.frz (.int (b : Int)))])
    (fun a b => by simp) (fun a b hb => by simp [modD_int (show (0 : Int) < (b : Int) by omega)]) a b
  simp [d_common, s_common, runB, loop]
theorem whole_int (i : Int) : d_is_whole [.int i] = .ok (.bl true) := by simp [d_is_whole, s_is_whole, runB, isiD, isSub]
theorem abs_nat (u : Int) : (if u < 0 then -u else u) = (u.natAbs : Int) := by omega
theorem part_2 {u v : Int} {n : Nat} (hn : n ≤ 9000) (h0 : 0 < n) (hv : v ≠ 0) (hv2 : Sm n v) : d_part_2 [.int u, .int v] = .ok (pt (Rat.divInt u v)) := by
  have hg : 0 < Nat.gcd u.natAbs v.natAbs := Nat.gcd_pos_of_pos_right _ (by omega)
  have hgl : Nat.gcd u.natAbs v.natAbs ≤ v.natAbs := Nat.gcd_le_right _ (by omega)
  have hd : DivOk ((Nat.gcd u.natAbs v.natAbs : Nat) : Int) := divOk_of (b := n) (by omega) (by unfold Sm at *; omega) h0 hn
  have hd2 : DivOk (-((Nat.gcd u.natAbs v.natAbs : Nat) : Int)) := divOk_of (b := n) (by omega) (by unfold Sm at *; omega) h0 hn
  have c := d_common_nat u.natAbs v.natAbs
  have ez : eqD (.int v) (.int 0) = .ok (.bl false) := by rw [eqD_int, decide_eq_false hv]
  unfold pt
  by_cases h : v < 0
  · obtain ⟨r1, r2⟩ := red_neg u v h
    rw [show ((v.natAbs : Nat) : Int) = -v by omega] at c
    simp [s_part, runB, whole_int, ez, abs_nat, c, h, fdivD_int hd2, r1, r2]
  · obtain ⟨r1, r2⟩ := red_pos u v (by omega)
    rw [show ((v.natAbs : Nat) : Int) = v by omega] at c
    simp [s_part, runB, whole_int, ez, abs_nat, c, h, fdivD_int hd, r1, r2]
theorem reduced {u v : Int} {n : Nat} (hn : n ≤ 9000) (h0 : 0 < n) (hv : v ≠ 0) (hv2 : Sm n v) : d__law_reduced [.int u, .int v] = .ok (pt (Rat.divInt u v)) := by
  have hg : 0 < Nat.gcd u.natAbs v.natAbs := Nat.gcd_pos_of_pos_right _ (by omega)
  have hgl : Nat.gcd u.natAbs v.natAbs ≤ v.natAbs := Nat.gcd_le_right _ (by omega)
  have hd : DivOk ((Nat.gcd u.natAbs v.natAbs : Nat) : Int) := divOk_of (b := n) (by omega) (by unfold Sm at *; omega) h0 hn
  have hd2 : DivOk (-((Nat.gcd u.natAbs v.natAbs : Nat) : Int)) := divOk_of (b := n) (by omega) (by unfold Sm at *; omega) h0 hn
  have loop := gcd_loop (t := tVal (dBin gtD (dVarR 3) (dC (.int 0)))) (g := sPar 2 3 (dVar 3) (dBin modD (dVarR 2) (dVarR 3)))
    (fun a b => [some (.frz (.int u)), some (.frz (.int v)), some (.frz (.int (a : Int))), some (.frz (.int (b : Int)))])
    (fun a b => by simp) (fun a b hb => by simp [modD_int (show (0 : Int) < (b : Int) by omega)]) u.natAbs v.natAbs
  unfold pt
  by_cases h : v < 0
  · obtain ⟨r1, r2⟩ := red_neg u v h
    rw [show ((v.natAbs : Nat) : Int) = -v by omega] at loop
    simp only [d__law_reduced, s__law_reduced, runB]
    simp [abs_nat, loop, h, fdivD_int hd2, r1, r2]
  · obtain ⟨r1, r2⟩ := red_pos u v (by omega)
    rw [show ((v.natAbs : Nat) : Int) = v by omega] at loop
    simp only [d__law_reduced, s__law_reduced, runB]
    simp [abs_nat, loop, h, fdivD_int hd, r1, r2]
theorem den_ne (q : Rat) : (q.den : Int) ≠ 0 := by have := q.den_pos; omega
theorem add_div (p q : Rat) : Rat.divInt (p.num * q.den + q.num * p.den) (p.den * q.den) = p + q := by
  rw [Rat.add_def, Rat.normalize_eq_mkRat, ← Rat.divInt_ofNat]; simp
theorem sub_div (p q : Rat) : Rat.divInt (p.num * q.den - q.num * p.den) (p.den * q.den) = p - q := by
  rw [Rat.sub_def, Rat.normalize_eq_mkRat, ← Rat.divInt_ofNat]; simp
theorem mul_div (p q : Rat) : Rat.divInt (p.num * q.num) (p.den * q.den) = p * q := by
  rw [Rat.mul_def, Rat.normalize_eq_mkRat, ← Rat.divInt_ofNat]; simp
theorem dd_ne (p q : Rat) : (p.den : Int) * (q.den : Int) ≠ 0 := Int.mul_ne_zero (den_ne p) (den_ne q)
theorem smQ_add {p q : Rat} {a b : Nat} (hp : SmQ a p) (hq : SmQ b q) : SmQ (a + b + 1) (p + q) := by
  rw [← add_div]
  exact smQ_low (sm_add (sm_mul hp.1 hq.2) (sm_mono (sm_mul hq.1 hp.2) (by omega))) (sm_mono (sm_mul hp.2 hq.2) (by omega)) (dd_ne p q)
theorem smQ_sub {p q : Rat} {a b : Nat} (hp : SmQ a p) (hq : SmQ b q) : SmQ (a + b + 1) (p - q) := by
  rw [← sub_div]
  exact smQ_low (sm_sub (sm_mul hp.1 hq.2) (sm_mono (sm_mul hq.1 hp.2) (by omega))) (sm_mono (sm_mul hp.2 hq.2) (by omega)) (dd_ne p q)
theorem smQ_mul {p q : Rat} {a b : Nat} (hp : SmQ a p) (hq : SmQ b q) : SmQ (a + b) (p * q) := by
  rw [← mul_div]
  exact smQ_low (sm_mul hp.1 hq.1) (sm_mul hp.2 hq.2) (dd_ne p q)
section
variable {p q : Rat} {a b : Nat}
theorem muls (hp : SmQ a p) (hq : SmQ b q) (ha : 0 < a) (hb : 0 < b) (h : a + b ≤ 9000) : MulOk p.num q.den ∧ MulOk q.num p.den ∧ MulOk p.den q.den ∧ MulOk p.num q.num :=
  ⟨mulOk_w hp.1 hq.2 ha hb (by omega), mulOk_w hq.1 hp.2 hb ha (by omega), mulOk_w hp.2 hq.2 ha hb (by omega), mulOk_w hp.1 hq.1 ha hb (by omega)⟩
theorem plus (hp : SmQ a p) (hq : SmQ b q) (ha : 0 < a) (hb : 0 < b) (h : a + b ≤ 9000) : d_plus [pt p, pt q] = .ok (pt (p + q)) := by
  obtain ⟨m1, m2, m3, _⟩ := muls hp hq ha hb h
  have e := part_2 (u := p.num * q.den + q.num * p.den) h (by omega) (dd_ne p q) (sm_mul hp.2 hq.2)
  rw [add_div] at e
  simp only [d_plus, s_plus, runB]
  simp [mulD_int m1, mulD_int m2, mulD_int m3, e]
theorem minus (hp : SmQ a p) (hq : SmQ b q) (ha : 0 < a) (hb : 0 < b) (h : a + b ≤ 9000) : d_minus [pt p, pt q] = .ok (pt (p - q)) := by
  obtain ⟨m1, m2, m3, _⟩ := muls hp hq ha hb h
  have e := part_2 (u := p.num * q.den - q.num * p.den) h (by omega) (dd_ne p q) (sm_mul hp.2 hq.2)
  rw [sub_div] at e
  simp only [d_minus, s_minus, runB]
  simp [mulD_int m1, mulD_int m2, mulD_int m3, e]
theorem times (hp : SmQ a p) (hq : SmQ b q) (ha : 0 < a) (hb : 0 < b) (h : a + b ≤ 9000) : d_times [pt p, pt q] = .ok (pt (p * q)) := by
  obtain ⟨m1, m2, m3, m4⟩ := muls hp hq ha hb h
  have e := part_2 (u := p.num * q.num) h (by omega) (dd_ne p q) (sm_mul hp.2 hq.2)
  rw [mul_div] at e
  simp only [d_times, s_times, runB]
  simp [mulD_int m3, mulD_int m4, e]
theorem below (hp : SmQ a p) (hq : SmQ b q) (ha : 0 < a) (hb : 0 < b) (h : a + b ≤ 9000) : d_below [pt p, pt q] = .ok (.bl (decide (p < q))) := by
  obtain ⟨m1, m2, m3, m4⟩ := muls hp hq ha hb h
  simp [d_below, s_below, runB, mulD_int m1, mulD_int m2, Rat.lt_iff]
theorem l_sum (hp : SmQ a p) (hq : SmQ b q) (ha : 0 < a) (hb : 0 < b) (h : a + b ≤ 9000) : d__law_sum [pt p, pt q] = .ok (pt (p + q)) := by
  obtain ⟨m1, m2, m3, _⟩ := muls hp hq ha hb h
  have e := reduced (u := p.num * q.den + q.num * p.den) h (by omega) (dd_ne p q) (sm_mul hp.2 hq.2)
  rw [add_div] at e
  simp only [d__law_sum, s__law_sum, runB]
  simp [mulD_int m1, mulD_int m2, mulD_int m3, e]
theorem l_less (hp : SmQ a p) (hq : SmQ b q) (ha : 0 < a) (hb : 0 < b) (h : a + b ≤ 9000) : d__law_less [pt p, pt q] = .ok (pt (p - q)) := by
  obtain ⟨m1, m2, m3, _⟩ := muls hp hq ha hb h
  have e := reduced (u := p.num * q.den - q.num * p.den) h (by omega) (dd_ne p q) (sm_mul hp.2 hq.2)
  rw [sub_div] at e
  simp only [d__law_less, s__law_less, runB]
  simp [mulD_int m1, mulD_int m2, mulD_int m3, e]
theorem l_product (hp : SmQ a p) (hq : SmQ b q) (ha : 0 < a) (hb : 0 < b) (h : a + b ≤ 9000) : d__law_product [pt p, pt q] = .ok (pt (p * q)) := by
  obtain ⟨m1, m2, m3, m4⟩ := muls hp hq ha hb h
  have e := reduced (u := p.num * q.num) h (by omega) (dd_ne p q) (sm_mul hp.2 hq.2)
  rw [mul_div] at e
  simp only [d__law_product, s__law_product, runB]
  simp [mulD_int m3, mulD_int m4, e]
theorem l_below (hp : SmQ a p) (hq : SmQ b q) (ha : 0 < a) (hb : 0 < b) (h : a + b ≤ 9000) : d__law_is_below [pt p, pt q] = .ok (.bl (decide (p < q))) := by
  obtain ⟨m1, m2, m3, m4⟩ := muls hp hq ha hb h
  simp [d__law_is_below, s__law_is_below, runB, mulD_int m1, mulD_int m2, Rat.lt_iff]
theorem is_part_pt (q : Rat) : d_is_part [pt q] = .ok (.bl true) := by
  have e := d_common_nat q.num.natAbs q.den
  have hc : Nat.gcd q.num.natAbs q.den = 1 := q.reduced
  rw [hc] at e
  have n2 : neD (.int 2) (.int 2) = .ok (.bl false) := by rw [neD_int]; rfl
  have e1 : eqD (.int 1) (.int 1) = .ok (.bl true) := by rw [eqD_int]; rfl
  have hp : (0 : Int) < (q.den : Int) := by have := q.den_pos; omega
  unfold pt
  simp only [d_is_part, s_is_part, runB]
  simp [isiD, isSub, n2, whole_int, hp, abs_nat, e, e1, q.den_pos]
end
end FVP

/-! FVP3: rows of a line. -/
namespace FVP
open FV
open L2 (atI)
theorem cut_from {xs : List D} {k : Nat} : cutD xs (some (k : Int)) none = xs.drop k := by
  unfold cutD
  rw [HT.sIx_nat, HT.sIx_none, List.take_of_length_le (by simp)]
  by_cases h : k ≤ xs.length
  · rw [Nat.min_eq_left h]
  · rw [Nat.min_eq_right (by omega), List.drop_eq_nil_of_le (by omega), List.drop_eq_nil_of_le (by omega)]
theorem cut_1 {xs : List D} : cutD xs (some 1) none = xs.drop 1 := cut_from (k := 1)
theorem atI_last {α : Type} {xs : List α} : atI xs (-1) = xs.getLast? := by
  unfold L2.atI L2.ixN
  rw [List.getLast?_eq_getElem?]
  cases xs with
  | nil => simp
  | cons x xs =>
    simp
    rw [if_pos (by omega)]
    have e : (-1 + ((xs.length : Int) + 1)).toNat = xs.length := by omega
    simp [e]
@[simp] theorem dSl_ev {f : Den} {l h : DenO} {ρ : En} : dSl f l h ρ = (f ρ).bind fun d => (l ρ).bind fun lo => (h ρ).bind fun hi => sliceD d lo hi := rfl
@[simp] theorem oNone_ev {ρ : En} : oNone ρ = .ok none := rfl
@[simp] theorem oSome_ev {f : Den} {ρ : En} : oSome f ρ = (f ρ).bind fun d => match d with | .int i => .ok (some i) | _ => .stuck := rfl
@[simp] theorem slice_tup {ds : List D} {lo hi : Option Int} : sliceD (.tup ds) lo hi = .ok (.tup (cutD ds lo hi)) := rfl
@[simp] theorem slice_lst {ds : List D} {lo hi : Option Int} : sliceD (.lst ds) lo hi = .ok (.lst (cutD ds lo hi)) := rfl
@[simp] theorem slice_klst {ds : List D} {lo hi : Option Int} : sliceD (.klst ds) lo hi = .ok (.lst (cutD ds lo hi)) := rfl

/-- a row -/
structure Rw where
  bg : Rat
  vl : Rat
  bh : Rat
  sl : Rat
deriving DecidableEq
def rw (r : Rw) : D := .tup [pt r.bg, pt r.vl, pt r.bh, pt r.sl]
def SmR (b : Nat) (r : Rw) : Prop := SmQ b r.bg ∧ SmQ b r.vl ∧ SmQ b r.bh ∧ SmQ b r.sl
def comes (r : Rw) (p : Rat) : Rat := r.bh + r.sl * (p - r.bg)
theorem rw_inj {r s : Rw} (h : rw r = rw s) : r = s := by
  unfold rw at h
  simp only [D.tup.injEq, List.cons.injEq, and_true] at h
  obtain ⟨a, b, c, d⟩ := h
  cases r; cases s
  simp only [Rw.mk.injEq]
  exact ⟨pt_inj a, pt_inj b, pt_inj c, pt_inj d⟩
theorem rows_inj : ∀ {rs qs : List Rw}, rs.map rw = qs.map rw → rs = qs
  | [], [], _ => rfl
  | r :: rs, q :: qs, h => by
    simp only [List.map_cons, List.cons.injEq] at h
    rw [rw_inj h.1, rows_inj h.2]
  | [], q :: qs, h => by simp at h
  | r :: rs, [], h => by simp at h
theorem pl_rw (r : Rw) : Pl false 2 (rw r) := .tup fun d h => by
  simp only [List.mem_cons, List.not_mem_nil, or_false] at h
  rcases h with rfl | rfl | rfl | rfl <;> exact pl_pt _
theorem pl_rows (rs : List Rw) : ∀ d, d ∈ rs.map rw → Pl false 2 d := fun d h => by
  obtain ⟨r, _, rfl⟩ := List.mem_map.mp h
  exact pl_rw r
@[simp] theorem ix_rw0 {r : Rw} : ixD (rw r) (.int 0) = .ok (pt r.bg) := rfl
@[simp] theorem ix_rw1 {r : Rw} : ixD (rw r) (.int 1) = .ok (pt r.vl) := rfl
@[simp] theorem ix_rw2 {r : Rw} : ixD (rw r) (.int 2) = .ok (pt r.bh) := rfl
@[simp] theorem ix_rw3 {r : Rw} : ixD (rw r) (.int 3) = .ok (pt r.sl) := rfl
theorem eqD_tups (rs qs : List Rw) : eqD (.tup (rs.map rw)) (.tup (qs.map rw)) = .ok (.bl (decide (rs = qs))) := by
  rw [eqD_pl (.tup (pl_rows rs)) (.tup (pl_rows qs)) (by omega) (by omega)]
  by_cases h : rs = qs
  · subst h; simp
  · rw [decide_eq_false h, @decide_eq_false _ (Classical.propDecidable _) fun z => h (rows_inj (D.tup.inj z))]
theorem eqD_lsts (rs qs : List Rw) : eqD (.lst (rs.map rw)) (.lst (qs.map rw)) = .ok (.bl (decide (rs = qs))) := by
  rw [eqD_pl (.lst (pl_rows rs)) (.lst (pl_rows qs)) (by omega) (by omega)]
  by_cases h : rs = qs
  · subst h; simp
  · rw [decide_eq_false h, @decide_eq_false _ (Classical.propDecidable _) fun z => h (rows_inj (D.lst.inj z))]
theorem neD_tups (rs qs : List Rw) : neD (.tup (rs.map rw)) (.tup (qs.map rw)) = .ok (.bl (!decide (rs = qs))) := by
  rw [neD_pl (.tup (pl_rows rs)) (.tup (pl_rows qs)) (by omega) (by omega)]
  by_cases h : rs = qs
  · subst h; simp
  · rw [decide_eq_false h, @decide_eq_false _ (Classical.propDecidable _) fun z => h (rows_inj (D.tup.inj z))]
theorem neD_lsts (rs qs : List Rw) : neD (.lst (rs.map rw)) (.lst (qs.map rw)) = .ok (.bl (!decide (rs = qs))) := by
  rw [neD_pl (.lst (pl_rows rs)) (.lst (pl_rows qs)) (by omega) (by omega)]
  by_cases h : rs = qs
  · subst h; simp
  · rw [decide_eq_false h, @decide_eq_false _ (Classical.propDecidable _) fun z => h (rows_inj (D.lst.inj z))]
theorem eqD_nil (rs : List Rw) : eqD (.lst (rs.map rw)) (.lst []) = .ok (.bl (decide (rs = []))) := eqD_lsts rs []
theorem neD_nil (rs : List Rw) : neD (.lst (rs.map rw)) (.lst []) = .ok (.bl (!decide (rs = []))) := neD_lsts rs []
theorem smQ_comes {r : Rw} {p : Rat} {b c : Nat} (hr : SmR b r) (hp : SmQ c p) : SmQ (3 * b + c + 2) (comes r p) :=
  smQ_mono (smQ_add hr.2.2.1 (smQ_mul hr.2.2.2 (smQ_sub hp hr.1))) (by omega)
theorem come_to {r : Rw} {p : Rat} {b c : Nat} (hr : SmR b r) (hp : SmQ c p) (hb : 0 < b) (hc : 0 < c) (h : 3 * b + c + 1 ≤ 9000) : d_come_to [rw r, pt p] = .ok (pt (comes r p)) := by
  have e1 := minus hp hr.1 hc hb (by omega)
  have e2 := times hr.2.2.2 (smQ_sub hp hr.1) hb (by omega) (by omega)
  have e3 := plus hr.2.2.1 (smQ_mul hr.2.2.2 (smQ_sub hp hr.1)) hb (by omega) (by omega)
  simp only [d_come_to, s_come_to, runB]
  simp [e1, e2, e3, comes]
theorem l_comes {r : Rw} {p : Rat} {b c : Nat} (hr : SmR b r) (hp : SmQ c p) (hb : 0 < b) (hc : 0 < c) (h : 3 * b + c + 1 ≤ 9000) : d__law_comes [rw r, pt p] = .ok (pt (comes r p)) := by
  have e1 := l_less hp hr.1 hc hb (by omega)
  have e2 := l_product hr.2.2.2 (smQ_sub hp hr.1) hb (by omega) (by omega)
  have e3 := l_sum hr.2.2.1 (smQ_mul hr.2.2.2 (smQ_sub hp hr.1)) hb (by omega) (by omega)
  simp only [d__law_comes, s__law_comes, runB]
  simp [e1, e2, e3, comes]
/-- l goes on from r -/
def goes (r l : Rw) : Bool := decide (l.sl = r.sl) && (decide (l.vl = l.bh) && decide (l.vl = comes r l.bg))
theorem goes_on {r l : Rw} {b : Nat} (hr : SmR b r) (hl : SmR b l) (hb : 0 < b) (h : 4 * b + 1 ≤ 9000) : d_goes_on [rw r, rw l] = .ok (.bl (goes r l)) := by
  have e := come_to hr hl.1 hb hb (by omega)
  simp only [d_goes_on, s_goes_on, runB]
  by_cases h1 : l.sl = r.sl
  · by_cases h2 : l.vl = l.bh
    · simp [e, eqD_pt, h1, h2, goes]
    · simp [e, eqD_pt, h1, h2, goes]
  · simp [e, eqD_pt, h1, goes]
/-- one row more -/
def stepT (acc : List Rw) (r : Rw) : List Rw := match acc.getLast? with
  | none => [r]
  | some l => if goes l r then acc else acc ++ [r]
def thin (rs : List Rw) : List Rw := rs.foldl stepT []
theorem stepT_mem {P : Rw → Prop} {acc : List Rw} {r : Rw} (ha : ∀ x, x ∈ acc → P x) (hr : P r) : ∀ x, x ∈ stepT acc r → P x := by
  intro x hx
  unfold stepT at hx
  split at hx
  · rw [List.mem_singleton] at hx; subst hx; exact hr
  · split at hx
    · exact ha x hx
    · rcases List.mem_append.mp hx with h | h
      · exact ha x h
      · rw [List.mem_singleton] at h; subst h; exact hr
theorem stepT_len {acc : List Rw} {r : Rw} : (stepT acc r).length ≤ acc.length + 1 := by
  unfold stepT
  split
  · simp
  · split
    · omega
    · simp
theorem stepT_ne {acc : List Rw} {r : Rw} : stepT acc r ≠ [] := by
  unfold stepT
  split
  · simp
  · rename_i l h
    split
    · intro z; rw [z] at h; simp at h
    · simp
theorem take_succ_fold {α : Type} {f : α → Rw → α} {s : α} {rs : List Rw} {i : Nat} {r : Rw} (h : rs[i]? = some r) : (rs.take (i + 1)).foldl f s = f ((rs.take i).foldl f s) r := by
  rw [List.take_succ, h]; simp [List.foldl_append]
theorem thin_mem {P : Rw → Prop} {rs : List Rw} (h : ∀ x, x ∈ rs → P x) : ∀ x, x ∈ thin rs → P x := by
  have : ∀ (rs acc : List Rw), (∀ x, x ∈ acc → P x) → (∀ x, x ∈ rs → P x) → ∀ x, x ∈ rs.foldl stepT acc → P x := by
    intro rs
    induction rs with
    | nil => intro acc ha _; exact ha
    | cons r rs ih => intro acc ha hr; exact ih _ (stepT_mem ha (hr r (by simp))) fun x hx => hr x (List.mem_cons_of_mem _ hx)
  exact this rs [] (by simp) h
theorem thin_len (rs : List Rw) : (thin rs).length ≤ rs.length := by
  have : ∀ (rs acc : List Rw), (rs.foldl stepT acc).length ≤ acc.length + rs.length := by
    intro rs
    induction rs with
    | nil => intro acc; simp
    | cons r rs ih => intro acc; have := ih (stepT acc r); have := stepT_len (acc := acc) (r := r); simp only [List.foldl_cons, List.length_cons]; omega
  have := this rs []
  simpa [thin] using this
/-- the loop that thins -/
theorem thinned {d : D} {rs : List Rw} {b : Nat} (hd : itemsR d = .ok (rs.map rw)) (hs : ∀ r, r ∈ rs → SmR b r) (hb : 0 < b) (h : 4 * b + 1 ≤ 9000) (hl : rs.length < 1000000) : d_thinned [d] = .ok (.tup ((thin rs).map rw)) := by
  obtain ⟨ρ', e, x, rfl⟩ := forD_inv (T := .nm 2) (body := s_thinned_l1)
    (fun k ρ => ∃ x : Option Sl, ρ = [some (.frz d), some (.own ((thin (rs.take k)).map rw)), x]) (rs.map rw) 0
    [some (.frz d), some (.own []), none] ⟨none, rfl⟩ (by
      rintro i y ρ hy ⟨x, rfl⟩
      rw [Nat.zero_add]
      rw [List.getElem?_map] at hy
      obtain ⟨r, hr, rfl⟩ := Option.map_eq_some_iff.mp hy
      have hrm : r ∈ rs := List.mem_of_getElem? hr
      have hm : ∀ x, x ∈ thin (rs.take i) → SmR b x := thin_mem fun x hx => hs x (List.mem_of_mem_take hx)
      have hln := thin_len (rs.take i)
      rw [List.length_take] at hln
      have hi : i < rs.length := (List.getElem?_eq_some_iff.mp hr).1
      have hlen : (thin (rs.take i)).length < PySem.sizeLine := by rw [PySem.sizeLine_eq]; omega
      refine ⟨_, [some (.frz d), some (.own ((thin (rs.take (i + 1))).map rw)), some (.frz (rw r))], rfl, .inl ?_, some (.frz (rw r)), rfl⟩
      · 
        have et : thin (rs.take (i + 1)) = stepT (thin (rs.take i)) r := take_succ_fold hr
        rw [et]
        generalize thin (rs.take i) = acc at *
        cases hg : acc.getLast? with
        | none =>
          have hnil : acc = [] := List.getLast?_eq_none_iff.mp hg
          subst hnil
          have e0 : eqD (.lst []) (.lst []) = .ok (.bl true) := eqD_nil []
          have z : 0 < PySem.sizeLine := by rw [PySem.sizeLine_eq]; omega
          simp [s_thinned_l1, e0, stepT, sApp, z]
        | some l =>
          have hne : acc ≠ [] := fun z => by rw [z] at hg; simp at hg
          have hlm : l ∈ acc := List.mem_of_getLast? hg
          have eg := goes_on (hm l hlm) (hs r hrm) hb h
          simp [s_thinned_l1, eqD_nil, hne, atI_last, hg, eg, stepT, sApp, hlen]
          cases goes l r <;> simp)
  have e : forD _ _ _ _ = _ := e
  rw [Nat.zero_add, List.length_map, List.take_length] at e
  simp only [d_thinned, s_thinned, runB]
  simp [hd, e]
end FVP

/-! FVP4: lists of rows, lines. -/
namespace FVP
open FV
open L2 (atI)
theorem is_row_rw (r : Rw) : d_is_row [rw r] = .ok (.bl true) := by
  have e4 : eqD (.int 4) (.int 4) = .ok (.bl true) := by rw [eqD_int]; rfl
  have ec : compD (.nm 1) tYesB (dCall d_is_part (aCons (dVar 1) aNil)) [pt r.bg, pt r.vl, pt r.bh, pt r.sl] [some (.frz (rw r)), none] = .ok ([pt r.bg, pt r.vl, pt r.bh, pt r.sl].map fun _ => .bl true) :=
    comp_map (fun _ => .bl true) _ fun d h => by
      simp only [List.mem_cons, List.not_mem_nil, or_false] at h
      rcases h with rfl | rfl | rfl | rfl <;> exact ⟨_, rfl, rfl, by simp [is_part_pt]⟩
  have ea : allD [.lst [.bl true, .bl true, .bl true, .bl true]] = .ok (.bl true) := all_bl [true, true, true, true]
  have hz : 4 ≤ PySem.sizeLine := by rw [PySem.sizeLine_eq]; omega
  simp only [d_is_row, s_is_row, runB]
  unfold rw at ec ⊢
  simp [isiD, isSub, e4, dComp_ev, wipeE, ec, compR, ea, hz]
theorem zip_tail_len {α : Type} (xs : List α) : (xs.zip (xs.drop 1)).length ≤ xs.length := by simp
/-- the begins rise -/
def asc (rs : List Rw) : Bool := (rs.zip (rs.drop 1)).all fun p => decide (p.1.bg < p.2.bg)
def areR (rs : List Rw) : Bool := match rs with
  | [] => false
  | r :: _ => decide (r.bg = 0) && asc rs
theorem bools_map {α : Type} (f : α → D) (p : α → Bool) : ∀ xs : List α, (∀ x, x ∈ xs → f x = .bl (p x)) → boolsOf (xs.map f) = some (xs.map p)
  | [], _ => rfl
  | x :: xs, h => by simp [boolsOf, h x (by simp), bools_map f p xs fun y hy => h y (List.mem_cons_of_mem _ hy)]
theorem all_map {α : Type} (p : α → Bool) (xs : List α) : allD [.lst (xs.map fun x => .bl (p x))] = .ok (.bl (xs.all p)) := by
  have := all_bl (xs.map p)
  rw [List.map_map] at this
  simpa [Function.comp_def] using this
/-- a list or a tuple of these -/
inductive SeqD (ds : List D) : D → Prop
  | tup : SeqD ds (.tup ds)
  | lst : SeqD ds (.lst ds)
theorem are_rows {d : D} {rs : List Rw} {b : Nat} (hd : SeqD (rs.map rw) d) (hs : ∀ r, r ∈ rs → SmR b r) (hb : 0 < b) (h : 2 * b ≤ 9000) (hl : rs.length < 1000000) : d_are_rows [d] = .ok (.bl (areR rs)) := by
  have hz : rs.length ≤ PySem.sizeLine := by rw [PySem.sizeLine_eq]; omega
  obtain ⟨tr, ec, ea⟩ : ∃ tr, (∀ d, compD (.nm 1) tYesB (dCall d_is_row (aCons (dVar 1) aNil)) (rs.map rw) [some (.frz d), none, none, none] = .ok tr) ∧ allD [.lst tr] = .ok (.bl true) := by
    refine ⟨(rs.map rw).map fun _ => .bl true, fun d => comp_map (fun _ => .bl true) _ fun x hx => ?_, ?_⟩
    · obtain ⟨r, _, rfl⟩ := List.mem_map.mp hx
      exact ⟨_, rfl, rfl, by simp [is_row_rw]⟩
    · rw [all_map (fun _ : D => true)]; simp
  obtain ⟨zs, ezip, ea2⟩ : ∃ zs, (∀ d, compD (.tp [2, 3]) tYesB (dCall d_below (aCons (dBin ixD (dVarR 2) (dC (.int 0))) (aCons (dBin ixD (dVarR 3) (dC (.int 0))) aNil))) (zipL (rs.map rw) ((rs.map rw).drop 1)) [some (.frz d), none, none, none] = .ok zs) ∧ allD [.lst zs] = .ok (.bl (asc rs)) := by
    refine ⟨(rs.zip (rs.drop 1)).map fun p => .bl (decide (p.1.bg < p.2.bg)), fun d => ?_, all_map (fun p : Rw × Rw => decide (p.1.bg < p.2.bg)) _⟩
    have ez : zipL (rs.map rw) ((rs.map rw).drop 1) = (rs.zip (rs.drop 1)).map fun p => .tup [rw p.1, rw p.2] := by
      unfold zipL
      rw [← List.map_drop, List.zip_map, List.map_map]
      rfl
    rw [ez]
    have key : ∀ (ps : List (Rw × Rw)), (∀ p, p ∈ ps → SmR b p.1 ∧ SmR b p.2) → compD (.tp [2, 3]) tYesB (dCall d_below (aCons (dBin ixD (dVarR 2) (dC (.int 0))) (aCons (dBin ixD (dVarR 3) (dC (.int 0))) aNil))) (ps.map fun p => .tup [rw p.1, rw p.2]) [some (.frz d), none, none, none] =
        .ok (ps.map fun p => .bl (decide (p.1.bg < p.2.bg))) := by
      intro ps
      induction ps with
      | nil => intro _; rfl
      | cons p ps ih =>
        intro hp
        obtain ⟨h1, h2⟩ := hp p (by simp)
        have eb := below h1.1 h2.1 hb hb (by omega)
        rw [List.map_cons]
        unfold compD
        simp [eb, ih fun q hq => hp q (List.mem_cons_of_mem _ hq)]
    exact key _ fun p hp => ⟨hs _ (List.of_mem_zip hp).1, hs _ (List.mem_of_mem_drop (List.of_mem_zip hp).2)⟩
  have hz2 : (zipL (rs.map rw) ((rs.map rw).drop 1)).length ≤ PySem.sizeLine := by rw [zipL_len]; simp; omega
  have en : g_NOUGHT = pt 0 := rfl
  cases rs with
  | nil =>
    have e0 : eqD (.int 0) (.int 0) = .ok (.bl true) := by rw [eqD_int]; rfl
    simp only [d_are_rows, s_are_rows, runB]
    cases hd <;> simp [isi2D, isSub, e0, areR]
  | cons r rs =>
    have e0 : eqD (.int ((rs.length : Int) + 1)) (.int 0) = .ok (.bl false) := by rw [eqD_int, decide_eq_false (by omega)]
    have eq0 := neD_pt (p := r.bg) (q := 0)
    simp only [List.length_cons] at hz
    have ec' := ec
    have ez' := ezip
    have hz2' := hz2
    rw [List.map_cons] at ec' ez' hz2'
    have tl : (rw r :: List.map rw rs).drop 1 = List.map rw rs := rfl
    rw [tl] at ez' hz2'
    simp only [d_are_rows, s_are_rows, runB]
    by_cases hq : r.bg = 0
    · rw [hq] at eq0
      cases hd <;> simp [isi2D, isSub, e0, dComp_ev, wipeE, hz, ec', compR, ea, en, hq, eq0, cut_1, ez', hz2', ea2, areR]
    · cases hd <;> simp [isi2D, isSub, e0, dComp_ev, wipeE, hz, ec', compR, ea, en, hq, eq0, areR]
end FVP

/-! FVP5: the drawn rows of the laws. -/
namespace FVP
open FV
open L2 (atI)
theorem at_mem {α : Type} {xs : List α} {i : Int} (h0 : 0 ≤ i) (h1 : i < xs.length) : ∃ e, e ∈ xs ∧ atI xs i = some e := by
  obtain ⟨n, rfl⟩ : ∃ n : Nat, i = (n : Int) := ⟨i.toNat, by omega⟩
  have hn : n < xs.length := by omega
  exact ⟨xs[n], List.getElem_mem hn, by rw [atI_cast, List.getElem?_eq_getElem hn]⟩
theorem fdiv_lit {i j : Int} (h0 : 0 < j) (h1 : j < 18446744073709551616) : fdivD (.int i) (.int j) = .ok (.int (i / j)) := by
  rw [fdivD_int (divOk_of (b := 64) (by omega) (by unfold Sm; omega) (by decide) (by decide)), Int.fdiv_eq_ediv_of_nonneg _ (by omega)]
theorem mul_l {i j : Int} (h1 : -18446744073709551616 < i) (h2 : i < 18446744073709551616) : mulD (.int i) (.int j) = .ok (.int (i * j)) := mulD_int (mulOk_l h1 h2)
theorem mul_r {i j : Int} (h1 : -18446744073709551616 < j) (h2 : j < 18446744073709551616) : mulD (.int i) (.int j) = .ok (.int (i * j)) := mulD_int (mulOk_r h1 h2)
theorem pow18 : powD (.int 10) (.int 18) = .ok (.int 1000000000000000000) := by rw [powD_int (by unfold PowOk; decide)]; rfl
/-- what the draws are -/
def mix (c k : Int) : Int := ((c + 7919 * k) * 48271 % 2147483647) * ((c + 7919 * k) * 48271 % 2147483647 + 2 * k + 1) % 2147483629
theorem mix_nn (c k : Int) : 0 ≤ mix c k := Int.emod_nonneg _ (by decide)
theorem mix_lt (c k : Int) : mix c k < 2147483629 := Int.emod_lt_of_pos _ (by decide)
theorem mixed {c k : Int} (h0 : 0 ≤ k) (h1 : k < 1000000) : d__law_mixed [.int c, .int k] = .ok (.int (mix c k)) := by
  have b1 := Int.emod_nonneg ((c + 7919 * k) * 48271) (show (2147483647 : Int) ≠ 0 by decide)
  have b2 := Int.emod_lt_of_pos ((c + 7919 * k) * 48271) (show (0 : Int) < 2147483647 by decide)
  have e1 : MulOk 7919 k := mulOk_l (by omega) (by omega)
  have e2 : MulOk (c + 7919 * k) 48271 := mulOk_r (by omega) (by omega)
  have e3 : MulOk ((c + 7919 * k) * 48271 % 2147483647) ((c + 7919 * k) * 48271 % 2147483647 + 2 * k + 1) := mulOk_l (by omega) (by omega)
  have e4 : MulOk 2 k := mulOk_l (by omega) (by omega)
  simp [d__law_mixed, s__law_mixed, runB, mulD_int e1, mulD_int e2, mulD_int e3, mulD_int e4, modD_int, mix]
theorem cell_at (ns : List Int) (k : Nat) : ∃ c : Int, d__law_cell_at [.klst (ns.map D.int), .int (k : Int)] = .ok (.int c) := by
  by_cases h : k < ns.length
  · exact ⟨ns[k], by simp [d__law_cell_at, s__law_cell_at, runB, h]⟩
  · exact ⟨0, by simp [d__law_cell_at, s__law_cell_at, runB, h]⟩
theorem smQ_div {u v : Int} {n : Nat} (hu : u.natAbs < 2 ^ n) (hv : v.natAbs < 2 ^ n) (h : v ≠ 0) : SmQ n (Rat.divInt u v) := smQ_low hu hv h
theorem div_pos {u v : Int} (hu : 0 < u) (hv : 0 < v) : 0 < Rat.divInt u v := by
  rw [Rat.divInt_eq_div, Rat.div_def]
  exact Rat.mul_pos (Rat.intCast_pos.mpr hu) (Rat.inv_pos.mpr (Rat.intCast_pos.mpr hv))
theorem some_ (m : Int) : ∃ q : Rat, d__law_some [.int m] = .ok (pt q) ∧ SmQ 61 q := by
  by_cases h : m % 2 = 0
  · have r1 : (m / 2 % 9 - 4).natAbs < 2 ^ 61 := by omega
    have r2 : (1 + m / 18 % 3).natAbs < 2 ^ 61 := by omega
    have r3 : (1 + m / 18 % 3) ≠ 0 := by omega
    refine ⟨Rat.divInt (m / 2 % 9 - 4) (1 + m / 18 % 3), ?_, smQ_div r1 r2 r3⟩
    have e := reduced (u := m / 2 % 9 - 4) (n := 61) (by decide) (by decide) r3 r2
    simp [d__law_some, s__law_some, runB, modD_int, eqD_int, h, fdiv_lit, e]
  · obtain ⟨u, hu, eu⟩ := at_mem (xs := [D.int 0, .int 1, .int (-1), .int 2, .int (-3), .int 7, .int 12, .int (-40), .int 100, .int 1000000000000000001, .int (-1000000000000000000), .int 3]) (i := m / 2 % 12) (by omega) (by simp; omega)
    obtain ⟨v, hv, ev⟩ := at_mem (xs := [D.int 1, .int 1, .int 2, .int 3, .int 10, .int 1000, .int 1, .int 999983]) (i := m / 24 % 8) (by omega) (by simp; omega)
    obtain ⟨u, rfl, r1⟩ : ∃ i : Int, u = .int i ∧ i.natAbs < 2 ^ 61 := by
      simp only [List.mem_cons, List.not_mem_nil, or_false] at hu
      rcases hu with rfl | rfl | rfl | rfl | rfl | rfl | rfl | rfl | rfl | rfl | rfl | rfl <;> exact ⟨_, rfl, by decide⟩
    obtain ⟨v, rfl, r2, r3⟩ : ∃ i : Int, v = .int i ∧ i.natAbs < 2 ^ 61 ∧ i ≠ 0 := by
      simp only [List.mem_cons, List.not_mem_nil, or_false] at hv
      rcases hv with rfl | rfl | rfl | rfl | rfl | rfl | rfl | rfl <;> exact ⟨_, rfl, by decide, by decide⟩
    refine ⟨Rat.divInt u v, ?_, smQ_div r1 r2 r3⟩
    have e := reduced (u := u) (n := 61) (by decide) (by decide) r3 r2
    simp [d__law_some, s__law_some, runB, modD_int, eqD_int, h, fdiv_lit, pow18, eu, ev, e]
theorem gap_ (m : Int) : ∃ q : Rat, d__law_gap [.int m] = .ok (pt q) ∧ SmQ 61 q ∧ 0 < q := by
  by_cases h : m % 2 = 0
  · have r1 : (1 + m / 2 % 6).natAbs < 2 ^ 61 := by omega
    have r2 : (1 + m / 12 % 3).natAbs < 2 ^ 61 := by omega
    have r3 : 0 < (1 + m / 12 % 3) := by omega
    refine ⟨Rat.divInt (1 + m / 2 % 6) (1 + m / 12 % 3), ?_, smQ_div r1 r2 (by omega), div_pos (by omega) r3⟩
    have e := reduced (u := 1 + m / 2 % 6) (n := 61) (by decide) (by decide) (show (1 + m / 12 % 3) ≠ 0 by omega) r2
    simp [d__law_gap, s__law_gap, runB, modD_int, eqD_int, h, fdiv_lit, e]
  · obtain ⟨u, hu, eu⟩ := at_mem (xs := [D.int 1, .int 2, .int 5, .int 7, .int 1, .int 3, .int 10, .int 1000000000000000000]) (i := m / 2 % 8) (by omega) (by simp; omega)
    obtain ⟨v, hv, ev⟩ := at_mem (xs := [D.int 1, .int 1, .int 2, .int 3, .int 10, .int 1000]) (i := m / 16 % 6) (by omega) (by simp; omega)
    obtain ⟨u, rfl, r1, r4⟩ : ∃ i : Int, u = .int i ∧ i.natAbs < 2 ^ 61 ∧ 0 < i := by
      simp only [List.mem_cons, List.not_mem_nil, or_false] at hu
      rcases hu with rfl | rfl | rfl | rfl | rfl | rfl | rfl | rfl <;> exact ⟨_, rfl, by decide, by decide⟩
    obtain ⟨v, rfl, r2, r3⟩ : ∃ i : Int, v = .int i ∧ i.natAbs < 2 ^ 61 ∧ 0 < i := by
      simp only [List.mem_cons, List.not_mem_nil, or_false] at hv
      rcases hv with rfl | rfl | rfl | rfl | rfl | rfl <;> exact ⟨_, rfl, by decide, by decide⟩
    refine ⟨Rat.divInt u v, ?_, smQ_div r1 r2 (by omega), div_pos r4 r3⟩
    have e := reduced (u := u) (n := 61) (by decide) (by decide) (show v ≠ 0 by omega) r2
    simp [d__law_gap, s__law_gap, runB, modD_int, eqD_int, h, fdiv_lit, pow18, eu, ev, e]
/-- rows of a line, drawn: n of them -/
structure Drawn (rs : List Rw) : Prop where
  sm : ∀ r, r ∈ rs → SmR 1700 r
  ar : areR rs = true
end FVP

/-! FVP6: the drawn rows, told with more between. -/
namespace FVP
open FV
open L2 (atI)
theorem asc_cons2 (a b : Rw) (l : List Rw) : asc (a :: b :: l) = (decide (a.bg < b.bg) && asc (b :: l)) := by simp [asc]
theorem asc_one (a : Rw) : asc [a] = true := by simp [asc]
theorem asc_snoc : ∀ (rs : List Rw) (l r : Rw), rs.getLast? = some l → asc (rs ++ [r]) = (asc rs && decide (l.bg < r.bg))
  | [], l, r, h => by simp at h
  | [a], l, r, h => by
    simp at h; subst h
    show asc (a :: r :: []) = _
    rw [asc_cons2, asc_one, asc_one]; simp
  | a :: b :: rs, l, r, h => by
    have ih := asc_snoc (b :: rs) l r (by simpa using h)
    show asc (a :: b :: (rs ++ [r])) = _
    rw [asc_cons2, asc_cons2]
    have e : asc (b :: (rs ++ [r])) = asc (b :: rs ++ [r]) := rfl
    rw [e, ih, Bool.and_assoc]
theorem areR_snoc {rs : List Rw} {l r : Rw} (h : rs.getLast? = some l) : areR (rs ++ [r]) = (areR rs && decide (l.bg < r.bg)) := by
  cases rs with
  | nil => simp at h
  | cons a rs =>
    have e := asc_snoc (a :: rs) l r h
    show (decide (a.bg = 0) && asc (a :: rs ++ [r])) = (decide (a.bg = 0) && asc (a :: rs) && _)
    rw [e, Bool.and_assoc]
theorem bseq_next {g h : SDen} {ρ ρ' : En} (e : g ρ = .next ρ') : bSeq g h ρ = h ρ' := by rw [bSeq_ev, e]
theorem bseq_cont {g h : SDen} {ρ ρ' : En} (e : g ρ = .cont ρ') : bSeq g h ρ = .cont ρ' := by rw [bSeq_ev, e]
theorem bseq_ret {g h : SDen} {ρ : En} {d : D} (e : g ρ = .ret d) : bSeq g h ρ = .ret d := by rw [bSeq_ev, e]
structure GI (k : Nat) (rs : List Rw) (b : Rat) : Prop where
  len : rs.length = k
  sb : SmQ (62 * k + 1) b
  sm : ∀ r, r ∈ rs → SmQ (62 * k + 1) r.bg ∧ SmQ (62 + 125 * k) r.vl ∧ SmQ (62 + 125 * k) r.bh ∧ SmQ 61 r.sl
  z : rs = [] → b = 0
  la : ∀ l, rs.getLast? = some l → areR rs = true ∧ l.bg < b ∧ SmQ 61 (b - l.bg)
theorem GI.smR {k : Nat} {rs : List Rw} {b : Rat} (g : GI k rs b) (hk : k ≤ 13) : ∀ r, r ∈ rs → SmR 1700 r := fun r h =>
  let ⟨a, b, c, d⟩ := g.sm r h
  ⟨smQ_mono a (by omega), smQ_mono b (by omega), smQ_mono c (by omega), smQ_mono d (by omega)⟩
theorem GI.snoc {k : Nat} {rs : List Rw} {b vl bh sl gp : Rat} (g : GI k rs b) (h1 : SmQ (62 + 125 * (k + 1)) vl) (h2 : SmQ (62 + 125 * (k + 1)) bh) (h3 : SmQ 61 sl) (h4 : SmQ 61 gp) (h5 : 0 < gp) : GI (k + 1) (rs ++ [⟨b, vl, bh, sl⟩]) (b + gp) where
  len := by rw [List.length_append, g.len]; rfl
  sb := smQ_mono (smQ_add g.sb h4) (by omega)
  sm := fun r h => by
    rcases List.mem_append.mp h with h | h
    · obtain ⟨a, b, c, d⟩ := g.sm r h
      exact ⟨smQ_mono a (by omega), smQ_mono b (by omega), smQ_mono c (by omega), d⟩
    · rw [List.mem_singleton] at h; subst h
      exact ⟨smQ_mono g.sb (by omega), h1, h2, h3⟩
  z := fun h => by simp at h
  la := fun l h => by
    rw [List.getLast?_append] at h
    simp at h
    subst h
    refine ⟨?_, by show b < b + gp; grind, by show SmQ 61 (b + gp - b); rw [show b + gp - b = gp by grind]; exact h4⟩
    cases hl : rs.getLast? with
    | none =>
      rw [List.getLast?_eq_none_iff] at hl
      subst hl
      simp [areR, g.z rfl, asc_one]
    | some l =>
      rw [areR_snoc hl]
      obtain ⟨a1, a2, _⟩ := g.la l hl
      simp [a1, a2]
theorem at3 {α : Type} {a b c : α} {i : Int} (h0 : 0 ≤ i) (h1 : i < 3) {P : α → Prop} (ha : P a) (hb : P b) (hc : P c) : ∃ e, P e ∧ atI [a, b, c] i = some e := by
  obtain ⟨e, h, q⟩ := at_mem (xs := [a, b, c]) h0 (by simpa using h1)
  simp only [List.mem_cons, List.not_mem_nil, or_false] at h
  rcases h with rfl | rfl | rfl <;> exact ⟨_, by assumption, q⟩
theorem at7 {α : Type} {a b c d f g k : α} {i : Int} (h0 : 0 ≤ i) (h1 : i < 7) {P : α → Prop} (ha : P a) (hb : P b) (hc : P c) (hd : P d) (hf : P f) (hg : P g) (hk : P k) : ∃ e, P e ∧ atI [a, b, c, d, f, g, k] i = some e := by
  obtain ⟨e, h, q⟩ := at_mem (xs := [a, b, c, d, f, g, k]) h0 (by simpa using h1)
  simp only [List.mem_cons, List.not_mem_nil, or_false] at h
  rcases h with rfl | rfl | rfl | rfl | rfl | rfl | rfl <;> exact ⟨_, by assumption, q⟩
theorem rows_s1 (c : Int) (n i : Nat) (hi : i < 12) (rs : List Rw) (b : Rat) (x5 x6 x7 x8 x9 x10 x11 : Option Sl) (g : GI i rs b) (hl : rs.getLast? = none) : ∃ (ρ2 : En) (rs' : List Rw) (b' : Rat) (y5 y6 y7 y8 y9 y10 y11 : Option Sl), s__law_rows_l1 [some (.frz (.int c)), some (.frz (.int (n : Int))), some (.own (rs.map rw)), some (.frz (pt b)), some (.frz (.int (i : Int))), x5, x6, x7, x8, x9, x10, x11] = .next ρ2 ∧ ρ2 = [some (.frz (.int c)), some (.frz (.int (n : Int))), some (.own (rs'.map rw)), some (.frz (pt b')), some (.frz (.int (i : Int))), y5, y6, y7, y8, y9, y10, y11] ∧ GI (i + 1) rs' b' := by
  obtain ⟨s1, e1, q1⟩ := some_ (mix c (80 + (i : Int)))
  obtain ⟨s2, e2, q2⟩ := some_ (mix c (10 + (i : Int)) / 7)
  obtain ⟨s3, e3, q3⟩ := some_ (mix c (10 + (i : Int)) / 900)
  obtain ⟨gp, e4, q4, q5⟩ := gap_ (mix c (10 + (i : Int)) / 11)
  have m0 := mix_nn c (10 + (i : Int))
  have f1 := mixed (c := c) (k := 10 + (i : Int)) (by omega) (by omega)
  have f2 := mixed (c := c) (k := 80 + (i : Int)) (by omega) (by omega)
  generalize mix c (10 + (i : Int)) = m at *
  generalize mix c (80 + (i : Int)) = m2 at *
  have es := l_sum g.sb q4 (by omega) (by omega) (by omega)
  have hlen : rs.length < PySem.sizeLine := by rw [PySem.sizeLine_eq, g.len]; omega
  have hnil : rs = [] := List.getLast?_eq_none_iff.mp hl
  have P2 : SmQ (62 + 125 * (i + 1)) s2 := smQ_mono q2 (by omega)
  have P3 : SmQ (62 + 125 * (i + 1)) s3 := smQ_mono q3 (by omega)
  obtain ⟨u1, ⟨v1, rfl, k1⟩, a1⟩ := at7 (a := pt s2) (b := pt s2) (c := pt s2) (d := pt s2) (f := pt s2) (g := pt s2) (k := pt s2) (i := m % 7) (by omega) (by omega) (P := fun d => ∃ q, d = pt q ∧ SmQ (62 + 125 * (i + 1)) q) ⟨_, rfl, P2⟩ ⟨_, rfl, P2⟩ ⟨_, rfl, P2⟩ ⟨_, rfl, P2⟩ ⟨_, rfl, P2⟩ ⟨_, rfl, P2⟩ ⟨_, rfl, P2⟩
  obtain ⟨u2, ⟨v2, rfl, k2⟩, a2⟩ := at7 (a := pt s2) (b := pt s2) (c := pt s2) (d := pt s2) (f := pt s3) (g := pt s2) (k := pt s2) (i := m % 7) (by omega) (by omega) (P := fun d => ∃ q, d = pt q ∧ SmQ (62 + 125 * (i + 1)) q) ⟨_, rfl, P2⟩ ⟨_, rfl, P2⟩ ⟨_, rfl, P2⟩ ⟨_, rfl, P2⟩ ⟨_, rfl, P3⟩ ⟨_, rfl, P2⟩ ⟨_, rfl, P2⟩
  refine ⟨[some (.frz (.int c)), some (.frz (.int (n : Int))), some (.own ((rs ++ [(⟨b, v1, v2, s1⟩ : Rw)]).map rw)), some (.frz (pt (b + gp))), some (.frz (.int (i : Int))), some (.frz (.int m)), some (.frz (pt s1)), some (.frz (pt s2)), some (.frz (pt s2)), some (.frz (pt s3)), some (.frz (pt v1)), some (.frz (pt v2))], _, _, _, _, _, _, _, _, _, ?_, rfl, g.snoc k1 k2 q1 q4 q5⟩
  have e0 := neD_nil rs
  rw [decide_eq_true hnil] at e0
  unfold s__law_rows_l1
  refine (bseq_next (by simp [f1]; rfl)).trans ?_
  refine (bseq_next (by simp [f2, e1]; rfl)).trans ?_
  refine (bseq_next (by simp [fdiv_lit, e2]; rfl)).trans ?_
  refine (bseq_next (by simp; rfl)).trans ?_
  refine (bseq_next (by simp [e0]; rfl)).trans ?_
  refine (bseq_next (by simp [fdiv_lit, e3]; rfl)).trans ?_
  refine (bseq_next (by simp [modD_int, a1]; rfl)).trans ?_
  refine (bseq_next (by simp [modD_int, a2]; rfl)).trans ?_
  refine (bseq_next (by simp [sApp, hlen]; rfl)).trans ?_
  simp [fdiv_lit, e4, es, rw]
theorem rows_s2 (c : Int) (n i : Nat) (hi : i < 12) (rs : List Rw) (b : Rat) (x5 x6 x7 x8 x9 x10 x11 : Option Sl) (g : GI i rs b) (l : Rw) (hl : rs.getLast? = some l) : ∃ (ρ2 : En) (rs' : List Rw) (b' : Rat) (y5 y6 y7 y8 y9 y10 y11 : Option Sl), s__law_rows_l1 [some (.frz (.int c)), some (.frz (.int (n : Int))), some (.own (rs.map rw)), some (.frz (pt b)), some (.frz (.int (i : Int))), x5, x6, x7, x8, x9, x10, x11] = .next ρ2 ∧ ρ2 = [some (.frz (.int c)), some (.frz (.int (n : Int))), some (.own (rs'.map rw)), some (.frz (pt b')), some (.frz (.int (i : Int))), y5, y6, y7, y8, y9, y10, y11] ∧ GI (i + 1) rs' b' := by
  obtain ⟨s1, e1, q1⟩ := some_ (mix c (80 + (i : Int)))
  obtain ⟨s2, e2, q2⟩ := some_ (mix c (10 + (i : Int)) / 7)
  obtain ⟨s3, e3, q3⟩ := some_ (mix c (10 + (i : Int)) / 900)
  obtain ⟨gp, e4, q4, q5⟩ := gap_ (mix c (10 + (i : Int)) / 11)
  have m0 := mix_nn c (10 + (i : Int))
  have f1 := mixed (c := c) (k := 10 + (i : Int)) (by omega) (by omega)
  have f2 := mixed (c := c) (k := 80 + (i : Int)) (by omega) (by omega)
  generalize mix c (10 + (i : Int)) = m at *
  generalize mix c (80 + (i : Int)) = m2 at *
  have es := l_sum g.sb q4 (by omega) (by omega) (by omega)
  have hlen : rs.length < PySem.sizeLine := by rw [PySem.sizeLine_eq, g.len]; omega
  have hm : l ∈ rs := List.mem_of_getLast? hl
  obtain ⟨ar, lt, dif⟩ := g.la l hl
  have hr := g.smR (by omega) l hm
  have ec := l_comes hr (smQ_mono g.sb (show 62 * i + 1 ≤ 1700 by omega)) (by decide) (by decide) (by decide)
  obtain ⟨t1, t2, t3, t4⟩ := g.sm l hm
  have sc : SmQ (62 + 125 * (i + 1)) (comes l b) := smQ_mono (smQ_add t3 (smQ_mul t4 dif)) (by omega)
  have P2 : SmQ (62 + 125 * (i + 1)) s2 := smQ_mono q2 (by omega)
  have P3 : SmQ (62 + 125 * (i + 1)) s3 := smQ_mono q3 (by omega)
  obtain ⟨u1, ⟨v1, rfl, k1⟩, a1⟩ := at7 (a := pt (comes l b)) (b := pt s2) (c := pt (comes l b)) (d := pt s2) (f := pt s2) (g := pt (comes l b)) (k := pt (comes l b)) (i := m % 7) (by omega) (by omega) (P := fun d => ∃ q, d = pt q ∧ SmQ (62 + 125 * (i + 1)) q) ⟨_, rfl, sc⟩ ⟨_, rfl, P2⟩ ⟨_, rfl, sc⟩ ⟨_, rfl, P2⟩ ⟨_, rfl, P2⟩ ⟨_, rfl, sc⟩ ⟨_, rfl, sc⟩
  obtain ⟨u2, ⟨v2, rfl, k2⟩, a2⟩ := at7 (a := pt (comes l b)) (b := pt (comes l b)) (c := pt s2) (d := pt s2) (f := pt s3) (g := pt (comes l b)) (k := pt (comes l b)) (i := m % 7) (by omega) (by omega) (P := fun d => ∃ q, d = pt q ∧ SmQ (62 + 125 * (i + 1)) q) ⟨_, rfl, sc⟩ ⟨_, rfl, sc⟩ ⟨_, rfl, P2⟩ ⟨_, rfl, P2⟩ ⟨_, rfl, P3⟩ ⟨_, rfl, sc⟩ ⟨_, rfl, sc⟩
  obtain ⟨u3, ⟨v3, rfl, k3⟩, a3⟩ := at3 (a := pt s1) (b := pt s1) (c := pt l.sl) (i := m / 90 % 3) (by omega) (by omega) (P := fun d => ∃ q, d = pt q ∧ SmQ 61 q) ⟨_, rfl, q1⟩ ⟨_, rfl, q1⟩ ⟨_, rfl, t4⟩
  refine ⟨[some (.frz (.int c)), some (.frz (.int (n : Int))), some (.own ((rs ++ [(⟨b, v1, v2, v3⟩ : Rw)]).map rw)), some (.frz (pt (b + gp))), some (.frz (.int (i : Int))), some (.frz (.int m)), some (.frz (pt v3)), some (.frz (pt s2)), some (.frz (pt (comes l b))), some (.frz (pt s3)), some (.frz (pt v1)), some (.frz (pt v2))], _, _, _, _, _, _, _, _, _, ?_, rfl, g.snoc k1 k2 k3 q4 q5⟩
  have hne : rs ≠ [] := fun z => by rw [z] at hl; simp at hl
  have e0 := neD_nil rs
  rw [decide_eq_false hne] at e0
  unfold s__law_rows_l1
  refine (bseq_next (by simp [f1]; rfl)).trans ?_
  refine (bseq_next (by simp [f2, e1]; rfl)).trans ?_
  refine (bseq_next (by simp [fdiv_lit, e2]; rfl)).trans ?_
  refine (bseq_next (by simp; rfl)).trans ?_
  refine (bseq_next (by simp [e0, atI_last, hl, ec, fdiv_lit, modD_int, a3]; rfl)).trans ?_
  refine (bseq_next (by simp [fdiv_lit, e3]; rfl)).trans ?_
  refine (bseq_next (by simp [modD_int, a1]; rfl)).trans ?_
  refine (bseq_next (by simp [modD_int, a2]; rfl)).trans ?_
  refine (bseq_next (by simp [sApp, hlen]; rfl)).trans ?_
  simp [fdiv_lit, e4, es, rw]
theorem nought : D.tup [.int 0, .int 1] = pt 0 := rfl
theorem rows_loop (c : Int) (n : Nat) (hn : n ≤ 12) : ∃ (rs : List Rw) (b : Rat) (x4 x5 x6 x7 x8 x9 x10 x11 : Option Sl), forD (.nm 4) s__law_rows_l1 (rangeL 0 n) [some (.frz (.int c)), some (.frz (.int (n : Int))), some (.own []), some (.frz (pt 0)), none, none, none, none, none, none, none, none] =
    .next [some (.frz (.int c)), some (.frz (.int (n : Int))), some (.own (rs.map rw)), some (.frz (pt b)), x4, x5, x6, x7, x8, x9, x10, x11] ∧ GI n rs b := by
  obtain ⟨ρ', e, rs, b, x4, x5, x6, x7, x8, x9, x10, x11, rfl, g⟩ := forD_inv (T := .nm 4) (body := s__law_rows_l1)
    (fun k ρ => ∃ (rs : List Rw) (b : Rat) (x4 x5 x6 x7 x8 x9 x10 x11 : Option Sl), ρ = [some (.frz (.int c)), some (.frz (.int (n : Int))), some (.own (rs.map rw)), some (.frz (pt b)), x4, x5, x6, x7, x8, x9, x10, x11] ∧ GI k rs b) (rangeL 0 n) 0
    [some (.frz (.int c)), some (.frz (.int (n : Int))), some (.own []), some (.frz (pt 0)), none, none, none, none, none, none, none, none]
    ⟨[], 0, none, none, none, none, none, none, none, none, rfl, ⟨rfl, ⟨sm_zero, sm_one (by decide)⟩, by simp, fun _ => rfl, by simp⟩⟩ (by
      rintro i d ρ hd ⟨rs, b, x4, x5, x6, x7, x8, x9, x10, x11, rfl, g⟩
      rw [Nat.zero_add] at *
      obtain ⟨hi, rfl⟩ := range0_get hd
      cases hl : rs.getLast? with
      | none =>
        obtain ⟨ρ2, rs', b', y5, y6, y7, y8, y9, y10, y11, h1, rfl, h3⟩ := rows_s1 c n i (by omega) rs b x5 x6 x7 x8 x9 x10 x11 g hl
        exact ⟨_, _, rfl, .inl h1, rs', b', _, _, _, _, _, _, _, _, rfl, h3⟩
      | some l =>
        obtain ⟨ρ2, rs', b', y5, y6, y7, y8, y9, y10, y11, h1, rfl, h3⟩ := rows_s2 c n i (by omega) rs b x5 x6 x7 x8 x9 x10 x11 g l hl
        exact ⟨_, _, rfl, .inl h1, rs', b', _, _, _, _, _, _, _, _, rfl, h3⟩)
  have hg : (rangeL 0 n).length = n := by unfold rangeL; simp
  rw [Nat.zero_add, hg] at g
  exact ⟨rs, b, x4, x5, x6, x7, x8, x9, x10, x11, e, g⟩
theorem rows_ (c : Int) (n : Nat) (hn : n ≤ 12) : ∃ (rs : List Rw) (b : Rat), d__law_rows [.int c, .int (n : Int)] = .ok (.lst (rs.map rw)) ∧ GI n rs b := by
  obtain ⟨rs, b, x4, x5, x6, x7, x8, x9, x10, x11, e, g⟩ := rows_loop c n hn
  have er := rng1_nat (n := n) (by omega)
  refine ⟨rs, b, runB_ret ?_, g⟩
  show s__law_rows [some (.frz (.int c)), some (.frz (.int (n : Int))), none, none, none, none, none, none, none, none, none, none] = _
  unfold s__law_rows
  refine (bseq_next (by simp; rfl)).trans ?_
  refine (bseq_next (ρ' := [some (.frz (.int c)), some (.frz (.int (n : Int))), some (.own []), some (.frz (pt 0)), none, none, none, none, none, none, none, none]) (by simp [nought])).trans ?_
  refine (bseq_next (ρ' := [some (.frz (.int c)), some (.frz (.int (n : Int))), some (.own (rs.map rw)), some (.frz (pt b)), x4, x5, x6, x7, x8, x9, x10, x11]) ?_).trans ?_
  · rw [sFor_ev]
    have hi : iRng (aCons (dVarR 1) aNil) [some (.frz (.int c)), some (.frz (.int (n : Int))), some (.own []), some (.frz (pt 0)), none, none, none, none, none, none, none, none] = .ok (rangeL 0 n) := by
      show ((dVarR 1 [some (.frz (.int c)), some (.frz (.int (n : Int))), some (.own []), some (.frz (pt 0)), none, none, none, none, none, none, none, none]).bind fun d => (Res.ok []).bind fun ds => Res.ok (d :: ds)).bind rng1 = _
      rw [dVarR_s, dVarR_0, bind_ok', bind_ok', bind_ok', er]
    rw [hi, lift_ok]
    rw [e]
  · simp [sFrz, frzE]
end FVP

/-! FVP7: the fewest rows. -/
namespace FVP
open FV
open L2 (atI)
theorem thin_snoc (rs : List Rw) (r : Rw) : thin (rs ++ [r]) = stepT (thin rs) r := by simp [thin, List.foldl_append]
theorem stepT_nil (r : Rw) : stepT [] r = [r] := rfl
theorem thin_thin (rs : List Rw) : thin (thin rs) = thin rs := by
  have : ∀ n (rs : List Rw), rs.length = n → thin (thin rs) = thin rs := by
    intro n
    induction n with
    | zero => intro rs h; rw [List.length_eq_zero_iff.mp h]; rfl
    | succ n ih =>
      intro rs h
      obtain ⟨qs, r, rfl⟩ : ∃ qs r, rs = qs ++ [r] := by
        have hne : rs ≠ [] := by intro z; rw [z] at h; simp at h
        exact ⟨rs.dropLast, rs.getLast hne, (List.dropLast_concat_getLast hne).symm⟩
      have iq := ih qs (by simp at h; exact h)
      rw [thin_snoc]
      cases hl : (thin qs).getLast? with
      | none =>
        have e : thin qs = [] := List.getLast?_eq_none_iff.mp hl
        rw [e]; rfl
      | some l =>
        by_cases hg : goes l r = true
        · have e : stepT (thin qs) r = thin qs := by unfold stepT; rw [hl]; simp [hg]
          rw [e, iq]
        · have e : stepT (thin qs) r = thin qs ++ [r] := by unfold stepT; rw [hl]; simp [hg]
          rw [e, thin_snoc, iq, e]
  exact this _ rs rfl
theorem stepT_sub (acc : List Rw) (r : Rw) : (stepT acc r).Sublist (acc ++ [r]) := by
  unfold stepT
  split
  · exact List.sublist_append_right _ _
  · split
    · exact List.sublist_append_left _ _
    · exact List.Sublist.refl _
theorem fold_sub : ∀ (rs acc : List Rw), (rs.foldl stepT acc).Sublist (acc ++ rs)
  | [], acc => by simp
  | r :: rs, acc => by
    have h := fold_sub rs (stepT acc r)
    have h2 : (stepT acc r ++ rs).Sublist (acc ++ [r] ++ rs) := (stepT_sub acc r).append (List.Sublist.refl rs)
    simpa using h.trans h2
theorem thin_sub (rs : List Rw) : (thin rs).Sublist rs := by
  have := fold_sub rs []
  simpa [thin] using this
theorem thin_eq (rs : List Rw) : thin rs = rs ↔ rs.length = (thin rs).length := ⟨fun h => by rw [h], fun h => (thin_sub rs).eq_of_length h.symm⟩
theorem stepT_pre {acc : List Rw} {r : Rw} (h : acc ≠ []) : acc <+: stepT acc r := by
  unfold stepT
  split
  · rename_i e; exact absurd (List.getLast?_eq_none_iff.mp e) h
  · split
    · exact List.prefix_refl _
    · exact List.prefix_append _ _
theorem fold_pre : ∀ (rs acc : List Rw), acc ≠ [] → acc <+: rs.foldl stepT acc
  | [], acc, _ => List.prefix_refl _
  | r :: rs, acc, h => (stepT_pre h).trans (fold_pre rs _ stepT_ne)
theorem thin_head (r : Rw) (rs : List Rw) : ∃ qs, thin (r :: rs) = r :: qs := by
  obtain ⟨qs, h⟩ := fold_pre rs [r] (by simp)
  exact ⟨qs, h.symm⟩
theorem asc_pw : ∀ {rs : List Rw}, asc rs = true ↔ rs.Pairwise fun a b => a.bg < b.bg
  | [] => by simp [asc]
  | [a] => by simp [asc]
  | a :: b :: l => by
    rw [asc_cons2, List.pairwise_cons, Bool.and_eq_true, asc_pw (rs := b :: l), decide_eq_true_iff]
    constructor
    · rintro ⟨h1, h2⟩
      refine ⟨fun x hx => ?_, h2⟩
      rcases List.mem_cons.mp hx with rfl | hx
      · exact h1
      · exact Std.lt_trans h1 ((List.pairwise_cons.mp h2).1 x hx)
    · rintro ⟨h1, h2⟩
      exact ⟨h1 b (by simp), h2⟩
theorem thin_areR {rs : List Rw} (h : areR rs = true) : areR (thin rs) = true := by
  cases rs with
  | nil => simp [areR] at h
  | cons r rs =>
    obtain ⟨qs, e⟩ := thin_head r rs
    have s := thin_sub (r :: rs)
    rw [e] at s ⊢
    simp only [areR, Bool.and_eq_true] at h ⊢
    exact ⟨h.1, asc_pw.mpr ((asc_pw.mp h.2).sublist s)⟩
theorem goes_iff {r l : Rw} : goes r l = true ↔ l.sl = r.sl ∧ l.vl = l.bh ∧ l.vl = comes r l.bg := by simp [goes]
/-- a row that tells nothing new behind r -/
theorem absorb {acc : List Rw} {r x : Rw} (h1 : x.sl = r.sl) (h2 : x.vl = x.bh) (h3 : x.vl = comes r x.bg) : stepT (stepT acc r) x = stepT acc r := by
  have gr : goes r x = true := by simp [goes, h1, ← h2, ← h3]
  cases hl : acc.getLast? with
  | none =>
    have e : stepT acc r = [r] := by unfold stepT; rw [hl]
    rw [e]; unfold stepT; simp [gr]
  | some l =>
    by_cases hg : goes l r = true
    · have e : stepT acc r = acc := by unfold stepT; rw [hl]; simp [hg]
      rw [e]
      have gx : goes l x = true := by
        rw [goes_iff] at hg ⊢
        obtain ⟨a1, a2, a3⟩ := hg
        refine ⟨by rw [h1, a1], h2, ?_⟩
        rw [h3]
        unfold comes at a3 ⊢
        rw [← a2, a3, a1]
        grind
      unfold stepT; rw [hl]; simp [gx]
    · have e : stepT acc r = acc ++ [r] := by unfold stepT; rw [hl]; simp [hg]
      rw [e]; unfold stepT; simp [gr]
@[simp] theorem isD_non : isD .non .non = .ok (.bl true) := rfl
@[simp] theorem isD_pt {q : Rat} : isD (pt q) .non = .ok (.bl false) := rfl
theorem ne_tri {r l : Rw} {c : Rat} (hc : c = comes l r.bg) : neD (.tup [pt r.vl, pt r.bh, pt r.sl]) (.tup [pt c, pt c, pt l.sl]) = .ok (.bl (!goes l r)) := by
  have p3 : ∀ a b c : Rat, Pl false 2 (.tup [pt a, pt b, pt c]) := fun a b c => .tup fun d h => by
    simp only [List.mem_cons, List.not_mem_nil, or_false] at h
    rcases h with rfl | rfl | rfl <;> exact pl_pt _
  rw [neD_pl (p3 _ _ _) (p3 _ _ _) (by omega) (by omega)]
  subst hc
  have key : (D.tup [pt r.vl, pt r.bh, pt r.sl] = .tup [pt (comes l r.bg), pt (comes l r.bg), pt l.sl]) ↔ goes l r = true := by
    rw [goes_iff]
    simp only [D.tup.injEq, List.cons.injEq, and_true]
    constructor
    · rintro ⟨a, b, c⟩
      have a := pt_inj a; have b := pt_inj b; have c := pt_inj c
      exact ⟨c, by rw [a, b], a⟩
    · rintro ⟨a, b, c⟩
      exact ⟨by rw [c], by rw [← b, c], by rw [a]⟩
  by_cases hg : goes l r = true
  · rw [@decide_eq_true _ (Classical.propDecidable _) (key.mpr hg), hg]
  · rw [@decide_eq_false _ (Classical.propDecidable _) (fun z => hg (key.mp z))]
    simp at hg
    rw [hg]
theorem l_thin {d : D} {rs : List Rw} {b : Nat} (hd : itemsR d = .ok (rs.map rw)) (hs : ∀ r, r ∈ rs → SmR b r) (hb : 0 < b) (h : 4 * b + 1 ≤ 9000) (hl : rs.length < 1000000) : d__law_thin [d] = .ok (.tup ((thin rs).map rw)) := by
  obtain ⟨ρ', e, x, y, rfl⟩ := forD_inv (T := .nm 2) (body := s__law_thin_l1)
    (fun k ρ => ∃ x y : Option Sl, ρ = [some (.frz d), some (.own ((thin (rs.take k)).map rw)), x, y]) (rs.map rw) 0
    [some (.frz d), some (.own []), none, none] ⟨none, none, rfl⟩ (by
      rintro i z ρ hz ⟨x, y, rfl⟩
      rw [Nat.zero_add]
      rw [List.getElem?_map] at hz
      obtain ⟨r, hr, rfl⟩ := Option.map_eq_some_iff.mp hz
      have hrm : r ∈ rs := List.mem_of_getElem? hr
      have hm : ∀ x, x ∈ thin (rs.take i) → SmR b x := thin_mem fun x hx => hs x (List.mem_of_mem_take hx)
      have hln := thin_len (rs.take i)
      rw [List.length_take] at hln
      have hi : i < rs.length := (List.getElem?_eq_some_iff.mp hr).1
      have hlen : (thin (rs.take i)).length < PySem.sizeLine := by rw [PySem.sizeLine_eq]; omega
      have et : thin (rs.take (i + 1)) = stepT (thin (rs.take i)) r := take_succ_fold hr
      rw [et]
      generalize thin (rs.take i) = acc at *
      have rc : cutD [pt r.bg, pt r.vl, pt r.bh, pt r.sl] (some 1) none = [pt r.vl, pt r.bh, pt r.sl] := cut_1
      have srw : sliceD (rw r) (some 1) none = .ok (.tup [pt r.vl, pt r.bh, pt r.sl]) := by unfold rw; rw [slice_tup, rc]
      cases hg : acc.getLast? with
      | none =>
        have hnil : acc = [] := List.getLast?_eq_none_iff.mp hg
        subst hnil
        refine ⟨_, [some (.frz d), some (.own ((stepT [] r).map rw)), some (.frz (rw r)), some (.frz .non)], rfl, .inl ?_, _, _, rfl⟩
        have e0 : neD (.lst []) (.lst []) = .ok (.bl false) := neD_nil []
        have z : 0 < PySem.sizeLine := by rw [PySem.sizeLine_eq]; omega
        simp [s__law_thin_l1, e0, stepT, sApp, z]
      | some l =>
        have hne : acc ≠ [] := fun z => by rw [z] at hg; simp at hg
        have hlm : l ∈ acc := List.mem_of_getLast? hg
        have ec := l_comes (hm l hlm) (hs r hrm).1 hb hb (by omega)
        have en := ne_tri (r := r) (l := l) (c := comes l r.bg) rfl
        refine ⟨_, [some (.frz d), some (.own ((stepT acc r).map rw)), some (.frz (rw r)), some (.frz (pt (comes l r.bg)))], rfl, .inl ?_, _, _, rfl⟩
        have e0 := neD_nil acc
        rw [decide_eq_false hne] at e0
        cases hq : goes l r <;> rw [hq] at en <;> simp [s__law_thin_l1, e0, atI_last, hg, ec, srw, en, hq, stepT, sApp, hlen])
  rw [Nat.zero_add, List.length_map, List.take_length] at e
  simp only [d__law_thin, s__law_thin, runB]
  simp [hd, e]
end FVP

/-! FVP8: rows with more between; lines. -/
namespace FVP
open FV
open L2 (atI)
def SmG (r : Rw) : Prop := SmQ 745 r.bg ∧ SmQ 1562 r.vl ∧ SmQ 1562 r.bh ∧ SmQ 61 r.sl
theorem SmG.smR {r : Rw} (h : SmG r) : SmR 1700 r := ⟨smQ_mono h.1 (by decide), smQ_mono h.2.1 (by decide), smQ_mono h.2.2.1 (by decide), smQ_mono h.2.2.2 (by decide)⟩
theorem GI.smG {k : Nat} {rs : List Rw} {b : Rat} (g : GI k rs b) (hk : k ≤ 12) : ∀ r, r ∈ rs → SmG r := fun r h =>
  let ⟨a, b, c, d⟩ := g.sm r h
  ⟨smQ_mono a (by omega), smQ_mono b (by omega), smQ_mono c (by omega), d⟩
theorem GI.areR {k : Nat} {rs : List Rw} {b : Rat} (g : GI k rs b) (hk : 0 < k) : areR rs = true := by
  cases h : rs.getLast? with
  | none => have := List.getLast?_eq_none_iff.mp h; have := g.len; subst rs; simp at this; omega
  | some l => exact (g.la l h).1
structure FI (rs : List Rw) (k : Nat) (fs : List Rw) : Prop where
  sm : ∀ r, r ∈ fs → SmR 1700 r
  th : thin fs = thin (rs.take k)
  z : k = 0 → fs = []
  ar : fs = [] ∨ areR fs = true
  la : ∀ l, fs.getLast? = some l → ∀ r, rs[k]? = some r → l.bg < r.bg
  le : fs.length ≤ 2 * k
  ne : 0 < k → fs ≠ []
theorem asc_get {rs : List Rw} (h : areR rs = true) {i : Nat} {a b : Rw} (ha : rs[i]? = some a) (hb : rs[i + 1]? = some b) : a.bg < b.bg := by
  cases rs with
  | nil => simp at ha
  | cons r rs =>
    simp only [areR, Bool.and_eq_true] at h
    have p := asc_pw.mp h.2
    obtain ⟨h1, rfl⟩ := List.getElem?_eq_some_iff.mp ha
    obtain ⟨h2, rfl⟩ := List.getElem?_eq_some_iff.mp hb
    exact List.pairwise_iff_getElem.mp p i (i + 1) h1 h2 (by omega)
theorem FI.row {rs fs : List Rw} {k : Nat} {r : Rw} (f : FI rs k fs) (hr : rs[k]? = some r) (ha : areR rs = true) (hg : SmR 1700 r) : FI rs (k + 1) (fs ++ [r]) where
  sm := fun x h => by
    rcases List.mem_append.mp h with h | h
    · exact f.sm x h
    · rw [List.mem_singleton] at h; subst h; exact hg
  th := by rw [thin_snoc, f.th]; exact (take_succ_fold hr).symm
  z := fun h => by omega
  ar := .inr (by
    cases hl : fs.getLast? with
    | none =>
      have e : fs = [] := List.getLast?_eq_none_iff.mp hl
      have hk : k = 0 := by
        cases k with
        | zero => rfl
        | succ k => exact absurd e (f.ne (by omega))
      subst hk; subst e
      cases rs with
      | nil => simp at hr
      | cons a rs =>
        simp at hr; subst hr
        simp only [areR, Bool.and_eq_true] at ha
        simp [areR, asc_one]
        exact of_decide_eq_true ha.1
    | some l =>
      rw [areR_snoc hl, Bool.and_eq_true]
      rcases f.ar with e | e
      · rw [e] at hl; simp at hl
      · exact ⟨e, decide_eq_true (f.la l hl r hr)⟩)
  la := fun l hl r' hr' => by
    rw [List.getLast?_append] at hl
    simp at hl
    subst hl
    exact asc_get ha hr hr'
  le := by simp; have := f.le; omega
  ne := fun _ => by simp
theorem FI.put {rs fs : List Rw} {k : Nat} {r x : Rw} (f : FI rs (k + 1) (fs ++ [r])) (hx : SmR 1700 x) (h1 : x.sl = r.sl) (h2 : x.vl = x.bh) (h3 : x.vl = comes r x.bg) (h4 : r.bg < x.bg) (h5 : ∀ r', rs[k + 1]? = some r' → x.bg < r'.bg) (h6 : (fs ++ [r]).length ≤ 2 * k + 1) : FI rs (k + 1) (fs ++ [r] ++ [x]) where
  sm := fun y h => by
    rcases List.mem_append.mp h with h | h
    · exact f.sm y h
    · rw [List.mem_singleton] at h; subst h; exact hx
  th := by
    rw [thin_snoc, ← f.th, thin_snoc]
    exact absorb h1 h2 h3
  z := fun h => by omega
  ar := .inr (by
    have hl : (fs ++ [r]).getLast? = some r := by simp
    rw [areR_snoc hl, Bool.and_eq_true]
    rcases f.ar with e | e
    · simp at e
    · exact ⟨e, decide_eq_true h4⟩)
  la := fun l hl r' hr' => by
    rw [List.getLast?_append] at hl
    simp at hl
    subst hl
    exact h5 r' hr'
  le := by rw [List.length_append]; simp at h6 ⊢; omega
  ne := fun _ => by simp
theorem enum_get {rs : List Rw} {i : Nat} {d : D} (h : (enumL (rs.map rw))[i]? = some d) : ∃ r, rs[i]? = some r ∧ d = .tup [.int (i : Int), rw r] := by
  obtain ⟨e, h1, h2⟩ := enumL_get h
  rw [List.getElem?_map] at h1
  obtain ⟨r, hr, rfl⟩ := Option.map_eq_some_iff.mp h1
  exact ⟨r, hr, h2⟩
theorem filled_step (c : Int) (rs : List Rw) (ha : areR rs = true) (hs : ∀ r, r ∈ rs → SmG r) (hn : rs.length ≤ 1000) (k : Nat) (fs : List Rw) (r : Rw) (hr : rs[k]? = some r) (f : FI rs k fs) (x5 x6 x7 : Option Sl) :
    ∃ (fs' : List Rw) (y5 y6 y7 : Option Sl), s__law_filled_l1 [some (.frz (.lst (rs.map rw))), some (.frz (.int c)), some (.own (fs.map rw)), some (.frz (.int (k : Int))), some (.frz (rw r)), x5, x6, x7] =
      .next [some (.frz (.lst (rs.map rw))), some (.frz (.int c)), some (.own (fs'.map rw)), some (.frz (.int (k : Int))), some (.frz (rw r)), y5, y6, y7] ∧ FI rs (k + 1) fs' := by
  have hm : r ∈ rs := List.mem_of_getElem? hr
  have hk : k < rs.length := (List.getElem?_eq_some_iff.mp hr).1
  have hg := hs r hm
  obtain ⟨gp, e1, q1, q2⟩ := gap_ (mix c (150 + (k : Int)) / 5)
  have f1 := mixed (c := c) (k := 150 + (k : Int)) (by omega) (by omega)
  have m0 := mix_nn c (150 + (k : Int))
  generalize mix c (150 + (k : Int)) = m at *
  have e2 := l_sum hg.1 q1 (by decide) (by decide) (by decide)
  have sf : SmQ 807 (r.bg + gp) := smQ_add hg.1 q1
  have hlen : fs.length < PySem.sizeLine := by rw [PySem.sizeLine_eq]; have := f.le; omega
  have hlen2 : (fs ++ [r]).length < PySem.sizeLine := by rw [PySem.sizeLine_eq]; have := f.le; simp; omega
  have F1 := f.row hr ha hg.smR
  have fnp : FI rs (k + 1) (fs ++ [r]) := F1
  have ec := l_comes hg.smR (smQ_mono sf (show 807 ≤ 1700 by decide)) (by decide) (by decide) (by decide)
  have cv : comes r (r.bg + gp) = r.bh + r.sl * gp := by unfold comes; grind
  have sc : SmQ 1700 (comes r (r.bg + gp)) := by rw [cv]; exact smQ_mono (smQ_add hg.2.2.1 (smQ_mul hg.2.2.2 q1)) (by decide)
  have put : (∀ r', rs[k + 1]? = some r' → r.bg + gp < r'.bg) → FI rs (k + 1) (fs ++ [r] ++ [⟨r.bg + gp, comes r (r.bg + gp), comes r (r.bg + gp), r.sl⟩]) := fun h5 =>
    F1.put ⟨smQ_mono sf (by decide), sc, sc, smQ_mono hg.2.2.2 (by decide)⟩ rfl rfl rfl (by show r.bg < r.bg + gp; grind) h5 (by have := f.le; simp; omega)
  have hrw : rw ⟨r.bg + gp, comes r (r.bg + gp), comes r (r.bg + gp), r.sl⟩ = .tup [pt (r.bg + gp), pt (comes r (r.bg + gp)), pt (comes r (r.bg + gp)), pt r.sl] := rfl
  unfold s__law_filled_l1
  by_cases h3 : m % 3 = 0
  · by_cases h4 : (k : Int) + 1 = (rs.length : Int)
    · refine ⟨fs ++ [r] ++ [(⟨r.bg + gp, comes r (r.bg + gp), comes r (r.bg + gp), r.sl⟩ : Rw)], some (.frz (.int m)), some (.frz (pt (r.bg + gp))), some (.frz (pt (comes r (r.bg + gp)))), ?_, put fun r' hr' => ?_⟩
      · refine (bseq_next (by simp [sApp, hlen]; rfl)).trans ?_
        refine (bseq_next (by simp [f1]; rfl)).trans ?_
        refine (bseq_next (by simp [fdiv_lit, e1, e2]; rfl)).trans ?_
        rw [sIf_ev]
        have t : tAndB (tVal (dBin eqD (dBin modD (dVarR 5) (dC (.int 3))) (dC (.int 0)))) (tOrB (tVal (dBin eqD (dBin addD (dVarR 3) (dC (.int 1))) (dCall lenD (aCons (dVarR 0) aNil)))) (tVal (dCall d__law_is_below (aCons (dVar 6) (aCons (dBin ixD (dBin ixD (dVarR 0) (dBin addD (dVarR 3) (dC (.int 1)))) (dC (.int 0))) aNil))))) [some (.frz (.lst (rs.map rw))), some (.frz (.int c)), some (.own (fs.map rw ++ [rw r])), some (.frz (.int (k : Int))), some (.frz (rw r)), some (.frz (.int m)), some (.frz (pt (r.bg + gp))), x7] = .ok true := by
          simp [modD_int, eqD_int, h3, h4]
        refine (congrArg (fun r => lift r _ _) t).trans ?_
        rw [lift_ok, if_pos rfl]
        refine (bseq_next (by simp [ec]; rfl)).trans ?_
        simp at hlen2
        simp [sApp, hlen2, hrw]
      · have := (List.getElem?_eq_some_iff.mp hr').1; omega
    · obtain ⟨r', hr'⟩ : ∃ r', rs[k + 1]? = some r' := ⟨rs[k + 1]'(by omega), List.getElem?_eq_getElem (by omega)⟩
      have hr2 : r' ∈ rs := List.mem_of_getElem? hr'
      have eb := l_below sf (hs r' hr2).1 (by decide) (by decide) (by decide)
      have ix : atI (rs.map rw) ((k : Int) + 1) = some (rw r') := by
        rw [show (k : Int) + 1 = ((k + 1 : Nat) : Int) by omega, atI_cast, List.getElem?_map, hr']; rfl
      have t : tAndB (tVal (dBin eqD (dBin modD (dVarR 5) (dC (.int 3))) (dC (.int 0)))) (tOrB (tVal (dBin eqD (dBin addD (dVarR 3) (dC (.int 1))) (dCall lenD (aCons (dVarR 0) aNil)))) (tVal (dCall d__law_is_below (aCons (dVar 6) (aCons (dBin ixD (dBin ixD (dVarR 0) (dBin addD (dVarR 3) (dC (.int 1)))) (dC (.int 0))) aNil))))) [some (.frz (.lst (rs.map rw))), some (.frz (.int c)), some (.own (fs.map rw ++ [rw r])), some (.frz (.int (k : Int))), some (.frz (rw r)), some (.frz (.int m)), some (.frz (pt (r.bg + gp))), x7] = .ok (decide (r.bg + gp < r'.bg)) := by
          simp [modD_int, eqD_int, h3, h4, ix, eb]
      by_cases h5 : r.bg + gp < r'.bg
      · refine ⟨fs ++ [r] ++ [(⟨r.bg + gp, comes r (r.bg + gp), comes r (r.bg + gp), r.sl⟩ : Rw)], some (.frz (.int m)), some (.frz (pt (r.bg + gp))), some (.frz (pt (comes r (r.bg + gp)))), ?_, put fun r2 hr2' => by rw [hr'] at hr2'; cases hr2'; exact h5⟩
        refine (bseq_next (by simp [sApp, hlen]; rfl)).trans ?_
        refine (bseq_next (by simp [f1]; rfl)).trans ?_
        refine (bseq_next (by simp [fdiv_lit, e1, e2]; rfl)).trans ?_
        rw [sIf_ev]
        rw [decide_eq_true h5] at t
        refine (congrArg (fun r => lift r _ _) t).trans ?_
        rw [lift_ok, if_pos rfl]
        refine (bseq_next (by simp [ec]; rfl)).trans ?_
        simp at hlen2
        simp [sApp, hlen2, hrw]
      · refine ⟨fs ++ [r], some (.frz (.int m)), some (.frz (pt (r.bg + gp))), x7, ?_, F1⟩
        refine (bseq_next (by simp [sApp, hlen]; rfl)).trans ?_
        refine (bseq_next (by simp [f1]; rfl)).trans ?_
        refine (bseq_next (by simp [fdiv_lit, e1, e2]; rfl)).trans ?_
        rw [sIf_ev]
        rw [decide_eq_false h5] at t
        refine (congrArg (fun r => lift r _ _) t).trans ?_
        simp
  · refine ⟨fs ++ [r], some (.frz (.int m)), some (.frz (pt (r.bg + gp))), x7, ?_, F1⟩
    refine (bseq_next (by simp [sApp, hlen]; rfl)).trans ?_
    refine (bseq_next (by simp [f1]; rfl)).trans ?_
    refine (bseq_next (by simp [fdiv_lit, e1, e2]; rfl)).trans ?_
    simp [modD_int, eqD_int, h3]
theorem filled_loop (c : Int) (rs : List Rw) (ha : areR rs = true) (hs : ∀ r, r ∈ rs → SmG r) (hn : rs.length ≤ 1000) : ∃ (fs : List Rw) (x3 x4 x5 x6 x7 : Option Sl),
    forD (.tp [3, 4]) s__law_filled_l1 (enumL (rs.map rw)) [some (.frz (.lst (rs.map rw))), some (.frz (.int c)), some (.own []), none, none, none, none, none] = .next [some (.frz (.lst (rs.map rw))), some (.frz (.int c)), some (.own (fs.map rw)), x3, x4, x5, x6, x7] ∧ FI rs rs.length fs := by
  obtain ⟨ρ', e, fs, x3, x4, x5, x6, x7, rfl, f⟩ := forD_inv (T := .tp [3, 4]) (body := s__law_filled_l1)
    (fun k ρ => ∃ (fs : List Rw) (x3 x4 x5 x6 x7 : Option Sl), ρ = [some (.frz (.lst (rs.map rw))), some (.frz (.int c)), some (.own (fs.map rw)), x3, x4, x5, x6, x7] ∧ FI rs k fs) (enumL (rs.map rw)) 0
    [some (.frz (.lst (rs.map rw))), some (.frz (.int c)), some (.own []), none, none, none, none, none] ⟨[], none, none, none, none, none, rfl, ⟨by simp, by simp [thin], fun _ => rfl, .inl rfl, by simp, by simp, fun h => by omega⟩⟩ (by
      rintro i d ρ hd ⟨fs, x3, x4, x5, x6, x7, rfl, f⟩
      rw [Nat.zero_add] at *
      obtain ⟨r, hr, rfl⟩ := enum_get hd
      obtain ⟨fs', y5, y6, y7, h1, h2⟩ := filled_step c rs ha hs hn i fs r hr f x5 x6 x7
      exact ⟨[some (.frz (.lst (rs.map rw))), some (.frz (.int c)), some (.own (fs.map rw)), some (.frz (.int (i : Int))), some (.frz (rw r)), x5, x6, x7], _, by simp, .inl h1, fs', _, _, _, _, _, rfl, h2⟩)
  rw [Nat.zero_add, enumL_len, List.length_map] at f
  exact ⟨fs, x3, x4, x5, x6, x7, e, f⟩
theorem filled (c : Int) (rs : List Rw) (ha : areR rs = true) (hs : ∀ r, r ∈ rs → SmG r) (hn : rs.length ≤ 1000) : ∃ fs : List Rw, d__law_filled [.lst (rs.map rw), .int c] = .ok (.lst (fs.map rw)) ∧ FI rs rs.length fs := by
  obtain ⟨fs, x3, x4, x5, x6, x7, e, f⟩ := filled_loop c rs ha hs hn
  refine ⟨fs, runB_ret ?_, f⟩
  show s__law_filled [some (.frz (.lst (rs.map rw))), some (.frz (.int c)), none, none, none, none, none, none] = _
  unfold s__law_filled
  refine (bseq_next (by simp; rfl)).trans ?_
  refine (bseq_next (ρ' := [some (.frz (.lst (rs.map rw))), some (.frz (.int c)), some (.own (fs.map rw)), x3, x4, x5, x6, x7]) ?_).trans ?_
  · rw [sFor_ev]
    show lift ((Res.ok (enumL (rs.map rw)) : Res (List D))) _ _ = _
    rw [lift_ok]
    exact e
  · simp [sFrz, frzE]
end FVP

/-! FVP9: lines, and what the laws compare. -/
namespace FVP
open FV
open L2 (atI)
theorem items_seq {ds : List D} {d : D} (h : SeqD ds d) : itemsR d = .ok ds := by cases h <;> rfl
theorem line_of {d : D} {rs : List Rw} {b : Nat} (hd : SeqD (rs.map rw) d) (hs : ∀ r, r ∈ rs → SmR b r) (hb : 0 < b) (h : 4 * b + 1 ≤ 9000) (hl : rs.length < 1000000) :
    d_line_of [d] = if areR rs = true then (if (thin rs).length ≤ 300 then .ok (.tup ((thin rs).map rw)) else .exn "TooMany") else .exn "NoLine" := by
  have e1 := are_rows hd hs hb (by omega) hl
  have e2 := thinned (items_seq hd) hs hb h hl
  have g3 : g_MOST_ROWS = .int 300 := rfl
  simp only [d_line_of, s_line_of, runB]
  by_cases h1 : areR rs = true
  · by_cases h2 : (thin rs).length ≤ 300
    · have h3 : ¬ (300 : Int) < ((thin rs).length : Int) := by omega
      simp [e1, e2, h1, h2, h3, g3]
    · have h3 : (300 : Int) < ((thin rs).length : Int) := by omega
      simp [e1, e2, h1, h2, h3, g3]
  · simp at h1
    simp [e1, h1]
theorem is_line_tup {rs : List Rw} {b : Nat} (hs : ∀ r, r ∈ rs → SmR b r) (hb : 0 < b) (h : 4 * b + 1 ≤ 9000) (hl : rs.length < 1000000) :
    d_is_line [.tup (rs.map rw)] = .ok (.bl (decide (rs.length ≤ 300) && (areR rs && decide (thin rs = rs)))) := by
  have e1 := are_rows (.tup) hs hb (by omega) hl
  have e2 := thinned (items_seq .tup) hs hb h hl
  have e3 := eqD_tups (thin rs) rs
  have g3 : g_MOST_ROWS = .int 300 := rfl
  simp only [d_is_line, s_is_line, runB]
  by_cases h2 : rs.length ≤ 300
  · have h3 : (rs.length : Int) ≤ 300 := by omega
    cases h1 : areR rs with
    | true => rw [h1] at e1; simp [isiD, isSub, e1, e2, e3, h2, h3, g3]
    | false => rw [h1] at e1; simp [isiD, isSub, e1, h2, h3, g3]
  · have h3 : ¬ (rs.length : Int) ≤ 300 := by omega
    simp [isiD, isSub, h2, h3, g3]
theorem is_line_lst {ds : List D} : d_is_line [.lst ds] = .ok (.bl false) := by
  simp only [d_is_line, s_is_line, runB]
  simp [isiD, isSub]
theorem alike_no {qs ps : List Rw} (h : qs ≠ ps) : d__law_alike [.tup (qs.map rw), .tup (ps.map rw)] = .ok (.bl false) := by
  have e1 := neD_tups qs ps
  rw [decide_eq_false h] at e1
  have e2 := neD_int (i := (qs.length : Int)) (j := (ps.length : Int))
  simp only [d__law_alike, s__law_alike, runB]
  by_cases hl : qs.length = ps.length
  · rw [hl, decide_eq_true rfl] at e2
    simp [isiD, isSub, hl, e2, e1]
  · rw [decide_eq_false (by omega)] at e2
    simp [isiD, isSub, e2]
theorem alike_l1 (p : Rat) (a b c : Option Sl) : ∃ ρ2, s__law_alike_l1 [a, b, c, some (.frz (pt p)), none] = .next ρ2 ∧ ρ2 = [a, b, c, some (.frz (pt p)), none] := by
  have e0 : neD (.lst []) (.lst []) = .ok (.bl false) := neD_nil []
  refine ⟨_, ?_, rfl⟩
  have ec : compD (.nm 4) (tOrB (tNotB (tVal (dUn (isiD "int") (dVarR 4)))) (tVal (dUn (isiD "bool") (dVarR 4)))) (dC (.int 1)) [.int p.num, .int (p.den : Int)] [a, b, c, some (.frz (pt p)), none] = .ok [] := by
    have := comp_filter (T := .nm 4) (t := tOrB (tNotB (tVal (dUn (isiD "int") (dVarR 4)))) (tVal (dUn (isiD "bool") (dVarR 4)))) (g := dC (.int 1)) (ρ := [a, b, c, some (.frz (pt p)), none]) (fun _ => false) (fun _ => .int 1) [.int p.num, .int (p.den : Int)] fun d h => by
      simp only [List.mem_cons, List.not_mem_nil, or_false] at h
      rcases h with rfl | rfl <;> exact ⟨_, rfl, by simp [isiD, isSub], by simp⟩
    simpa using this
  have hz : 2 ≤ PySem.sizeLine := by rw [PySem.sizeLine_eq]; omega
  unfold pt at ec ⊢
  simp [s__law_alike_l1, dComp_ev, wipeE, ec, compR, hz, e0]
theorem alike_loop1 (ps : List Rat) (a b c x : Option Sl) : ∃ y, forD (.nm 3) s__law_alike_l1 (ps.map pt) [a, b, c, x, none] = .next [a, b, c, y, none] := by
  obtain ⟨ρ', e, y, rfl⟩ := forD_inv (T := .nm 3) (body := s__law_alike_l1) (fun k ρ => ∃ y : Option Sl, ρ = [a, b, c, y, none]) (ps.map pt) 0 [a, b, c, x, none] ⟨x, rfl⟩ (by
    rintro i d ρ hd ⟨y, rfl⟩
    rw [List.getElem?_map] at hd
    obtain ⟨p, hp, rfl⟩ := Option.map_eq_some_iff.mp hd
    obtain ⟨ρ2, h1, rfl⟩ := alike_l1 p a b c
    exact ⟨_, _, rfl, .inl h1, _, rfl⟩)
  exact ⟨y, e⟩
theorem alike_l2 (r : Rw) (a b x : Option Sl) : ∃ y, s__law_alike_l2 [a, b, some (.frz (rw r)), x, none] = .next [a, b, some (.frz (rw r)), y, none] := by
  obtain ⟨y, e⟩ := alike_loop1 [r.bg, r.vl, r.bh, r.sl] a b (some (.frz (rw r))) x
  have ec : compD (.nm 3) tYesB (dUn (isiD "tuple") (dVarR 3)) [pt r.bg, pt r.vl, pt r.bh, pt r.sl] [a, b, some (.frz (rw r)), none, none] = .ok [.bl true, .bl true, .bl true, .bl true] := rfl
  have ea : allD [.lst [.bl true, .bl true, .bl true, .bl true]] = .ok (.bl true) := all_bl [true, true, true, true]
  have hz : 4 ≤ PySem.sizeLine := by rw [PySem.sizeLine_eq]; omega
  refine ⟨y, ?_⟩
  have e : forD (.nm 3) s__law_alike_l1 [pt r.bg, pt r.vl, pt r.bh, pt r.sl] _ = _ := e
  unfold s__law_alike_l2
  have hi : itemsR (rw r) = .ok [pt r.bg, pt r.vl, pt r.bh, pt r.sl] := rfl
  have ht : isiD "tuple" (rw r) = .ok (.bl true) := rfl
  refine (bseq_next (ρ' := [a, b, some (.frz (rw r)), x, none]) (by simp [ht, hi, dComp_ev, wipeE, ec, compR, ea, hz])).trans ?_
  rw [sFor_ev]
  have hit : iSeq (dVar 2) [a, b, some (.frz (rw r)), x, none] = .ok [pt r.bg, pt r.vl, pt r.bh, pt r.sl] := by
    simp [hi]
  rw [hit, lift_ok]
  exact e
theorem alike_yes (qs : List Rw) : d__law_alike [.tup (qs.map rw), .tup (qs.map rw)] = .ok (.bl true) := by
  obtain ⟨ρ', e, x2, y, rfl⟩ := forD_inv (T := .nm 2) (body := s__law_alike_l2) (fun k ρ => ∃ x y : Option Sl, ρ = [some (.frz (.tup (qs.map rw))), some (.frz (.tup (qs.map rw))), x, y, none]) (qs.map rw) 0
    [some (.frz (.tup (qs.map rw))), some (.frz (.tup (qs.map rw))), none, none, none] ⟨none, none, rfl⟩ (by
    rintro i d ρ hd ⟨x, y, rfl⟩
    rw [List.getElem?_map] at hd
    obtain ⟨r, hr, rfl⟩ := Option.map_eq_some_iff.mp hd
    obtain ⟨z, h1⟩ := alike_l2 r (some (.frz (.tup (qs.map rw)))) (some (.frz (.tup (qs.map rw)))) y
    exact ⟨_, _, rfl, .inl h1, _, _, rfl⟩)
  have e1 := neD_tups qs qs
  rw [decide_eq_true rfl] at e1
  have e2 := neD_int (i := (qs.length : Int)) (j := (qs.length : Int))
  rw [decide_eq_true rfl] at e2
  refine runB_ret ?_
  show s__law_alike [some (.frz (.tup (qs.map rw))), some (.frz (.tup (qs.map rw))), none, none, none] = _
  unfold s__law_alike
  refine (bseq_next (ρ' := [some (.frz (.tup (qs.map rw))), some (.frz (.tup (qs.map rw))), none, none, none]) (by simp [isiD, isSub, e1, e2])).trans ?_
  refine (bseq_next (ρ' := [some (.frz (.tup (qs.map rw))), some (.frz (.tup (qs.map rw))), x2, y, none]) ?_).trans ?_
  · rw [sFor_ev]
    show lift (Res.ok (qs.map rw) : Res (List D)) _ _ = _
    rw [lift_ok]
    exact e
  · simp
theorem alike (qs ps : List Rw) : d__law_alike [.tup (qs.map rw), .tup (ps.map rw)] = .ok (.bl (decide (qs = ps))) := by
  by_cases h : qs = ps
  · subst h; rw [alike_yes]; simp
  · rw [alike_no h, decide_eq_false h]
end FVP

/-! FVL1: lines as functions: values, rows told at more places, when lines are alike. -/
namespace FVP
open FV
/-- the last row that begins at a place or ahead of it, from a row on -/
def lastAt (r0 : Rw) (rs : List Rw) (p : Rat) : Rw := rs.foldl (fun l r => if p < r.bg then l else r) r0
def lineAt (rs : List Rw) (p : Rat) : Rw := match rs with
  | [] => ⟨0, 0, 0, 0⟩
  | r :: rs => lastAt r rs p
def valR (r : Rw) (p : Rat) : Rat := if r.bg = p then r.vl else comes r p
def valAt (rs : List Rw) (p : Rat) : Rat := valR (lineAt rs p) p
/-- the row that a place would have -/
def rowR (r : Rw) (p : Rat) : Rw := ⟨p, valR r p, comes r p, r.sl⟩
def rowAt (rs : List Rw) (p : Rat) : Rw := rowR (lineAt rs p) p
theorem comes_self (r : Rw) : comes r r.bg = r.bh := by unfold comes; grind
theorem rowR_self (r : Rw) : rowR r r.bg = r := by
  unfold rowR valR
  rw [if_pos rfl, comes_self]
theorem rowR_ne {r : Rw} {p : Rat} (h : r.bg < p) : rowR r p = ⟨p, comes r p, comes r p, r.sl⟩ := by
  unfold rowR valR
  rw [if_neg (by grind)]
theorem lastAt_none {r0 : Rw} : ∀ {rs : List Rw} {p : Rat}, (∀ r, r ∈ rs → p < r.bg) → lastAt r0 rs p = r0
  | [], _, _ => rfl
  | r :: rs, p, h => by
    have h1 := h r (by simp)
    show lastAt (if p < r.bg then r0 else r) rs p = r0
    rw [if_pos h1]
    exact lastAt_none fun x hx => h x (List.mem_cons_of_mem _ hx)
theorem lastAt_lt {r0 r : Rw} {rs : List Rw} {p : Rat} (h : p < r.bg) : lastAt r0 (r :: rs) p = lastAt r0 rs p := by
  show lastAt (if p < r.bg then r0 else r) rs p = _
  rw [if_pos h]
theorem lastAt_ge {r0 r : Rw} {rs : List Rw} {p : Rat} (h : r.bg ≤ p) : lastAt r0 (r :: rs) p = lastAt r rs p := by
  show lastAt (if p < r.bg then r0 else r) rs p = _
  rw [if_neg (by grind)]
theorem lastAt_snoc {r0 r : Rw} {rs : List Rw} {p : Rat} : lastAt r0 (rs ++ [r]) p = if p < r.bg then lastAt r0 rs p else r := by
  unfold lastAt
  rw [List.foldl_append]; rfl
theorem lastAt_mem {r0 : Rw} : ∀ {rs : List Rw} {p : Rat}, lastAt r0 rs p = r0 ∨ lastAt r0 rs p ∈ rs ∧ (lastAt r0 rs p).bg ≤ p
  | [], _ => .inl rfl
  | r :: rs, p => by
    by_cases h : p < r.bg
    · rw [lastAt_lt h]
      rcases lastAt_mem (r0 := r0) (rs := rs) (p := p) with h1 | ⟨h1, h2⟩
      · exact .inl h1
      · exact .inr ⟨List.mem_cons_of_mem _ h1, h2⟩
    · have h' : r.bg ≤ p := by grind
      rw [lastAt_ge h']
      rcases lastAt_mem (r0 := r) (rs := rs) (p := p) with h1 | ⟨h1, h2⟩
      · rw [h1]; exact .inr ⟨by simp, h'⟩
      · exact .inr ⟨List.mem_cons_of_mem _ h1, h2⟩
theorem lineAt_snoc {rs : List Rw} {r : Rw} {p : Rat} (h : rs ≠ []) : lineAt (rs ++ [r]) p = if p < r.bg then lineAt rs p else r := by
  cases rs with
  | nil => exact absurd rfl h
  | cons a rs => exact lastAt_snoc
/-! ### thin, of rows told at more places -/
def Cov (acc : List Rw) (c : Rw) : Prop := ∃ l, acc.getLast? = some l ∧ l.sl = c.sl ∧ ∀ p, comes l p = comes c p
theorem cov_absorb {acc : List Rw} {c x : Rw} (h : Cov acc c) (h1 : x.sl = c.sl) (h2 : x.vl = x.bh) (h3 : x.vl = comes c x.bg) : stepT acc x = acc := by
  obtain ⟨l, hl, e1, e2⟩ := h
  have g : goes l x = true := goes_iff.mpr ⟨by rw [h1, e1], h2, by rw [h3, e2]⟩
  unfold stepT
  rw [hl]
  simp [g]
theorem cov_step (acc : List Rw) (r : Rw) : Cov (stepT acc r) r := by
  cases hl : acc.getLast? with
  | none =>
    have e : stepT acc r = [r] := by unfold stepT; rw [hl]
    rw [e]
    exact ⟨r, rfl, rfl, fun _ => rfl⟩
  | some l =>
    by_cases hg : goes l r = true
    · have e : stepT acc r = acc := by unfold stepT; rw [hl]; simp [hg]
      rw [e]
      obtain ⟨a1, a2, a3⟩ := goes_iff.mp hg
      refine ⟨l, hl, a1.symm, fun p => ?_⟩
      unfold comes at a3 ⊢
      rw [← a2, a3, a1]
      grind
    · have e : stepT acc r = acc ++ [r] := by unfold stepT; rw [hl]; simp [hg]
      rw [e]
      exact ⟨r, by simp, rfl, fun _ => rfl⟩
theorem fold_refine : ∀ (P : List Rat) (c : Rw) (rs acc : List Rw), Cov acc c → P.Pairwise (· < ·) → (c :: rs).Pairwise (fun a b => a.bg < b.bg) → (∀ p, p ∈ P → c.bg < p) → (∀ r, r ∈ rs → r.bg ∈ P) →
    (P.map fun p => rowR (lastAt c rs p) p).foldl stepT acc = rs.foldl stepT acc
  | [], c, rs, acc, _, _, _, _, h5 => by
    cases rs with
    | nil => rfl
    | cons r rs => exact absurd (h5 r (by simp)) (by simp)
  | p :: P, c, [], acc, h1, h2, h3, h4, h5 => by
    have ih := fold_refine P c [] acc h1 (List.pairwise_cons.mp h2).2 h3 (fun q hq => h4 q (List.mem_cons_of_mem _ hq)) (by simp)
    rw [List.map_cons, List.foldl_cons]
    have e : stepT acc (rowR (lastAt c [] p) p) = acc := by
      show stepT acc (rowR c p) = acc
      rw [rowR_ne (h4 p (by simp))]
      exact cov_absorb h1 rfl rfl rfl
    rw [e, ih]
  | p :: P, c, r :: rs, acc, h1, h2, h3, h4, h5 => by
    have hp := List.pairwise_cons.mp h2
    have hc := List.pairwise_cons.mp h3
    have hr := List.pairwise_cons.mp hc.2
    rw [List.map_cons, List.foldl_cons]
    by_cases hrp : r.bg = p
    · have e1 : lastAt c (r :: rs) p = r := by
        rw [lastAt_ge (by grind)]
        exact lastAt_none fun x hx => by have := hr.1 x hx; grind
      have e2 : (P.map fun q => rowR (lastAt c (r :: rs) q) q) = P.map fun q => rowR (lastAt r rs q) q := by
        apply List.map_congr_left
        intro q hq
        rw [lastAt_ge (by have := hp.1 q hq; grind)]
      have e3 : rowR r p = r := by rw [← hrp, rowR_self]
      rw [e1, e2, e3, List.foldl_cons]
      exact fold_refine P r rs (stepT acc r) (cov_step acc r) hp.2 hc.2 (fun q hq => by have := hp.1 q hq; grind) (fun x hx => by
        rcases List.mem_cons.mp (h5 x (List.mem_cons_of_mem _ hx)) with h | h
        · have := hr.1 x hx; grind
        · exact h)
    · have hlt : p < r.bg := by
        rcases List.mem_cons.mp (h5 r (by simp)) with h | h
        · exact absurd h hrp
        · exact hp.1 _ h
      have hall : ∀ x, x ∈ r :: rs → p < x.bg := fun x hx => by
        rcases List.mem_cons.mp hx with rfl | h
        · exact hlt
        · have := hr.1 x h; grind
      have e : stepT acc (rowR (lastAt c (r :: rs) p) p) = acc := by
        rw [lastAt_none hall, rowR_ne (h4 p (by simp))]
        exact cov_absorb h1 rfl rfl rfl
      rw [e]
      exact fold_refine P c (r :: rs) acc h1 hp.2 h3 (fun q hq => h4 q (List.mem_cons_of_mem _ hq)) (fun x hx => by
        rcases List.mem_cons.mp (h5 x hx) with h | h
        · have := hall x hx; grind
        · exact h)
/-- places that rise from nought -/
structure Plc (P : List Rat) : Prop where
  up : P.Pairwise (· < ·)
  z : (0 : Rat) ∈ P
  nn : ∀ p, p ∈ P → 0 ≤ p
theorem areR_iff {rs : List Rw} : areR rs = true ↔ ∃ r qs, rs = r :: qs ∧ r.bg = 0 ∧ rs.Pairwise fun a b => a.bg < b.bg := by
  cases rs with
  | nil => simp [areR]
  | cons r rs =>
    simp only [areR, Bool.and_eq_true, decide_eq_true_iff, asc_pw]
    constructor
    · rintro ⟨a, b⟩; exact ⟨r, rs, rfl, a, b⟩
    · rintro ⟨r', qs, e, a, b⟩
      cases e
      exact ⟨a, b⟩
theorem thin_rowAt {rs : List Rw} {P : List Rat} (ha : areR rs = true) (hP : Plc P) (hb : ∀ r, r ∈ rs → r.bg ∈ P) : thin (P.map (rowAt rs)) = thin rs := by
  obtain ⟨r, qs, rfl, h0, hpw⟩ := areR_iff.mp ha
  obtain ⟨p, P', rfl⟩ : ∃ p P', P = p :: P' := by
    cases P with
    | nil => exact absurd hP.z (by simp)
    | cons p P' => exact ⟨p, P', rfl⟩
  have hp := List.pairwise_cons.mp hP.up
  have p0 : p = 0 := by
    rcases List.mem_cons.mp hP.z with h | h
    · exact h.symm
    · have := hp.1 _ h; have := hP.nn p (by simp); grind
  subst p0
  have hq := List.pairwise_cons.mp hpw
  have e0 : rowAt (r :: qs) 0 = r := by
    unfold rowAt
    show rowR (lastAt r qs 0) 0 = r
    rw [lastAt_none fun x hx => by have := hq.1 x hx; grind, ← h0, rowR_self]
  unfold thin
  rw [List.map_cons, List.foldl_cons, e0, List.foldl_cons]
  exact fold_refine P' r qs [r] ⟨r, rfl, rfl, fun _ => rfl⟩ hp.2 hpw (fun q hq' => by have := hp.1 q hq'; grind) (fun x hx => by
    rcases List.mem_cons.mp (hb x (List.mem_cons_of_mem _ hx)) with h | h
    · have := hq.1 x hx; grind
    · exact h)
/-! ### values of thin rows -/
theorem pw_snoc {rs : List Rw} {r : Rw} (h : (rs ++ [r]).Pairwise fun a b => a.bg < b.bg) : rs.Pairwise (fun a b => a.bg < b.bg) ∧ ∀ x, x ∈ rs → x.bg < r.bg := by
  rw [List.pairwise_append] at h
  exact ⟨h.1, fun x hx => h.2.2 x hx r (by simp)⟩
theorem lineAt_last {rs : List Rw} {l : Rw} {p : Rat} (hl : rs.getLast? = some l) (h : l.bg ≤ p) : lineAt rs p = l := by
  obtain ⟨qs, rfl⟩ : ∃ qs, rs = qs ++ [l] := List.getLast?_eq_some_iff.mp hl
  cases qs with
  | nil => rfl
  | cons a qs =>
    rw [lineAt_snoc (by simp), if_neg (by grind)]
theorem valAt_thin : ∀ (n : Nat) (rs : List Rw), rs.length = n → rs.Pairwise (fun a b => a.bg < b.bg) → ∀ p, (∀ r, rs.head? = some r → r.bg ≤ p) → valAt (thin rs) p = valAt rs p
  | 0, rs, hn, _, p, _ => by rw [List.length_eq_zero_iff.mp hn]; rfl
  | n + 1, rs, hn, hpw, p, hh => by
    obtain ⟨qs, r, rfl⟩ : ∃ qs r, rs = qs ++ [r] := by
      have hne : rs ≠ [] := by intro z; rw [z] at hn; simp at hn
      exact ⟨rs.dropLast, rs.getLast hne, (List.dropLast_concat_getLast hne).symm⟩
    obtain ⟨h1, h2⟩ := pw_snoc hpw
    cases qs with
    | nil => rfl
    | cons a qs =>
      have ih := valAt_thin n (a :: qs) (by simpa using hn) h1 p (fun x hx => hh x (by simpa using hx))
      rw [thin_snoc]
      obtain ⟨ts, ht⟩ := thin_head a qs
      have hne : thin (a :: qs) ≠ [] := by rw [ht]; simp
      have hsub : ∀ x, x ∈ thin (a :: qs) → x.bg < r.bg := fun x hx => h2 x ((thin_sub _).subset hx)
      obtain ⟨l, hl⟩ : ∃ l, (thin (a :: qs)).getLast? = some l := by
        cases h : (thin (a :: qs)).getLast? with
        | none => exact absurd (List.getLast?_eq_none_iff.mp h) hne
        | some l => exact ⟨l, rfl⟩
      have hlr := hsub l (List.mem_of_getLast? hl)
      by_cases hg : goes l r = true
      · have e : stepT (thin (a :: qs)) r = thin (a :: qs) := by unfold stepT; rw [hl]; simp [hg]
        rw [e]
        by_cases hp : p < r.bg
        · rw [ih]; unfold valAt; rw [lineAt_snoc (by simp), if_pos hp]
        · have hp' : r.bg ≤ p := by grind
          unfold valAt
          rw [lineAt_last hl (by grind), lineAt_snoc (by simp), if_neg hp]
          obtain ⟨a1, a2, a3⟩ := goes_iff.mp hg
          unfold valR
          rw [if_neg (by grind)]
          by_cases hq : r.bg = p
          · rw [if_pos hq, a3, hq]
          · rw [if_neg hq]
            unfold comes at a3 ⊢
            rw [← a2, a3, a1]
            grind
      · have e : stepT (thin (a :: qs)) r = thin (a :: qs) ++ [r] := by unfold stepT; rw [hl]; simp [hg]
        rw [e]
        unfold valAt at ih ⊢
        rw [lineAt_snoc hne, lineAt_snoc (by simp)]
        by_cases hp : p < r.bg
        · rw [if_pos hp, if_pos hp, ih]
        · rw [if_neg hp, if_neg hp]
theorem valAt_of_thin {rs : List Rw} (ha : areR rs = true) {p : Rat} (hp : 0 ≤ p) : valAt (thin rs) p = valAt rs p := by
  obtain ⟨r, qs, e, h0, hpw⟩ := areR_iff.mp ha
  refine valAt_thin _ rs rfl hpw p fun x hx => ?_
  subst e
  simp at hx
  subst hx
  rw [h0]; exact hp
/-! ### alike at three places -/
theorem rowR_eq {r q : Rw} {p d : Rat} (h0 : valR r p = valR q p) (h1 : comes r (p + d) = comes q (p + d)) (h2 : comes r (p + d + d) = comes q (p + d + d)) (hd : d ≠ 0) : rowR r p = rowR q p := by
  have hs : (r.sl - q.sl) * d = 0 := by unfold comes at h1 h2; grind
  have hs : r.sl = q.sl := by
    rcases Rat.mul_eq_zero.mp hs with h | h
    · grind
    · exact absurd h hd
  have hc : comes r p = comes q p := by unfold comes at h1 ⊢; rw [hs] at h1 ⊢; grind
  unfold rowR
  rw [h0, hc, hs]
theorem alike_thin {rs qs : List Rw} {P : List Rat} (ha : areR rs = true) (hb : areR qs = true) (hP : Plc P) (h1 : ∀ r, r ∈ rs → r.bg ∈ P) (h2 : ∀ r, r ∈ qs → r.bg ∈ P) (h : ∀ p, p ∈ P → rowAt rs p = rowAt qs p) : thin rs = thin qs := by
  rw [← thin_rowAt ha hP h1, ← thin_rowAt hb hP h2]
  congr 1
  exact List.map_congr_left h
/-- no row begins within a stretch -/
theorem lineAt_within {rs : List Rw} {p q : Rat} (hpq : p ≤ q) (h : ∀ r, r ∈ rs → r.bg ≤ p ∨ q < r.bg) : lineAt rs q = lineAt rs p := by
  cases rs with
  | nil => rfl
  | cons r0 rs =>
    show lastAt r0 rs q = lastAt r0 rs p
    have h' : ∀ r, r ∈ rs → r.bg ≤ p ∨ q < r.bg := fun r hr => h r (List.mem_cons_of_mem _ hr)
    clear h
    revert r0
    induction rs with
    | nil => intro r0; rfl
    | cons r rs ih =>
      intro r0
      rcases h' r (by simp) with h | h
      · rw [lastAt_ge h, lastAt_ge (by grind)]
        exact ih (fun x hx => h' x (List.mem_cons_of_mem _ hx)) r
      · rw [lastAt_lt h, lastAt_lt (by grind)]
        exact ih (fun x hx => h' x (List.mem_cons_of_mem _ hx)) r0
theorem lineAt_le {rs : List Rw} (ha : areR rs = true) {p : Rat} (hp : 0 ≤ p) : lineAt rs p ∈ rs ∧ (lineAt rs p).bg ≤ p := by
  obtain ⟨r, qs, rfl, h0, _⟩ := areR_iff.mp ha
  rcases lastAt_mem (r0 := r) (rs := qs) (p := p) with h | ⟨h, h'⟩
  · have e : lineAt (r :: qs) p = r := h
    rw [e]; exact ⟨by simp, by grind⟩
  · exact ⟨List.mem_cons_of_mem _ h, h'⟩
/-- within a stretch the value goes on -/
theorem valAt_within {rs : List Rw} (ha : areR rs = true) {p q : Rat} (hp : 0 ≤ p) (hpq : p < q) (h : ∀ r, r ∈ rs → r.bg ≤ p ∨ q < r.bg) : valAt rs q = comes (lineAt rs p) q := by
  unfold valAt
  rw [lineAt_within (by grind) h]
  have := (lineAt_le ha hp).2
  unfold valR
  rw [if_neg (by grind)]
/-- of three places from a begin on -/
theorem rowAt_eq {rs qs : List Rw} (ha : areR rs = true) (hb : areR qs = true) {p d : Rat} (hp : 0 ≤ p) (hd : 0 < d) (h1 : ∀ r, r ∈ rs → r.bg ≤ p ∨ p + d + d < r.bg) (h2 : ∀ r, r ∈ qs → r.bg ≤ p ∨ p + d + d < r.bg)
    (e0 : valAt rs p = valAt qs p) (e1 : valAt rs (p + d) = valAt qs (p + d)) (e2 : valAt rs (p + d + d) = valAt qs (p + d + d)) : rowAt rs p = rowAt qs p := by
  rw [valAt_within ha hp (by grind) (fun r hr => (h1 r hr).imp id (by intro _; grind)), valAt_within hb hp (by grind) (fun r hr => (h2 r hr).imp id (by intro _; grind))] at e1
  rw [valAt_within ha hp (by grind) h1, valAt_within hb hp (by grind) h2] at e2
  exact rowR_eq e0 e1 e2 (by grind)
end FVP

/-! FVL2: the program's number_at, seen_at, begins_of, merged. -/
namespace FVP
open FV
open L2 (atI)
/-- a while by an invariant with a measure -/
theorem whD_inv {t : En → Res Bool} {g : SDen} (J : Nat → En → Prop) (h : ∀ n ρ, J n ρ → t ρ = .ok false ∨ t ρ = .ok true ∧ ∃ ρ' m, g ρ = .next ρ' ∧ m < n ∧ J m ρ') : ∀ n ρ, J n ρ → ∃ ρ' m, whD t g ρ = .next ρ' ∧ J m ρ' ∧ t ρ' = .ok false := by
  have key : ∀ k n ρ, n ≤ k → J n ρ → ∃ ρ' m j, whN t g j ρ = some (.next ρ') ∧ J m ρ' ∧ t ρ' = .ok false := by
    intro k
    induction k with
    | zero =>
      intro n ρ hn hj
      rcases h n ρ hj with h0 | ⟨_, _, m, _, h3, _⟩
      · exact ⟨ρ, n, 1, whN_done h0, hj, h0⟩
      · omega
    | succ k ih =>
      intro n ρ hn hj
      rcases h n ρ hj with h0 | ⟨h1, ρ', m, h2, h3, h4⟩
      · exact ⟨ρ, n, 1, whN_done h0, hj, h0⟩
      · obtain ⟨ρ2, m2, j, e1, e2, e3⟩ := ih m ρ' (by omega) h4
        exact ⟨ρ2, m2, j + 1, whN_turn h1 h2 e1, e2, e3⟩
  intro n ρ hj
  obtain ⟨ρ', m, j, e1, e2, e3⟩ := key n n ρ (Nat.le_refl _) hj
  exact ⟨ρ', m, whD_of e1, e2, e3⟩
/-! ### which row -/
theorem bg_inj {rs : List Rw} (h : rs.Pairwise fun a b => a.bg < b.bg) {x y : Rw} (hx : x ∈ rs) (hy : y ∈ rs) (e : x.bg = y.bg) : x = y := by
  induction rs with
  | nil => cases hx
  | cons r rs ih =>
    have hp := List.pairwise_cons.mp h
    rcases List.mem_cons.mp hx with rfl | hx'
    · rcases List.mem_cons.mp hy with rfl | hy'
      · rfl
      · have := hp.1 y hy'; grind
    · rcases List.mem_cons.mp hy with rfl | hy'
      · have := hp.1 x hx'; grind
      · exact ih hp.2 hx' hy'
theorem lastAt_max {r0 : Rw} : ∀ {rs : List Rw} {p : Rat}, (r0 :: rs).Pairwise (fun a b => a.bg < b.bg) → ∀ x, x ∈ r0 :: rs → x.bg ≤ p → x.bg ≤ (lastAt r0 rs p).bg
  | [], p, _, x, hx, _ => by
    simp at hx; subst hx; exact Std.le_refl (x.bg)
  | r :: rs, p, h, x, hx, hp => by
    have h1 := List.pairwise_cons.mp h
    have h2 := List.pairwise_cons.mp h1.2
    by_cases hr : p < r.bg
    · rw [lastAt_lt hr]
      have h3 : (r0 :: rs).Pairwise (fun a b => a.bg < b.bg) := List.pairwise_cons.mpr ⟨fun y hy => h1.1 y (List.mem_cons_of_mem _ hy), h2.2⟩
      refine lastAt_max h3 x ?_ hp
      rcases List.mem_cons.mp hx with rfl | hx
      · simp
      · rcases List.mem_cons.mp hx with rfl | hx
        · exfalso; grind
        · exact List.mem_cons_of_mem _ hx
    · rw [lastAt_ge (by grind)]
      rcases List.mem_cons.mp hx with rfl | hx
      · have h4 := lastAt_max h1.2 r (by simp) (p := p) (by grind)
        have := h1.1 r (by simp)
        grind
      · exact lastAt_max h1.2 x hx hp
theorem lineAt_max {rs : List Rw} (ha : areR rs = true) {p : Rat} {x : Rw} (hx : x ∈ rs) (h : x.bg ≤ p) : x.bg ≤ (lineAt rs p).bg := by
  obtain ⟨r, qs, rfl, h0, hpw⟩ := areR_iff.mp ha
  exact lastAt_max hpw x hx h
theorem areR_pw {rs : List Rw} (ha : areR rs = true) : rs.Pairwise fun a b => a.bg < b.bg := by
  obtain ⟨r, qs, rfl, h0, hpw⟩ := areR_iff.mp ha
  exact hpw
theorem lineAt_uniq {rs : List Rw} (ha : areR rs = true) {p : Rat} (hp : 0 ≤ p) {x : Rw} (hx : x ∈ rs) (h1 : x.bg ≤ p) (h2 : ∀ y, y ∈ rs → y.bg ≤ p → y.bg ≤ x.bg) : lineAt rs p = x := by
  obtain ⟨m1, m2⟩ := lineAt_le ha hp
  refine bg_inj (areR_pw ha) m1 hx ?_
  have := h2 _ m1 m2
  have := lineAt_max ha hx h1
  grind
theorem pw_get {rs : List Rw} (h : rs.Pairwise fun a b => a.bg < b.bg) {i j : Nat} {x y : Rw} (hij : i < j) (hx : rs[i]? = some x) (hy : rs[j]? = some y) : x.bg < y.bg := by
  obtain ⟨hi, ei⟩ := List.getElem?_eq_some_iff.mp hx
  obtain ⟨hj, ej⟩ := List.getElem?_eq_some_iff.mp hy
  have := List.pairwise_iff_getElem.mp h i j hi hj hij
  rw [ei, ej] at this
  exact this
theorem areR_nn {rs : List Rw} (ha : areR rs = true) {r : Rw} (hr : r ∈ rs) : 0 ≤ r.bg := by
  obtain ⟨q, qs, rfl, h0, hpw⟩ := areR_iff.mp ha
  rcases List.mem_cons.mp hr with rfl | h
  · rw [h0]; exact Std.le_refl 0
  · have := (List.pairwise_cons.mp hpw).1 r h; grind
theorem ix_rows {rs : List Rw} {i : Nat} {r : Rw} (h : rs[i]? = some r) : ixD (.tup (rs.map rw)) (.int (i : Int)) = .ok (rw r) := by
  simp [h]
/-- the number of the row that holds at a place -/
structure NumAt (rs : List Rw) (p : Rat) (i : Nat) : Prop where
  row : rs[i]? = some (lineAt rs p)
  le : (lineAt rs p).bg ≤ p
  gt : ∀ j r, i < j → rs[j]? = some r → p < r.bg
theorem number_at {rs : List Rw} {p : Rat} {b c : Nat} (ha : areR rs = true) (hs : ∀ r, r ∈ rs → SmR b r) (hq : SmQ c p) (hp : 0 ≤ p) (hb : 0 < b) (hc : 0 < c) (h : b + c ≤ 9000) :
    ∃ i : Nat, d_number_at [.tup (rs.map rw), pt p] = .ok (.int (i : Int)) ∧ NumAt rs p i := by
  obtain ⟨r0, qs, e0, h0, hpw⟩ := areR_iff.mp ha
  have hlen : 0 < rs.length := by rw [e0]; simp
  obtain ⟨ρ', m, e, ⟨lo, hi, x, rfl, hlo, hle, hm, r, hr, hrp, hhi⟩, ht⟩ := whD_inv (t := tVal (dBin gtD (dBin subD (dVarR 3) (dVarR 2)) (dC (.int 1)))) (g := (bSeq (sSet 4 (dBin fdivD (dBin addD (dVarR 2) (dVarR 3)) (dC (.int 2))))
    (sIf (tVal (dCall d_below (aCons (dVar 1) (aCons (dBin ixD (dBin ixD (dVarR 0) (dVarR 4)) (dC (.int 0))) aNil))))
    (sSet 3 (dVar 4))
    (sSet 2 (dVar 4)))))
    (fun n ρ => ∃ (lo hi : Nat) (x : Option Sl), ρ = [some (.frz (.tup (rs.map rw))), some (.frz (pt p)), some (.frz (.int (lo : Int))), some (.frz (.int (hi : Int))), x] ∧ lo < hi ∧ hi ≤ rs.length ∧ hi - lo = n ∧ ∃ r, rs[lo]? = some r ∧ r.bg ≤ p ∧ ∀ q, rs[hi]? = some q → p < q.bg)
    (fun n ρ => by
      rintro ⟨lo, hi, x, rfl, hlo, hle, hm, r, hr, hrp, hhi⟩
      by_cases hd : hi - lo ≤ 1
      · left
        have : ¬ (1 : Int) < (hi : Int) - (lo : Int) := by omega
        simp [this]
      · right
        have hgt : (1 : Int) < (hi : Int) - (lo : Int) := by omega
        obtain ⟨mid, hmid, m1, m2⟩ : ∃ mid : Nat, ((lo : Int) + (hi : Int)) / 2 = (mid : Int) ∧ lo < mid ∧ mid < hi := ⟨(lo + hi) / 2, by omega, by omega, by omega⟩
        have hml : mid < rs.length := by omega
        obtain ⟨q, hq'⟩ : ∃ q, rs[mid]? = some q := ⟨rs[mid], List.getElem?_eq_getElem hml⟩
        have hqm : q ∈ rs := List.mem_of_getElem? hq'
        have eb := below hq (hs q hqm).1 hc hb (by omega)
        have ei := ix_rows hq'
        refine ⟨by simp [hgt], ?_⟩
        by_cases hpq : p < q.bg
        · rw [decide_eq_true hpq] at eb
          refine ⟨[some (.frz (.tup (rs.map rw))), some (.frz (pt p)), some (.frz (.int (lo : Int))), some (.frz (.int (mid : Int))), some (.frz (.int (mid : Int)))], mid - lo, ?_, by omega, lo, mid, _, rfl, m1, by omega, rfl, r, hr, hrp, ?_⟩
          · simp [fdiv_lit, hmid, hq', eb]
          · intro y hy; rw [hq'] at hy; cases hy; exact hpq
        · rw [decide_eq_false hpq] at eb
          refine ⟨[some (.frz (.tup (rs.map rw))), some (.frz (pt p)), some (.frz (.int (mid : Int))), some (.frz (.int (hi : Int))), some (.frz (.int (mid : Int)))], hi - mid, ?_, by omega, mid, hi, _, rfl, m2, hle, rfl, q, hq', by grind, hhi⟩
          simp [fdiv_lit, hmid, hq', eb])
    (rs.length - 0) [some (.frz (.tup (rs.map rw))), some (.frz (pt p)), some (.frz (.int 0)), some (.frz (.int (rs.length : Int))), none]
    ⟨0, rs.length, none, rfl, hlen, Nat.le_refl _, rfl, r0, by rw [e0]; rfl, by rw [h0]; exact hp, by simp⟩
  have hd : ¬ (1 : Int) < (hi : Int) - (lo : Int) := by
    intro z
    simp [z] at ht
  have hhl : hi = lo + 1 := by omega
  subst hhl
  have hgt : ∀ j q, lo < j → rs[j]? = some q → p < q.bg := fun j q hj hq' => by
    by_cases hj2 : j = lo + 1
    · subst hj2; exact hhi q hq'
    · have hl1 : lo + 1 < rs.length := by have := (List.getElem?_eq_some_iff.mp hq').1; omega
      have h1 := hhi _ (List.getElem?_eq_getElem hl1)
      have h2 := pw_get hpw (i := lo + 1) (j := j) (by omega) (List.getElem?_eq_getElem hl1) hq'
      grind
  have hu : lineAt rs p = r := lineAt_uniq ha hp (List.mem_of_getElem? hr) hrp fun y hy hyp => by
    obtain ⟨j, hj⟩ := List.getElem?_of_mem hy
    by_cases hjl : lo < j
    · have := hgt j y hjl hj; grind
    · by_cases hje : j = lo
      · subst hje; rw [hr] at hj; cases hj; exact Std.le_refl _
      · have := pw_get hpw (i := j) (j := lo) (by omega) hj hr; grind
  refine ⟨lo, runB_ret ?_, ⟨by rw [hu]; exact hr, by rw [hu]; exact hrp, hgt⟩⟩
  show s_number_at [some (.frz (.tup (rs.map rw))), some (.frz (pt p)), none, none, none] = _
  unfold s_number_at
  refine (bseq_next (by simp; rfl)).trans ?_
  refine (bseq_next (by simp; rfl)).trans ?_
  refine (bseq_next e).trans ?_
  simp
/-- the value, the value behind, the slope -/
def tri (r : Rw) : D := .tup [pt r.vl, pt r.bh, pt r.sl]
theorem seen_at {rs : List Rw} {p : Rat} {b c : Nat} (ha : areR rs = true) (hs : ∀ r, r ∈ rs → SmR b r) (hq : SmQ c p) (hp : 0 ≤ p) (hb : 0 < b) (hc : 0 < c) (h : 3 * b + c + 1 ≤ 9000) :
    d_seen_at [.tup (rs.map rw), pt p] = .ok (tri (rowAt rs p)) := by
  obtain ⟨i, e1, N⟩ := number_at ha hs hq hp hb hc (by omega)
  have hm : lineAt rs p ∈ rs := List.mem_of_getElem? N.row
  have ei := ix_rows N.row
  have ec := come_to (hs _ hm) hq hb hc h
  have ee := eqD_pt (p := (lineAt rs p).bg) (q := p)
  have rc : cutD [pt (lineAt rs p).bg, pt (lineAt rs p).vl, pt (lineAt rs p).bh, pt (lineAt rs p).sl] (some 1) none = [pt (lineAt rs p).vl, pt (lineAt rs p).bh, pt (lineAt rs p).sl] := cut_1
  have srw : sliceD (rw (lineAt rs p)) (some 1) none = .ok (.tup [pt (lineAt rs p).vl, pt (lineAt rs p).bh, pt (lineAt rs p).sl]) := by unfold rw; rw [slice_tup, rc]
  refine runB_ret ?_
  show s_seen_at [some (.frz (.tup (rs.map rw))), some (.frz (pt p)), none, none] = _
  unfold s_seen_at
  refine (bseq_next (ρ' := [some (.frz (.tup (rs.map rw))), some (.frz (pt p)), some (.frz (rw (lineAt rs p))), none]) (by simp [e1, N.row])).trans ?_
  unfold rowAt rowR valR tri
  by_cases hbp : (lineAt rs p).bg = p
  · rw [decide_eq_true hbp] at ee
    have hcs := comes_self (lineAt rs p)
    rw [hbp] at hcs
    have e2 := eqD_pt (p := p) (q := p)
    simp [e2, srw, hbp, hcs]
  · rw [decide_eq_false hbp] at ee
    simp [ee, hbp, ec]
theorem begins_of {rs : List Rw} (hl : rs.length < 1000000) : d_begins_of [.tup (rs.map rw)] = .ok (.lst ((rs.map Rw.bg).map pt)) := by
  have hz : rs.length ≤ PySem.sizeLine := by rw [PySem.sizeLine_eq]; omega
  have hc : compD (.nm 1) tYesB (dBin ixD (dVarR 1) (dC (.int 0))) (rs.map rw) [some (.frz (.tup (rs.map rw))), none] = .ok ((rs.map Rw.bg).map pt) := by
    generalize D.tup (rs.map rw) = d0
    clear hz hl
    induction rs with
    | nil => rfl
    | cons r rs ih =>
      rw [List.map_cons]
      unfold compD
      rw [asg_nm, bind_ok', tYesB_ev, bind_ok', if_pos rfl]
      have e1 : dBin ixD (dVarR 1) (dC (.int 0)) (([some (.frz d0), none] : En).set 1 (some (.frz (rw r)))) = .ok (pt r.bg) := by simp
      rw [e1, bind_ok', ih]
      rfl
  refine runB_ret ?_
  show s_begins_of [some (.frz (.tup (rs.map rw))), none] = _
  unfold s_begins_of
  simp [dComp_ev, wipeE, hz, hc, compR]
/-! ### merged -/
def mrg : List Rat → List Rat → List Rat
  | [], ys => ys
  | x :: xs, [] => x :: xs
  | x :: xs, y :: ys => if x = y then mrg (x :: xs) ys else if y < x then y :: mrg (x :: xs) ys else x :: mrg xs (y :: ys)
termination_by xs ys => xs.length + ys.length
theorem mrg_nil (xs : List Rat) : mrg xs [] = xs := by cases xs <;> simp [mrg]
theorem nil_mrg (ys : List Rat) : mrg [] ys = ys := by simp [mrg]
theorem mrg_mem : ∀ (n : Nat) (xs ys : List Rat), xs.length + ys.length ≤ n → ∀ p, p ∈ mrg xs ys ↔ p ∈ xs ∨ p ∈ ys
  | _, [], ys, _, p => by simp [mrg]
  | _, x :: xs, [], _, p => by simp [mrg]
  | 0, x :: xs, y :: ys, hn, p => by simp at hn
  | n + 1, x :: xs, y :: ys, hn, p => by
    simp only [List.length_cons] at hn
    rw [mrg]
    by_cases h1 : x = y
    · rw [if_pos h1, mrg_mem n _ _ (by simp only [List.length_cons]; omega)]
      subst h1
      simp only [List.mem_cons]
      grind
    · rw [if_neg h1]
      by_cases h2 : y < x
      · rw [if_pos h2, List.mem_cons, mrg_mem n _ _ (by simp only [List.length_cons]; omega)]
        simp only [List.mem_cons]
        grind
      · rw [if_neg h2, List.mem_cons, mrg_mem n _ _ (by simp only [List.length_cons]; omega)]
        simp only [List.mem_cons]
        grind
theorem mrg_up : ∀ (n : Nat) (xs ys : List Rat), xs.length + ys.length ≤ n → xs.Pairwise (· < ·) → ys.Pairwise (· < ·) → (mrg xs ys).Pairwise (· < ·)
  | _, [], ys, _, _, h => by simpa [mrg] using h
  | _, x :: xs, [], _, h, _ => by rw [mrg_nil]; exact h
  | 0, x :: xs, y :: ys, hn, _, _ => by simp at hn
  | n + 1, x :: xs, y :: ys, hn, hx, hy => by
    simp only [List.length_cons] at hn
    have h1 := List.pairwise_cons.mp hx
    have h2 := List.pairwise_cons.mp hy
    rw [mrg]
    by_cases e1 : x = y
    · rw [if_pos e1]
      exact mrg_up n _ _ (by simp only [List.length_cons]; omega) hx h2.2
    · rw [if_neg e1]
      by_cases e2 : y < x
      · rw [if_pos e2]
        refine List.pairwise_cons.mpr ⟨fun p hp => ?_, mrg_up n _ _ (by simp only [List.length_cons]; omega) hx h2.2⟩
        rw [mrg_mem _ _ _ (Nat.le_refl _)] at hp
        rcases hp with hp | hp
        · rcases List.mem_cons.mp hp with rfl | hp
          · exact e2
          · have := h1.1 p hp; grind
        · exact h2.1 p hp
      · rw [if_neg e2]
        refine List.pairwise_cons.mpr ⟨fun p hp => ?_, mrg_up n _ _ (by simp only [List.length_cons]; omega) h1.2 hy⟩
        rw [mrg_mem _ _ _ (Nat.le_refl _)] at hp
        rcases hp with hp | hp
        · exact h1.1 p hp
        · rcases List.mem_cons.mp hp with rfl | hp
          · grind
          · have := h2.1 p hp; grind
theorem mrg_len : ∀ (n : Nat) (xs ys : List Rat), xs.length + ys.length ≤ n → (mrg xs ys).length ≤ xs.length + ys.length
  | _, [], ys, _ => by simp [mrg]
  | _, x :: xs, [], _ => by simp [mrg]
  | 0, x :: xs, y :: ys, hn => by simp at hn
  | n + 1, x :: xs, y :: ys, hn => by
    simp only [List.length_cons] at hn
    rw [mrg]
    by_cases h1 : x = y
    · rw [if_pos h1]; have := mrg_len n (x :: xs) ys (by simp only [List.length_cons]; omega); simp only [List.length_cons] at *; omega
    · rw [if_neg h1]
      by_cases h2 : y < x
      · rw [if_pos h2]; have := mrg_len n (x :: xs) ys (by simp only [List.length_cons]; omega); simp only [List.length_cons] at *; omega
      · rw [if_neg h2]; have := mrg_len n xs (y :: ys) (by simp only [List.length_cons]; omega); simp only [List.length_cons] at *; omega
theorem up_ext : ∀ {xs ys : List Rat}, xs.Pairwise (· < ·) → ys.Pairwise (· < ·) → (∀ p, p ∈ xs ↔ p ∈ ys) → xs = ys
  | [], [], _, _, _ => rfl
  | [], y :: ys, _, _, h => by have := (h y).mpr (by simp); simp at this
  | x :: xs, [], _, _, h => by have := (h x).mp (by simp); simp at this
  | x :: xs, y :: ys, hx, hy, h => by
    have h1 := List.pairwise_cons.mp hx
    have h2 := List.pairwise_cons.mp hy
    have e : x = y := by
      rcases List.mem_cons.mp ((h x).mp (by simp)) with e | e
      · exact e
      · rcases List.mem_cons.mp ((h y).mpr (by simp)) with e' | e'
        · exact e'.symm
        · have := h2.1 x e; have := h1.1 y e'; grind
    subst e
    congr 1
    refine up_ext h1.2 h2.2 fun p => ?_
    constructor
    · intro hp
      rcases List.mem_cons.mp ((h p).mp (List.mem_cons_of_mem _ hp)) with e | e
      · subst e; have := h1.1 p hp; grind
      · exact e
    · intro hp
      rcases List.mem_cons.mp ((h p).mpr (List.mem_cons_of_mem _ hp)) with e | e
      · subst e; have := h2.1 p hp; grind
      · exact e
end FVP

/-! FVL3: merged; places of lines. -/
namespace FVP
open FV
open L2 (atI)
theorem cut_list {xs : List D} {k : Nat} : sliceD (.lst xs) (some (k : Int)) none = .ok (.lst (xs.drop k)) := by rw [slice_lst, cut_from]
theorem addD_lst {xs ys : List D} (h : xs.length + ys.length ≤ PySem.sizeLine) : addD (.lst xs) (.lst ys) = .ok (.lst (xs ++ ys)) := by simp [addD, h]
theorem catD_lst {xs ys : List D} (h : xs.length + ys.length ≤ PySem.sizeLine) : catD (.lst xs) (.lst ys) = .ok (.lst (xs ++ ys)) := by simp [catD, h]
theorem merged {xs ys : List Rat} {b : Nat} (hx : ∀ p, p ∈ xs → SmQ b p) (hy : ∀ p, p ∈ ys → SmQ b p) (hb : 0 < b) (h : 2 * b ≤ 9000) (hl : xs.length + ys.length < 1000000) :
    d_merged [.lst (xs.map pt), .lst (ys.map pt)] = .ok (.lst ((mrg xs ys).map pt)) := by
  have hz : 1000000 ≤ PySem.sizeLine := by rw [PySem.sizeLine_eq]; omega
  obtain ⟨ρ', m, e, ⟨fs, i, j, rfl, hm, hi, hj, hf, hfl⟩, ht⟩ := whD_inv (t := (tAndB (tVal (dBin ltD (dVarR 3) (dCall lenD (aCons (dVarR 0) aNil)))) (tVal (dBin ltD (dVarR 4) (dCall lenD (aCons (dVarR 1) aNil))))))
    (g := (sIf (tVal (dBin eqD (dBin ixD (dVarR 0) (dVarR 3)) (dBin ixD (dVarR 1) (dVarR 4))))
    (sAugI 4 augAdd (dC (.int 1)))
    (sIf (tVal (dCall d_below (aCons (dBin ixD (dVarR 1) (dVarR 4)) (aCons (dBin ixD (dVarR 0) (dVarR 3)) aNil))))
      (bSeq (sApp 2 (dBin ixD (dVarR 1) (dVarR 4)))
        (sAugI 4 augAdd (dC (.int 1))))
      (bSeq (sApp 2 (dBin ixD (dVarR 0) (dVarR 3)))
        (sAugI 3 augAdd (dC (.int 1)))))))
    (fun n ρ => ∃ (fs : List Rat) (i j : Nat), ρ = [some (.frz (.lst (xs.map pt))), some (.frz (.lst (ys.map pt))), some (.own (fs.map pt)), some (.frz (.int (i : Int))), some (.frz (.int (j : Int)))] ∧ (xs.length - i) + (ys.length - j) = n ∧ i ≤ xs.length ∧ j ≤ ys.length ∧
      fs ++ mrg (xs.drop i) (ys.drop j) = mrg xs ys ∧ fs.length ≤ i + j)
    (fun n ρ => by
      rintro ⟨fs, i, j, rfl, hn, hi, hj, hf, hfl⟩
      by_cases h1 : i < xs.length
      · by_cases h2 : j < ys.length
        · right
          have c1 : (i : Int) < (xs.length : Int) := by omega
          have c2 : (j : Int) < (ys.length : Int) := by omega
          obtain ⟨x, ex⟩ : ∃ x, xs[i]? = some x := ⟨xs[i], List.getElem?_eq_getElem h1⟩
          obtain ⟨y, ey⟩ : ∃ y, ys[j]? = some y := ⟨ys[j], List.getElem?_eq_getElem h2⟩
          have dx : xs.drop i = x :: xs.drop (i + 1) := by
            rw [List.getElem?_eq_getElem h1] at ex; cases ex; exact List.drop_eq_getElem_cons h1
          have dy : ys.drop j = y :: ys.drop (j + 1) := by
            rw [List.getElem?_eq_getElem h2] at ey; cases ey; exact List.drop_eq_getElem_cons h2
          have ee := eqD_pt (p := x) (q := y)
          have eb := below (hy y (List.mem_of_getElem? ey)) (hx x (List.mem_of_getElem? ex)) hb hb (by omega)
          have hfz : fs.length < PySem.sizeLine := by omega
          refine ⟨by simp [c1, c2], ?_⟩
          rw [dx, dy, mrg] at hf
          by_cases hxy : x = y
          · rw [if_pos hxy] at hf
            rw [decide_eq_true hxy] at ee
            refine ⟨[some (.frz (.lst (xs.map pt))), some (.frz (.lst (ys.map pt))), some (.own (fs.map pt)), some (.frz (.int (i : Int))), some (.frz (.int ((j : Int) + 1)))], (xs.length - i) + (ys.length - (j + 1)), ?_, by omega, fs, i, j + 1, by simp, rfl, hi, by omega, by rw [dx]; exact hf, by omega⟩
            simp [ex, ey, ee, sAugI_ev]
          · rw [if_neg hxy] at hf
            rw [decide_eq_false hxy] at ee
            by_cases hyx : y < x
            · rw [if_pos hyx] at hf
              rw [decide_eq_true hyx] at eb
              refine ⟨[some (.frz (.lst (xs.map pt))), some (.frz (.lst (ys.map pt))), some (.own ((fs ++ [y]).map pt)), some (.frz (.int (i : Int))), some (.frz (.int ((j : Int) + 1)))], (xs.length - i) + (ys.length - (j + 1)), ?_, by omega, fs ++ [y], i, j + 1, by simp, rfl, hi, by omega, by rw [dx, ← hf]; simp, by simp; omega⟩
              simp [ex, ey, ee, eb, sAugI_ev, sApp, hfz]
            · rw [if_neg hyx] at hf
              rw [decide_eq_false hyx] at eb
              refine ⟨[some (.frz (.lst (xs.map pt))), some (.frz (.lst (ys.map pt))), some (.own ((fs ++ [x]).map pt)), some (.frz (.int ((i : Int) + 1))), some (.frz (.int (j : Int)))], (xs.length - (i + 1)) + (ys.length - j), ?_, by omega, fs ++ [x], i + 1, j, by simp, rfl, by omega, hj, by rw [dy, ← hf]; simp, by simp; omega⟩
              simp [ex, ey, ee, eb, sAugI_ev, sApp, hfz]
        · left
          have c1 : (i : Int) < (xs.length : Int) := by omega
          have c2 : ¬ (j : Int) < (ys.length : Int) := by omega
          simp [c1, c2]
      · left
        have c1 : ¬ (i : Int) < (xs.length : Int) := by omega
        simp [c1])
    ((xs.length - 0) + (ys.length - 0)) [some (.frz (.lst (xs.map pt))), some (.frz (.lst (ys.map pt))), some (.own []), some (.frz (.int 0)), some (.frz (.int 0))]
    ⟨[], 0, 0, by simp, rfl, by omega, by omega, rfl, by simp⟩
  have hend : fs ++ (xs.drop i ++ ys.drop j) = mrg xs ys := by
    rw [← hf]
    congr 1
    by_cases h1 : i < xs.length
    · have h2 : ¬ j < ys.length := by
        intro h2
        have c1 : (i : Int) < (xs.length : Int) := by omega
        have c2 : (j : Int) < (ys.length : Int) := by omega
        simp [c1, c2] at ht
      rw [List.drop_eq_nil_of_le (show ys.length ≤ j by omega), mrg_nil]; simp
    · rw [List.drop_eq_nil_of_le (show xs.length ≤ i by omega), nil_mrg]; simp
  refine runB_ret ?_
  show s_merged [some (.frz (.lst (xs.map pt))), some (.frz (.lst (ys.map pt))), none, none, none] = _
  unfold s_merged
  refine (bseq_next (by simp; rfl)).trans ?_
  refine (bseq_next (by simp; rfl)).trans ?_
  refine (bseq_next (by simp; rfl)).trans ?_
  refine (bseq_next e).trans ?_
  have a1 : addD (.lst (fs.map pt)) (.lst ((xs.map pt).drop i)) = .ok (.lst (fs.map pt ++ (xs.map pt).drop i)) := addD_lst (by simp; omega)
  have a2 : addD (.lst (fs.map pt ++ (xs.map pt).drop i)) (.lst ((ys.map pt).drop j)) = .ok (.lst (fs.map pt ++ (xs.map pt).drop i ++ (ys.map pt).drop j)) := addD_lst (by simp; omega)
  have fin : fs.map pt ++ (xs.map pt).drop i ++ (ys.map pt).drop j = (mrg xs ys).map pt := by
    rw [← hend]; simp
  rw [fin] at a2
  simp [cut_from, a1, a2]
theorem mem_mrg {xs ys : List Rat} {p : Rat} : p ∈ mrg xs ys ↔ p ∈ xs ∨ p ∈ ys := mrg_mem _ _ _ (Nat.le_refl _) p
theorem up_mrg {xs ys : List Rat} (hx : xs.Pairwise (· < ·)) (hy : ys.Pairwise (· < ·)) : (mrg xs ys).Pairwise (· < ·) := mrg_up _ _ _ (Nat.le_refl _) hx hy
theorem len_mrg {xs ys : List Rat} : (mrg xs ys).length ≤ xs.length + ys.length := mrg_len _ _ _ (Nat.le_refl _)
/-- where the rows begin -/
def bgs (rs : List Rw) : List Rat := rs.map Rw.bg
theorem up_bgs {rs : List Rw} (ha : areR rs = true) : (bgs rs).Pairwise (· < ·) := by
  unfold bgs; rw [List.pairwise_map]; exact areR_pw ha
theorem mem_bgs {rs : List Rw} {r : Rw} (h : r ∈ rs) : r.bg ∈ bgs rs := List.mem_map_of_mem h
theorem bgs_z {rs : List Rw} (ha : areR rs = true) : (0 : Rat) ∈ bgs rs := by
  obtain ⟨r, qs, rfl, h0, _⟩ := areR_iff.mp ha
  rw [← h0]; exact mem_bgs (by simp)
theorem bgs_nn {rs : List Rw} (ha : areR rs = true) {p : Rat} (h : p ∈ bgs rs) : 0 ≤ p := by
  obtain ⟨r, hr, rfl⟩ := List.mem_map.mp h
  exact areR_nn ha hr
/-- the begins of two lines, rising -/
def plc2 (rs qs : List Rw) : List Rat := mrg (bgs rs) (bgs qs)
theorem plc2_ok {rs qs : List Rw} (ha : areR rs = true) (hb : areR qs = true) : Plc (plc2 rs qs) where
  up := up_mrg (up_bgs ha) (up_bgs hb)
  z := mem_mrg.mpr (.inl (bgs_z ha))
  nn := fun p hp => (mem_mrg.mp hp).elim (bgs_nn ha) (bgs_nn hb)
theorem plc2_1 {rs qs : List Rw} {r : Rw} (h : r ∈ rs) : r.bg ∈ plc2 rs qs := mem_mrg.mpr (.inl (mem_bgs h))
theorem plc2_2 {rs qs : List Rw} {r : Rw} (h : r ∈ qs) : r.bg ∈ plc2 rs qs := mem_mrg.mpr (.inr (mem_bgs h))
theorem plc2_comm {rs qs : List Rw} (ha : areR rs = true) (hb : areR qs = true) : plc2 qs rs = plc2 rs qs :=
  up_ext (plc2_ok hb ha).up (plc2_ok ha hb).up fun p => by unfold plc2; rw [mem_mrg, mem_mrg, or_comm]
/-! ### rising -/
def insR (p : Rat) : List Rat → List Rat
  | [] => [p]
  | x :: xs => if x < p then x :: insR p xs else if x = p then x :: xs else p :: x :: xs
def rising (ps : List Rat) : List Rat := ps.foldl (fun acc p => insR p acc) []
theorem insR_mem {p q : Rat} : ∀ {xs : List Rat}, q ∈ insR p xs ↔ q = p ∨ q ∈ xs
  | [] => by simp [insR]
  | x :: xs => by
    unfold insR
    split
    · rw [List.mem_cons, insR_mem]; simp only [List.mem_cons]; grind
    · split
      · rename_i h; subst h; simp
      · simp
theorem insR_up {p : Rat} : ∀ {xs : List Rat}, xs.Pairwise (· < ·) → (insR p xs).Pairwise (· < ·)
  | [], _ => by simp [insR]
  | x :: xs, h => by
    have h1 := List.pairwise_cons.mp h
    unfold insR
    split
    · rename_i hx
      refine List.pairwise_cons.mpr ⟨fun q hq => ?_, insR_up h1.2⟩
      rcases insR_mem.mp hq with rfl | hq
      · exact hx
      · exact h1.1 q hq
    · split
      · exact h
      · refine List.pairwise_cons.mpr ⟨fun q hq => ?_, h⟩
        rcases List.mem_cons.mp hq with rfl | hq
        · grind
        · have := h1.1 q hq; grind
theorem insR_len {p : Rat} : ∀ {xs : List Rat}, (insR p xs).length ≤ xs.length + 1
  | [] => by simp [insR]
  | x :: xs => by
    unfold insR
    split
    · have := insR_len (p := p) (xs := xs); simp only [List.length_cons]; omega
    · split <;> simp
theorem fold_ins {ps : List Rat} : ∀ {acc : List Rat}, acc.Pairwise (· < ·) → (ps.foldl (fun acc p => insR p acc) acc).Pairwise (· < ·) ∧ (∀ q, q ∈ ps.foldl (fun acc p => insR p acc) acc ↔ q ∈ acc ∨ q ∈ ps) ∧ (ps.foldl (fun acc p => insR p acc) acc).length ≤ acc.length + ps.length := by
  induction ps with
  | nil => intro acc h; exact ⟨h, by simp, by simp⟩
  | cons p ps ih =>
    intro acc h
    obtain ⟨a, b, c⟩ := ih (acc := insR p acc) (insR_up h)
    refine ⟨a, fun q => ?_, ?_⟩
    · rw [List.foldl_cons, b, insR_mem]; simp only [List.mem_cons]; grind
    · rw [List.foldl_cons]; have := insR_len (p := p) (xs := acc); simp only [List.length_cons]; omega
theorem rising_up (ps : List Rat) : (rising ps).Pairwise (· < ·) := (fold_ins (acc := []) .nil).1
theorem rising_mem {ps : List Rat} {q : Rat} : q ∈ rising ps ↔ q ∈ ps := by
  have := (fold_ins (ps := ps) (acc := []) .nil).2.1 q
  simpa [rising] using this
theorem rising_len (ps : List Rat) : (rising ps).length ≤ ps.length := by
  have := (fold_ins (ps := ps) (acc := []) .nil).2.2
  simpa [rising] using this
theorem rising_two {rs qs : List Rw} (ha : areR rs = true) (hb : areR qs = true) : rising (bgs rs ++ bgs qs) = plc2 rs qs :=
  up_ext (rising_up _) (plc2_ok ha hb).up fun p => by rw [rising_mem, List.mem_append]; unfold plc2; rw [mem_mrg]
/-- how many lie below, and the cut there -/
theorem ins_split {p : Rat} : ∀ {xs : List Rat}, xs.Pairwise (· < ·) → ∃ as bs, xs = as ++ bs ∧ (xs.filter fun x => decide (x < p)) = as ∧ (∀ x, bs.head? = some x → ¬ x < p) ∧ insR p xs = as ++ (if bs.head? = some p then bs else p :: bs)
  | [], _ => ⟨[], [], rfl, rfl, by simp, by simp [insR]⟩
  | x :: xs, h => by
    have h1 := List.pairwise_cons.mp h
    by_cases hx : x < p
    · obtain ⟨as, bs, e1, e2, e3, e4⟩ := ins_split (p := p) h1.2
      refine ⟨x :: as, bs, by rw [e1]; rfl, by simp [hx, e2], e3, ?_⟩
      unfold insR
      rw [if_pos hx, e4]; rfl
    · refine ⟨[], x :: xs, rfl, ?_, by simpa using hx, ?_⟩
      · rw [List.filter_eq_nil_iff]
        intro y hy
        rcases List.mem_cons.mp hy with rfl | hy
        · simpa using hx
        · have := h1.1 y hy
          simp only [decide_eq_true_eq]
          grind
      · unfold insR
        rw [if_neg hx]
        by_cases he : x = p
        · rw [if_pos he]; simp [he]
        · rw [if_neg he]; simp [he]
end FVP

/-! FVB1: the laws of falls, unlike places, splits: their fractions, amounts. -/
namespace FVP
open FV
open L2 (atI)
/-- a multiple of 1 / M, at most B of them either way -/
def Gr (M B : Nat) (q : Rat) : Prop := ∃ k : Int, q * (M : Rat) = (k : Rat) ∧ k.natAbs ≤ B
theorem Gr.mono {M B C : Nat} {q : Rat} (h : Gr M B q) (hb : B ≤ C) : Gr M C q := let ⟨k, e, z⟩ := h; ⟨k, e, Nat.le_trans z hb⟩
theorem Gr.add {M B C : Nat} {p q : Rat} (h1 : Gr M B p) (h2 : Gr M C q) : Gr M (B + C) (p + q) := by
  obtain ⟨k, e, z⟩ := h1
  obtain ⟨j, f, y⟩ := h2
  exact ⟨k + j, by rw [Rat.add_mul, e, f, Rat.intCast_add], by omega⟩
theorem Gr.sub {M B C : Nat} {p q : Rat} (h1 : Gr M B p) (h2 : Gr M C q) : Gr M (B + C) (p - q) := by
  obtain ⟨k, e, z⟩ := h1
  obtain ⟨j, f, y⟩ := h2
  refine ⟨k - j, ?_, by omega⟩
  rw [Rat.intCast_sub, ← e, ← f]; grind
theorem Gr.mul {M N B C : Nat} {p q : Rat} (h1 : Gr M B p) (h2 : Gr N C q) : Gr (M * N) (B * C) (p * q) := by
  obtain ⟨k, e, z⟩ := h1
  obtain ⟨j, f, y⟩ := h2
  refine ⟨k * j, ?_, ?_⟩
  · rw [Rat.intCast_mul, ← e, ← f, Rat.natCast_mul]; grind
  · rw [Int.natAbs_mul]; exact Nat.mul_le_mul z y
theorem Gr.scale {M B : Nat} {q : Rat} (c : Nat) (h : Gr M B q) : Gr (M * c) (B * c) q := by
  obtain ⟨k, e, z⟩ := h
  refine ⟨k * c, ?_, ?_⟩
  · rw [Rat.intCast_mul, ← e, Rat.natCast_mul]
    show _ = q * (M : Rat) * ((c : Int) : Rat)
    rw [Rat.intCast_natCast]; grind
  · rw [Int.natAbs_mul, Int.natAbs_natCast]; exact Nat.mul_le_mul_right _ z
theorem div_mul {u v : Int} (hv : v ≠ 0) : Rat.divInt u v * (v : Rat) = (u : Rat) := by
  rw [Rat.divInt_eq_div]
  have : (v : Rat) ≠ 0 := by intro h; exact hv (Rat.intCast_eq_zero_iff.mp h)
  grind
theorem eq_div {q : Rat} {u v : Int} (hv : v ≠ 0) (h : q * (v : Rat) = (u : Rat)) : q = Rat.divInt u v := by
  rw [Rat.divInt_eq_div]
  have : (v : Rat) ≠ 0 := by intro h; exact hv (Rat.intCast_eq_zero_iff.mp h)
  grind
theorem Gr.div {u v : Int} {c M B : Nat} (hv : 0 < v) (hc : v * (c : Int) = (M : Int)) (hB : u.natAbs * c ≤ B) : Gr M B (Rat.divInt u v) := by
  refine ⟨u * c, ?_, by rw [Int.natAbs_mul, Int.natAbs_natCast]; exact hB⟩
  have e := div_mul (u := u) (v := v) (by omega)
  have h2 : (M : Rat) = (v : Rat) * ((c : Int) : Rat) := by
    rw [← Rat.intCast_mul, hc, Rat.intCast_natCast]
  rw [h2, Rat.intCast_mul, ← e]; grind
theorem Gr.smQ {M B n : Nat} {q : Rat} (h : Gr M B q) (hM : 0 < M) (h1 : M < 2 ^ n) (h2 : B < 2 ^ n) : SmQ n q := by
  obtain ⟨k, e, z⟩ := h
  have : q = Rat.divInt k (M : Int) := eq_div (by omega) (by rw [Rat.intCast_natCast]; exact e)
  rw [this]
  exact smQ_div (by omega) (by rw [Int.natAbs_natCast]; exact h1) (by omega)
/-! ### the law's fractions -/
theorem low {u v : Int} {n : Nat} (hn : n ≤ 9000) (h0 : 0 < n) (hv : 0 < v) (hv2 : Sm n v) : d__law_low [.int u, .int v] = .ok (pt (Rat.divInt u v)) := by
  have hg : 0 < Nat.gcd u.natAbs v.natAbs := Nat.gcd_pos_of_pos_right _ (by omega)
  have hgl : Nat.gcd u.natAbs v.natAbs ≤ v.natAbs := Nat.gcd_le_right _ (by omega)
  have hd : DivOk ((Nat.gcd u.natAbs v.natAbs : Nat) : Int) := divOk_of (b := n) (by omega) (by unfold Sm at *; omega) h0 hn
  have loop := gcd_loop (t := tVal (dBin gtD (dVarR 3) (dC (.int 0)))) (g := sPar 2 3 (dVar 3) (dBin modD (dVarR 2) (dVarR 3)))
    (fun a b => [some (.frz (.int u)), some (.frz (.int v)), some (.frz (.int (a : Int))), some (.frz (.int (b : Int)))])
    (fun a b => by simp) (fun a b hb => by simp [modD_int (show (0 : Int) < (b : Int) by omega)]) u.natAbs v.natAbs
  unfold pt
  obtain ⟨r1, r2⟩ := red_pos u v hv
  rw [show ((v.natAbs : Nat) : Int) = v by omega] at loop
  simp only [d__law_low, s__law_low, runB]
  simp [abs_nat, loop, fdivD_int hd, r1, r2]
theorem dd_pos (p q : Rat) : 0 < (p.den : Int) * (q.den : Int) := Int.mul_pos (by have := p.den_pos; omega) (by have := q.den_pos; omega)
section
variable {p q : Rat} {a b : Nat}
theorem b_sum (hp : SmQ a p) (hq : SmQ b q) (ha : 0 < a) (hb : 0 < b) (h : a + b ≤ 9000) : d__law_sum_b [pt p, pt q] = .ok (pt (p + q)) := by
  obtain ⟨m1, m2, m3, _⟩ := muls hp hq ha hb h
  have e := low (u := p.num * q.den + q.num * p.den) h (by omega) (dd_pos p q) (sm_mul hp.2 hq.2)
  rw [add_div] at e
  simp only [d__law_sum_b, s__law_sum_b, runB]
  simp [mulD_int m1, mulD_int m2, mulD_int m3, e]
theorem b_less (hp : SmQ a p) (hq : SmQ b q) (ha : 0 < a) (hb : 0 < b) (h : a + b ≤ 9000) : d__law_less_b [pt p, pt q] = .ok (pt (p - q)) := by
  obtain ⟨m1, m2, m3, _⟩ := muls hp hq ha hb h
  have e := low (u := p.num * q.den - q.num * p.den) h (by omega) (dd_pos p q) (sm_mul hp.2 hq.2)
  rw [sub_div] at e
  simp only [d__law_less_b, s__law_less_b, runB]
  simp [mulD_int m1, mulD_int m2, mulD_int m3, e]
theorem b_by (hp : SmQ a p) (hq : SmQ b q) (ha : 0 < a) (hb : 0 < b) (h : a + b ≤ 9000) : d__law_by [pt p, pt q] = .ok (pt (p * q)) := by
  obtain ⟨m1, m2, m3, m4⟩ := muls hp hq ha hb h
  have e := low (u := p.num * q.num) h (by omega) (dd_pos p q) (sm_mul hp.2 hq.2)
  rw [mul_div] at e
  simp only [d__law_by, s__law_by, runB]
  simp [mulD_int m3, mulD_int m4, e]
theorem b_under (hp : SmQ a p) (hq : SmQ b q) (ha : 0 < a) (hb : 0 < b) (h : a + b ≤ 9000) : d__law_under [pt p, pt q] = .ok (.bl (decide (p < q))) := by
  obtain ⟨m1, m2, m3, m4⟩ := muls hp hq ha hb h
  simp [d__law_under, s__law_under, runB, mulD_int m1, mulD_int m2, Rat.lt_iff]
end
theorem b_come {r : Rw} {p : Rat} {b c : Nat} (hr : SmR b r) (hp : SmQ c p) (hb : 0 < b) (hc : 0 < c) (h : 3 * b + c + 1 ≤ 9000) : d__law_come [rw r, pt p] = .ok (pt (comes r p)) := by
  have e1 := b_less hp hr.1 hc hb (by omega)
  have e2 := b_by hr.2.2.2 (smQ_sub hp hr.1) hb (by omega) (by omega)
  have e3 := b_sum hr.2.2.1 (smQ_mul hr.2.2.2 (smQ_sub hp hr.1)) hb (by omega) (by omega)
  simp only [d__law_come, s__law_come, runB]
  simp [e1, e2, e3, comes]
/-- 84 * 1000003 -/
def LB : Nat := 84000252
theorem b_amount (m lo : Int) (hlo : lo = -9 ∨ lo = 0) : ∃ q : Rat, d__law_amount [.int m, .int lo] = .ok (pt q) ∧ Gr LB (2 ^ 121) q ∧ (lo : Rat) ≤ q := by
  have f1 := mixed (c := m) (k := 91) (by decide) (by decide)
  have f2 := mixed (c := m) (k := 92) (by decide) (by decide)
  have f3 := mixed (c := m) (k := 93) (by decide) (by decide)
  have f4 := mixed (c := m) (k := 94) (by decide) (by decide)
  have n1 := mix_nn m 91
  have n2 := mix_nn m 92
  have l2 := mix_lt m 92
  have n3 := mix_nn m 93
  have n4 := mix_nn m 94
  have l4 := mix_lt m 94
  generalize mix m 91 = a1 at *
  generalize mix m 92 = a2 at *
  generalize mix m 93 = a3 at *
  generalize mix m 94 = a4 at *
  obtain ⟨bt, ⟨c, hb0, hc, hc2⟩, e3⟩ : ∃ bt : Int, (∃ c : Nat, 0 < bt ∧ bt * (c : Int) = (LB : Int) ∧ (bt = 1000003 ∧ c = 84 ∨ bt ≤ 7 ∧ c ≤ 84000252)) ∧ atI [D.int 1, .int 1, .int 1, .int 2, .int 3, .int 4, .int 7, .int 1000003] (a3 / 3 % 8) = some (.int bt) := by
    obtain ⟨d, h, q⟩ := at_mem (xs := [D.int 1, .int 1, .int 1, .int 2, .int 3, .int 4, .int 7, .int 1000003]) (i := a3 / 3 % 8) (by omega) (by simp; omega)
    simp only [List.mem_cons, List.not_mem_nil, or_false] at h
    rcases h with rfl | rfl | rfl | rfl | rfl | rfl | rfl | rfl
    · exact ⟨1, ⟨84000252, by decide, by decide, by decide⟩, q⟩
    · exact ⟨1, ⟨84000252, by decide, by decide, by decide⟩, q⟩
    · exact ⟨1, ⟨84000252, by decide, by decide, by decide⟩, q⟩
    · exact ⟨2, ⟨42000126, by decide, by decide, by decide⟩, q⟩
    · exact ⟨3, ⟨28000084, by decide, by decide, by decide⟩, q⟩
    · exact ⟨4, ⟨21000063, by decide, by decide, by decide⟩, q⟩
    · exact ⟨7, ⟨12000036, by decide, by decide, by decide⟩, q⟩
    · exact ⟨1000003, ⟨84, by decide, by decide, by decide⟩, q⟩
  have hbt : bt ≤ 1000003 := by omega
  obtain ⟨nm, en, nn, nb⟩ : ∃ nm : Int, (sIf (tVal (dBin eqD (dVarR 2) (dC (.int 0))))
  (sSet 3 (dBin mulD (dBin mulD (dVarR 3) (dC (.int 2147483629))) (dCall d__law_mixed (aCons (dVar 0) (aCons (dC (.int 94)) aNil)))))
  (sIf (tVal (dBin ltD (dVarR 2) (dC (.int 3))))
    (sSet 3 (dBin modD (dVarR 3) (dC (.int 1000))))
    (sSet 3 (dBin modD (dVarR 3) (dC (.int 21)))))) [some (.frz (.int m)), some (.frz (.int lo)), some (.frz (.int (a1 / 3 % 8))), some (.frz (.int (a2 / 3))), some (.frz (.int bt))] = .next [some (.frz (.int m)), some (.frz (.int lo)), some (.frz (.int (a1 / 3 % 8))), some (.frz (.int nm)), some (.frz (.int bt))] ∧ 0 ≤ nm ∧ nm ≤ 2 ^ 93 := by
    have ee := eqD_int (i := a1 / 3 % 8) (j := 0)
    by_cases h1 : a1 / 3 % 8 = 0
    · rw [decide_eq_true h1] at ee
      have w1 := mul_r (i := a2 / 3) (j := 2147483629) (by decide) (by decide)
      have w2 := mul_r (i := a2 / 3 * 2147483629) (j := a4) (by omega) (by omega)
      refine ⟨a2 / 3 * 2147483629 * a4, by simp [ee, w1, w2, f4], Int.mul_nonneg (by omega) n4, ?_⟩
      have x1 : a2 / 3 * 2147483629 ≤ 2 ^ 62 := by omega
      have x2 : a2 / 3 * 2147483629 * a4 ≤ 2 ^ 62 * 2 ^ 31 := Int.mul_le_mul x1 (by omega) n4 (by decide)
      omega
    · rw [decide_eq_false h1] at ee
      by_cases h2 : a1 / 3 % 8 < 3
      · exact ⟨a2 / 3 % 1000, by simp [ee, h2, modD_int], by omega, by omega⟩
      · exact ⟨a2 / 3 % 21, by simp [ee, h2, modD_int], by omega, by omega⟩
  have sb : Sm 20 bt := by unfold Sm; omega
  have w3 := mul_r (i := lo) (j := bt) (by omega) (by omega)
  have el := low (u := lo * bt + nm) (v := bt) (n := 20) (by decide) (by decide) hb0 sb
  have hu : (lo * bt + nm).natAbs ≤ 2 ^ 93 + 9000027 := by
    rcases hlo with rfl | rfl <;> omega
  refine ⟨Rat.divInt (lo * bt + nm) bt, runB_ret ?_, ?_, ?_⟩
  · show s__law_amount [some (.frz (.int m)), some (.frz (.int lo)), none, none, none] = _
    unfold s__law_amount
    refine (bseq_next (by simp [f1, fdiv_lit, modD_int]; rfl)).trans ?_
    refine (bseq_next (by simp [f2, fdiv_lit]; rfl)).trans ?_
    refine (bseq_next (by simp [f3, fdiv_lit, modD_int, e3]; rfl)).trans ?_
    refine (bseq_next en).trans ?_
    simp [w3, el]
  · refine Gr.div hb0 hc ?_
    have : c ≤ 84000252 := by omega
    calc (lo * bt + nm).natAbs * c ≤ (2 ^ 93 + 9000027) * 84000252 := Nat.mul_le_mul hu this
      _ ≤ 2 ^ 121 := by decide
  · have e := div_mul (u := lo * bt + nm) (v := bt) (by omega)
    have hbp : (0 : Rat) < (bt : Rat) := Rat.intCast_pos.mpr hb0
    have h2 : (lo : Rat) * (bt : Rat) ≤ Rat.divInt (lo * bt + nm) bt * (bt : Rat) := by
      rw [e, ← Rat.intCast_mul]
      exact Rat.intCast_le_intCast.mpr (by omega)
    exact Rat.le_of_mul_le_mul_right h2 hbp
end FVP

/-! FVB2: the drawn lines of these laws. -/
namespace FVP
open FV
open L2 (atI)
theorem grz {M B : Nat} : Gr M B 0 := ⟨0, by simp, by simp⟩
structure LI (k : Nat) (rs : List Rw) (b : Rat) : Prop where
  len : rs.length = k
  sb : Gr LB (k * 2 ^ 122) b
  sm : ∀ r, r ∈ rs → Gr LB (k * 2 ^ 122) r.bg ∧ Gr (LB * 6) (k * 2 ^ 127) r.vl ∧ Gr (LB * 6) (k * 2 ^ 127) r.bh ∧ Gr 6 24 r.sl
  z : rs = [] → b = 0
  la : ∀ l, rs.getLast? = some l → areR rs = true ∧ l.bg < b ∧ Gr LB (2 ^ 122) (b - l.bg)
theorem LI.smR {k : Nat} {rs : List Rw} {b : Rat} (g : LI k rs b) (hk : k ≤ 60) : ∀ r, r ∈ rs → SmR 140 r := fun r h => by
  obtain ⟨a, b, c, d⟩ := g.sm r h
  have h1 : k * 2 ^ 122 ≤ 60 * 2 ^ 122 := Nat.mul_le_mul_right _ hk
  have h2 : k * 2 ^ 127 ≤ 60 * 2 ^ 127 := Nat.mul_le_mul_right _ hk
  exact ⟨a.smQ (by decide) (by decide) (Nat.lt_of_le_of_lt h1 (by decide)), b.smQ (by decide) (by decide) (Nat.lt_of_le_of_lt h2 (by decide)), c.smQ (by decide) (by decide) (Nat.lt_of_le_of_lt h2 (by decide)), d.smQ (by decide) (by decide) (by decide)⟩
theorem LI.sbS {k : Nat} {rs : List Rw} {b : Rat} (g : LI k rs b) (hk : k ≤ 60) : SmQ 140 b :=
  g.sb.smQ (by decide) (by decide) (Nat.lt_of_le_of_lt (Nat.mul_le_mul_right _ hk) (by decide))
theorem LI.snoc {k : Nat} {rs : List Rw} {b vl bh sl gp : Rat} (g : LI k rs b) (h1 : Gr (LB * 6) ((k + 1) * 2 ^ 127) vl) (h2 : Gr (LB * 6) ((k + 1) * 2 ^ 127) bh) (h3 : Gr 6 24 sl) (h4 : Gr LB (2 ^ 122) gp) (h5 : 0 < gp) : LI (k + 1) (rs ++ [⟨b, vl, bh, sl⟩]) (b + gp) where
  len := by rw [List.length_append, g.len]; rfl
  sb := (g.sb.add h4).mono (by omega)
  sm := fun r h => by
    rcases List.mem_append.mp h with h | h
    · obtain ⟨a, b, c, d⟩ := g.sm r h
      exact ⟨a.mono (by omega), b.mono (by omega), c.mono (by omega), d⟩
    · rw [List.mem_singleton] at h; subst h
      exact ⟨g.sb.mono (by omega), h1, h2, h3⟩
  z := fun h => by simp at h
  la := fun l h => by
    rw [List.getLast?_append] at h
    simp at h
    subst h
    refine ⟨?_, by show b < b + gp; grind, by show Gr LB (2 ^ 122) (b + gp - b); rw [show b + gp - b = gp by grind]; exact h4⟩
    cases hl : rs.getLast? with
    | none =>
      rw [List.getLast?_eq_none_iff] at hl
      subst hl
      simp [areR, g.z rfl, asc_one]
    | some l =>
      rw [areR_snoc hl]
      obtain ⟨a1, a2, _⟩ := g.la l hl
      simp [a1, a2]
theorem third : Rat.divInt 1 3 = 1 / 3 := by rw [Rat.divInt_eq_div]; rfl
theorem pt_third : D.tup [.int 1, .int 3] = pt (Rat.divInt 1 3) := rfl
theorem line_step (c n : Int) (i : Nat) (hi : i < 60) (rs : List Rw) (b : Rat) (x5 x6 x7 x8 : Option Sl) (g : LI i rs b) :
    ∃ (rs' : List Rw) (b' : Rat) (y5 y6 y7 y8 : Option Sl), s__law_line_l1 [some (.frz (.int c)), some (.frz (.int n)), some (.own (rs.map rw)), some (.frz (pt b)), some (.frz (.int (i : Int))), x5, x6, x7, x8] =
      .next [some (.frz (.int c)), some (.frz (.int n)), some (.own (rs'.map rw)), some (.frz (pt b')), some (.frz (.int (i : Int))), y5, y6, y7, y8] ∧ LI (i + 1) rs' b' := by
  have f1 := mixed (c := c) (k := 200 + (i : Int)) (by omega) (by omega)
  have f2 := mixed (c := c) (k := 230 + (i : Int)) (by omega) (by omega)
  have f3 := mixed (c := c) (k := 260 + (i : Int)) (by omega) (by omega)
  have f4 := mixed (c := c) (k := 290 + (i : Int)) (by omega) (by omega)
  have n1 := mix_nn c (200 + (i : Int))
  generalize mix c (200 + (i : Int)) = a1 at *
  obtain ⟨v0, e2, g2, _⟩ := b_amount (mix c (230 + (i : Int))) (-9) (.inl rfl)
  obtain ⟨w0, e3, g3, _⟩ := b_amount (mix c (260 + (i : Int))) (-9) (.inl rfl)
  obtain ⟨gp, e4, g4, p4⟩ := b_amount (mix c (290 + (i : Int))) 0 (.inr rfl)
  have G2 : Gr (LB * 6) ((i + 1) * 2 ^ 127) v0 := (g2.scale 6).mono (by omega)
  have G3 : Gr (LB * 6) ((i + 1) * 2 ^ 127) w0 := (g3.scale 6).mono (by omega)
  have hden : 0 < 1 + a1 / 3 / 640 % 3 := by omega
  obtain ⟨cc, hcc, hcc2⟩ : ∃ cc : Nat, (1 + a1 / 3 / 640 % 3) * (cc : Int) = ((6 : Nat) : Int) ∧ cc ≤ 6 := by
    have : 1 + a1 / 3 / 640 % 3 = 1 ∨ 1 + a1 / 3 / 640 % 3 = 2 ∨ 1 + a1 / 3 / 640 % 3 = 3 := by omega
    rcases this with h | h | h <;> rw [h]
    · exact ⟨6, by decide, by decide⟩
    · exact ⟨3, by decide, by decide⟩
    · exact ⟨2, by decide, by decide⟩
  have e5 := low (u := a1 / 3 / 64 % 9 - 4) (v := 1 + a1 / 3 / 640 % 3) (n := 20) (by decide) (by decide) hden (by unfold Sm; omega)
  have G5 : Gr 6 24 (Rat.divInt (a1 / 3 / 64 % 9 - 4) (1 + a1 / 3 / 640 % 3)) := Gr.div hden hcc (Nat.le_trans (Nat.mul_le_mul (show (a1 / 3 / 64 % 9 - 4).natAbs ≤ 4 by omega) hcc2) (by decide))
  generalize Rat.divInt (a1 / 3 / 64 % 9 - 4) (1 + a1 / 3 / 640 % 3) = sl at *
  have hlen : rs.length < PySem.sizeLine := by rw [PySem.sizeLine_eq, g.len]; omega
  have e0 := neD_nil rs
  have sm := g.smR (by omega)
  have sbS := g.sbS (by omega)
  obtain ⟨v, s5, Gv⟩ : ∃ v : Rat, (sIf (tAndB (tVal (dBin neD (dVarR 2) (dLst aNil))) (tVal (dBin gtD (dBin modD (dVarR 5) (dC (.int 4))) (dC (.int 0)))))
    (sSet 6 (dCall d__law_come (aCons (dBin ixD (dVarR 2) (dUn negD (dC (.int 1)))) (aCons (dVar 3) aNil))))
    bNil) [some (.frz (.int c)), some (.frz (.int n)), some (.own (rs.map rw)), some (.frz (pt b)), some (.frz (.int (i : Int))), some (.frz (.int (a1 / 3))), some (.frz (pt v0)), some (.frz (pt w0)), some (.frz (pt sl))] =
      .next [some (.frz (.int c)), some (.frz (.int n)), some (.own (rs.map rw)), some (.frz (pt b)), some (.frz (.int (i : Int))), some (.frz (.int (a1 / 3))), some (.frz (pt v)), some (.frz (pt w0)), some (.frz (pt sl))] ∧ Gr (LB * 6) ((i + 1) * 2 ^ 127) v := by
    cases hl : rs.getLast? with
    | none =>
      have hnil : rs = [] := List.getLast?_eq_none_iff.mp hl
      rw [decide_eq_true hnil] at e0
      exact ⟨v0, by simp [e0], G2⟩
    | some l =>
      have hne : rs ≠ [] := fun z => by rw [z] at hl; simp at hl
      rw [decide_eq_false hne] at e0
      by_cases h : 0 < a1 / 3 % 4
      · have hm : l ∈ rs := List.mem_of_getLast? hl
        obtain ⟨ar, lt, dif⟩ := g.la l hl
        have ec := b_come (sm l hm) sbS (by decide) (by decide) (by decide)
        obtain ⟨t1, t2, t3, t4⟩ := g.sm l hm
        refine ⟨comes l b, by simp [e0, modD_int, h, atI_last, hl, ec], ?_⟩
        have m1 := dif.mul t4
        have m2 := t3.add m1
        unfold comes
        rw [Rat.mul_comm l.sl]
        exact m2.mono (by omega)
      · exact ⟨v0, by simp [e0, modD_int, h], G2⟩
  obtain ⟨w, s6, Gw⟩ : ∃ w : Rat, (sIf (tVal (dBin gtD (dBin modD (dBin fdivD (dVarR 5) (dC (.int 4))) (dC (.int 4))) (dC (.int 0))))
    (sSet 7 (dVar 6))
    bNil) [some (.frz (.int c)), some (.frz (.int n)), some (.own (rs.map rw)), some (.frz (pt b)), some (.frz (.int (i : Int))), some (.frz (.int (a1 / 3))), some (.frz (pt v)), some (.frz (pt w0)), some (.frz (pt sl))] =
      .next [some (.frz (.int c)), some (.frz (.int n)), some (.own (rs.map rw)), some (.frz (pt b)), some (.frz (.int (i : Int))), some (.frz (.int (a1 / 3))), some (.frz (pt v)), some (.frz (pt w)), some (.frz (pt sl))] ∧ Gr (LB * 6) ((i + 1) * 2 ^ 127) w := by
    by_cases h : 0 < a1 / 3 / 4 % 4
    · exact ⟨v, by simp [fdiv_lit, modD_int, h], Gv⟩
    · exact ⟨w0, by simp [fdiv_lit, modD_int, h], G3⟩
  have gthird : Gr LB LB (Rat.divInt 1 3) := Gr.div (c := 28000084) (by decide) (by decide) (by decide)
  have ggap : Gr LB (2 ^ 122) (gp + Rat.divInt 1 3) := (g4.add gthird).mono (by decide)
  have hgap : 0 < gp + Rat.divInt 1 3 := by
    have h3 : (0 : Rat) < Rat.divInt 1 3 := div_pos (by decide) (by decide)
    have p4' : (0 : Rat) ≤ gp := p4
    grind
  have q1 := b_sum (p := gp) (q := Rat.divInt 1 3) (g4.smQ (n := 130) (by decide) (by decide) (by decide)) (gthird.smQ (n := 130) (by decide) (by decide) (by decide)) (by decide) (by decide) (by decide)
  have q2 := b_sum (p := b) (q := gp + Rat.divInt 1 3) sbS (ggap.smQ (n := 130) (by decide) (by decide) (by decide)) (by decide) (by decide) (by decide)
  refine ⟨rs ++ [(⟨b, v, w, sl⟩ : Rw)], b + (gp + Rat.divInt 1 3), some (.frz (.int (a1 / 3))), some (.frz (pt v)), some (.frz (pt w)), some (.frz (pt sl)), ?_, g.snoc Gv Gw G5 ggap hgap⟩
  unfold s__law_line_l1
  refine (bseq_next (by simp [f1, fdiv_lit]; rfl)).trans ?_
  refine (bseq_next (by simp [f2, e2]; rfl)).trans ?_
  refine (bseq_next (by simp [f3, e3]; rfl)).trans ?_
  refine (bseq_next (by simp [fdiv_lit, modD_int, e5]; rfl)).trans ?_
  refine (bseq_next s5).trans ?_
  refine (bseq_next s6).trans ?_
  refine (bseq_next (by simp [sApp, hlen]; rfl)).trans ?_
  simp [f4, e4, pt_third, q1, q2, rw]
theorem line_loop (c : Int) (n : Nat) (hn : n ≤ 60) : ∃ (rs : List Rw) (b : Rat) (x4 x5 x6 x7 x8 : Option Sl), forD (.nm 4) s__law_line_l1 (rangeL 0 n) [some (.frz (.int c)), some (.frz (.int (n : Int))), some (.own []), some (.frz (pt 0)), none, none, none, none, none] =
    .next [some (.frz (.int c)), some (.frz (.int (n : Int))), some (.own (rs.map rw)), some (.frz (pt b)), x4, x5, x6, x7, x8] ∧ LI n rs b := by
  obtain ⟨ρ', e, rs, b, x4, x5, x6, x7, x8, rfl, g⟩ := forD_inv (T := .nm 4) (body := s__law_line_l1)
    (fun k ρ => ∃ (rs : List Rw) (b : Rat) (x4 x5 x6 x7 x8 : Option Sl), ρ = [some (.frz (.int c)), some (.frz (.int (n : Int))), some (.own (rs.map rw)), some (.frz (pt b)), x4, x5, x6, x7, x8] ∧ LI k rs b) (rangeL 0 n) 0
    [some (.frz (.int c)), some (.frz (.int (n : Int))), some (.own []), some (.frz (pt 0)), none, none, none, none, none]
    ⟨[], 0, none, none, none, none, none, rfl, ⟨rfl, grz, by simp, fun _ => rfl, by simp⟩⟩ (by
      rintro i d ρ hd ⟨rs, b, x4, x5, x6, x7, x8, rfl, g⟩
      rw [Nat.zero_add] at *
      obtain ⟨hi, rfl⟩ := range0_get hd
      obtain ⟨rs', b', y5, y6, y7, y8, h1, h2⟩ := line_step c n i (by omega) rs b x5 x6 x7 x8 g
      exact ⟨_, _, rfl, .inl h1, rs', b', _, _, _, _, _, rfl, h2⟩)
  have hg : (rangeL 0 n).length = n := by unfold rangeL; simp
  rw [Nat.zero_add, hg] at g
  exact ⟨rs, b, x4, x5, x6, x7, x8, e, g⟩
/-- a line of at most n rows of numbers of less than b bits -/
structure Ln (n b : Nat) (rs : List Rw) : Prop where
  ar : areR rs = true
  th : thin rs = rs
  sm : ∀ r, r ∈ rs → SmR b r
  len : rs.length ≤ n
theorem LI.areR {k : Nat} {rs : List Rw} {b : Rat} (g : LI k rs b) (hk : 0 < k) : areR rs = true := by
  cases h : rs.getLast? with
  | none =>
    have := g.len
    rw [List.getLast?_eq_none_iff.mp h] at this
    simp at this
    omega
  | some l => exact (g.la l h).1
theorem ln_of {d : D} {rs : List Rw} {b : Nat} (hd : SeqD (rs.map rw) d) (ar : areR rs = true) (sm : ∀ r, r ∈ rs → SmR b r) (hb : 0 < b) (h : 4 * b + 1 ≤ 9000) (hl : rs.length ≤ 300) : d_line_of [d] = .ok (.tup ((thin rs).map rw)) ∧ Ln rs.length b (thin rs) := by
  have tl := thin_len rs
  have lo := line_of hd sm hb h (by omega)
  rw [if_pos ar, if_pos (by omega)] at lo
  exact ⟨lo, thin_areR ar, thin_thin rs, thin_mem sm, tl⟩
theorem b_line (c : Int) (n : Nat) (h0 : 0 < n) (hn : n ≤ 60) : ∃ rs : List Rw, d__law_line [.int c, .int (n : Int)] = .ok (.tup (rs.map rw)) ∧ Ln n 140 rs := by
  obtain ⟨rs, b, x4, x5, x6, x7, x8, e, g⟩ := line_loop c n hn
  have er := rng1_nat (n := n) (by omega)
  obtain ⟨lo, L⟩ := ln_of (d := .lst (rs.map rw)) .lst (g.areR h0) (g.smR hn) (by decide) (by decide) (by rw [g.len]; omega)
  rw [g.len] at L
  refine ⟨thin rs, runB_ret ?_, L⟩
  show s__law_line [some (.frz (.int c)), some (.frz (.int (n : Int))), none, none, none, none, none, none, none] = _
  unfold s__law_line
  refine (bseq_next (by simp; rfl)).trans ?_
  refine (bseq_next (ρ' := [some (.frz (.int c)), some (.frz (.int (n : Int))), some (.own []), some (.frz (pt 0)), none, none, none, none, none]) (by simp [nought])).trans ?_
  have hi : iRng (aCons (dVarR 1) aNil) [some (.frz (.int c)), some (.frz (.int (n : Int))), some (.own []), some (.frz (pt 0)), none, none, none, none, none] = .ok (rangeL 0 n) := by
    rw [iRng_ev, aCons_ev, dVarR_s, dVarR_0, bind_ok', aNil_ev, bind_ok', bind_ok', er]
  refine (bseq_next (by rw [sFor_ev, hi, lift_ok, e])).trans ?_
  simp [sFrz, frzE, lo]
/-! ### values by filtering -/
theorem nlt {p q : Rat} (h : q ≤ p) : (!decide (p < q)) = true := by
  have : ¬ p < q := by grind
  simp [this]
theorem last_filter {rs : List Rw} (ha : areR rs = true) {p : Rat} (hp : 0 ≤ p) : (rs.filter fun r => !decide (p < r.bg)).getLast? = some (lineAt rs p) := by
  obtain ⟨m1, m2⟩ := lineAt_le ha hp
  have hm : lineAt rs p ∈ rs.filter fun r => !decide (p < r.bg) := List.mem_filter.mpr ⟨m1, nlt m2⟩
  have hpw := (areR_pw ha).filter fun r => !decide (p < r.bg)
  cases h : (rs.filter fun r => !decide (p < r.bg)).getLast? with
  | none => rw [List.getLast?_eq_none_iff.mp h] at hm; simp at hm
  | some l =>
    congr 1
    have hl := List.mem_of_getLast? h
    obtain ⟨qs, e⟩ := List.getLast?_eq_some_iff.mp h
    have hl2 := List.mem_filter.mp hl
    refine (lineAt_uniq ha hp hl2.1 (by have := hl2.2; simp at this; grind) fun y hy hyp => ?_).symm
    have hy2 : y ∈ rs.filter fun r => !decide (p < r.bg) := List.mem_filter.mpr ⟨hy, nlt hyp⟩
    rw [e] at hpw hy2
    rcases List.mem_append.mp hy2 with h1 | h1
    · have := (pw_snoc hpw).2 y h1; grind
    · rw [List.mem_singleton] at h1; rw [h1]; exact Std.le_refl _
end FVP

/-! FVB3: values by the law, alike things, loops that return. -/
namespace FVP
open FV
open L2 (atI)
theorem comp_typed {α : Type} {T : Tg} {t : En → Res Bool} {e : Den} {ρ : En} (g : α → D) (p : α → Bool) (f : α → D) : ∀ (xs : List α), (∀ x, x ∈ xs → ∃ ρ1, asg T (g x) ρ = .ok ρ1 ∧ t ρ1 = .ok (p x) ∧ (p x = true → e ρ1 = .ok (f x))) → compD T t e (xs.map g) ρ = .ok ((xs.filter p).map f)
  | [], _ => rfl
  | x :: xs, h => by
    obtain ⟨ρ1, e1, e2, e3⟩ := h x (by simp)
    have ih := comp_typed g p f xs fun y hy => h y (List.mem_cons_of_mem _ hy)
    rw [List.map_cons]
    unfold compD
    rw [e1, bind_ok', e2, bind_ok']
    cases q : p x with
    | true => rw [if_pos rfl, e3 q, bind_ok', ih]; simp [q]
    | false => rw [if_neg (by simp), ih]; simp [q]
/-- .. without a test -/
theorem comp_all {α : Type} {T : Tg} {t : En → Res Bool} {e : Den} {ρ : En} (g : α → D) (f : α → D) (xs : List α) (h : ∀ x, x ∈ xs → ∃ ρ1, asg T (g x) ρ = .ok ρ1 ∧ t ρ1 = .ok true ∧ e ρ1 = .ok (f x)) : compD T t e (xs.map g) ρ = .ok (xs.map f) := by
  have := comp_typed (T := T) (t := t) (e := e) (ρ := ρ) g (fun _ => true) f xs fun x hx => let ⟨ρ1, a, b, c⟩ := h x hx; ⟨ρ1, a, b, fun _ => c⟩
  rw [List.filter_eq_self.mpr (fun _ _ => rfl)] at this
  exact this
theorem dComp_ok {f : DenI} {vs : List Nat} {T : Tg} {t : En → Res Bool} {g : Den} {ρ : En} {ds es : List D} (h : f ρ = .ok ds) (hl : ds.length < 1000000) (hc : compD T t g ds (wipeE ρ vs) = .ok es) : dComp f vs T t g ρ = .ok (.lst es) := by
  have hz : ds.length ≤ PySem.sizeLine := by rw [PySem.sizeLine_eq]; omega
  rw [dComp_ev, h, bind_ok', if_pos hz, hc]
  rfl
/-- a for that may return -/
theorem forD_ret {α : Type} {T : Tg} {body : SDen} (g : α → D) (I : En → Prop) (f : α → Option D) : ∀ (xs : List α) (ρ : En), I ρ →
    (∀ x, x ∈ xs → ∀ ρ, I ρ → ∃ ρ1, asg T (g x) ρ = .ok ρ1 ∧ ((∃ r, f x = some r ∧ body ρ1 = .ret r) ∨ (f x = none ∧ ∃ ρ2, (body ρ1 = .next ρ2 ∨ body ρ1 = .cont ρ2) ∧ I ρ2))) →
    (∃ r, xs.findSome? f = some r ∧ forD T body (xs.map g) ρ = .ret r) ∨ (xs.findSome? f = none ∧ ∃ ρ', forD T body (xs.map g) ρ = .next ρ' ∧ I ρ')
  | [], ρ, h0, _ => .inr ⟨rfl, ρ, rfl, h0⟩
  | x :: xs, ρ, h0, hs => by
    obtain ⟨ρ1, e1, h⟩ := hs x (by simp) ρ h0
    rw [List.map_cons]
    unfold forD
    rw [e1]
    rcases h with ⟨r, hf, hb⟩ | ⟨hf, ρ2, hb, hi⟩
    · left
      exact ⟨r, by simp [hf], by simp only [hb]⟩
    · rcases forD_ret g I f xs ρ2 hi (fun y hy => hs y (List.mem_cons_of_mem _ hy)) with ⟨r, a, b⟩ | ⟨a, ρ', b, c⟩
      · left
        refine ⟨r, by simp [hf, a], ?_⟩
        rcases hb with hb | hb <;> simp only [hb] <;> exact b
      · right
        refine ⟨by simp [hf, a], ρ', ?_, c⟩
        rcases hb with hb | hb <;> simp only [hb] <;> exact b
theorem eqD_self {b : Bool} {n : Nat} {d : D} (h : Pl b n d) (hn : n ≤ 64) : eqD d d = .ok (.bl true) := by
  rw [eqD_pl h h hn hn]; simp
theorem neD_self {b : Bool} {n : Nat} {d : D} (h : Pl b n d) (hn : n ≤ 64) : neD d d = .ok (.bl false) := by
  rw [neD_pl h h hn hn]; simp
theorem b_at {rs : List Rw} {p : Rat} {b c : Nat} (ha : areR rs = true) (hs : ∀ r, r ∈ rs → SmR b r) (hq : SmQ c p) (hp : 0 ≤ p) (hb : 0 < b) (hc : 0 < c) (h : 3 * b + c + 1 ≤ 9000) (hl : rs.length < 1000000) :
    d__law_at [.tup (rs.map rw), pt p] = .ok (pt (valAt rs p)) := by
  have hcmp : ∀ x y, compD (.nm 3) (tNotB (tVal (dCall d__law_under (aCons (dVar 1) (aCons (dBin ixD (dVarR 3) (dC (.int 0))) aNil))))) (dVar 3) (rs.map rw) [x, some (.frz (pt p)), y, none] = .ok ((rs.filter fun r => !decide (p < r.bg)).map rw) := fun x y =>
    comp_typed rw (fun r => !decide (p < r.bg)) rw rs fun r hr => ⟨_, rfl, by simp [b_under hq (hs r hr).1 hc hb (by omega)], fun _ => by simp⟩
  have hm := lineAt_le ha hp
  have ec := b_come (hs _ hm.1) hq hb hc h
  have ee := eqD_pt (p := (lineAt rs p).bg) (q := p)
  have e2 := dComp_ok (f := iSeq (dVarR 0)) (vs := [3]) (ρ := [some (.frz (.tup (rs.map rw))), some (.frz (pt p)), none, none]) (ds := rs.map rw) (by simp) (by simpa using hl) (hcmp _ _)
  refine runB_ret ?_
  show s__law_at [some (.frz (.tup (rs.map rw))), some (.frz (pt p)), none, none] = _
  unfold s__law_at
  refine (bseq_next (ρ' := [some (.frz (.tup (rs.map rw))), some (.frz (pt p)), some (.frz (rw (lineAt rs p))), none]) (by simp [e2, atI_last, last_filter ha hp])).trans ?_
  unfold valAt valR
  by_cases hbp : (lineAt rs p).bg = p
  · have e3 := eqD_pt (p := p) (q := p)
    simp [e3, hbp]
  · rw [decide_eq_false hbp] at ee
    simp [ee, hbp, ec]
/-! ### alike -/
/-- plain things, n deep -/
inductive Al : Nat → D → Prop
  | non {n : Nat} : Al n .non
  | str {n : Nat} {x : PySem.Str} (h : PySem.PyData.strOk x = true) : Al n (.str x)
  | int {n : Nat} {i : Int} : Al n (.int i)
  | bl {n : Nat} {v : Bool} : Al n (.bl v)
  | tup {n : Nat} {ds : List D} (h : ∀ d, d ∈ ds → Al n d) (hl : ds.length < 100000) : Al (n + 1) (.tup ds)
  | lst {n : Nat} {ds : List D} (h : ∀ d, d ∈ ds → Al n d) (hl : ds.length < 100000) : Al (n + 1) (.lst ds)
theorem bl2 {a b : Bool} : neD (.lst [.bl a, .bl b]) (.lst [.bl a, .bl b]) = .ok (.bl false) :=
  neD_self (b := true) (n := 1) (.lst fun d h => by
    simp only [List.mem_cons, List.not_mem_nil, or_false] at h
    rcases h with rfl | rfl <;> exact .bl rfl) (by omega)
theorem alike_comp {f : List D → Res D} {g : D → D} (ds es : List D) (hl : ds.length = es.length) (h : ∀ (i : Nat) d e, ds[i]? = some d → es[i]? = some e → f [d, e] = .ok (.bl true)) (a b : D) (ha : ∀ (i : Nat) d, ds[i]? = some d → ixD a (.int (i : Int)) = .ok d) (hb : ∀ (i : Nat) d, es[i]? = some d → ixD b (.int (i : Int)) = .ok d) (y : Option Sl) :
    compD (.nm 3) tYesB (dCall f (aCons (dBin ixD (dVarR 0) (dVarR 3)) (aCons (dBin ixD (dVarR 1) (dVarR 3)) aNil))) (rangeL 0 es.length) [some (.frz a), some (.frz b), y, none] = .ok ((rangeL 0 es.length).map fun _ => .bl true) := by
  refine comp_map (fun _ => .bl true) _ fun d hd => ?_
  obtain ⟨i, hi⟩ := List.getElem?_of_mem hd
  obtain ⟨h1, rfl⟩ := range0_get hi
  have q1 := List.getElem?_eq_getElem (l := ds) (i := i) (by omega)
  have q2 := List.getElem?_eq_getElem (l := es) (i := i) (by omega)
  exact ⟨_, rfl, rfl, by simp [ha i _ q1, hb i _ q2, h i _ _ q1 q2]⟩
theorem dn_step (k : Nat) (ds : List D) : dn__law_alike_b (k + 1) ds = runB (s__law_alike_b (dn__law_alike_b k)) 4 ds := by rw [dn__law_alike_b]
theorem alike_non (k : Nat) : dn__law_alike_b (k + 1) [.non, .non] = .ok (.bl true) := by
  rw [dn_step]
  refine runB_ret ?_
  show s__law_alike_b _ [some (.frz .non), some (.frz .non), none, none] = _
  unfold s__law_alike_b
  simp [isD, D.isNon]
theorem alike_str (k : Nat) {x : PySem.Str} (hx : PySem.PyData.strOk x = true) : dn__law_alike_b (k + 1) [.str x, .str x] = .ok (.bl true) := by
  have e := eqD_self (b := false) (n := 0) (.str hx) (by omega)
  have e1 := neD_bl (i := true) (j := true)
  have e2 := neD_bl (i := false) (j := false)
  rw [dn_step]
  refine runB_ret ?_
  show s__law_alike_b _ [some (.frz (.str x)), some (.frz (.str x)), none, none] = _
  unfold s__law_alike_b
  simp [isD, D.isNon, isi2D, isiD, isSub, e, e1, e2]
theorem alike_int (k : Nat) {i : Int} : dn__law_alike_b (k + 1) [.int i, .int i] = .ok (.bl true) := by
  have e : eqD (.int i) (.int i) = .ok (.bl true) := eqD_self (b := false) (n := 0) (.int rfl) (by omega)
  have e2 : neD (.bl false) (.bl false) = .ok (.bl false) := neD_self (b := true) (n := 0) (.bl rfl) (by omega)
  rw [dn_step]
  refine runB_ret ?_
  show s__law_alike_b _ [some (.frz (.int i)), some (.frz (.int i)), none, none] = _
  unfold s__law_alike_b
  simp [isD, D.isNon, isi2D, isiD, isSub, e, e2]
theorem alike_bl (k : Nat) {i : Bool} : dn__law_alike_b (k + 1) [.bl i, .bl i] = .ok (.bl true) := by
  have e : eqD (.bl i) (.bl i) = .ok (.bl true) := eqD_self (b := true) (n := 0) (.bl rfl) (by omega)
  have e1 : neD (.bl true) (.bl true) = .ok (.bl false) := neD_self (b := true) (n := 0) (.bl rfl) (by omega)
  have e2 : neD (.bl false) (.bl false) = .ok (.bl false) := neD_self (b := true) (n := 0) (.bl rfl) (by omega)
  rw [dn_step]
  refine runB_ret ?_
  show s__law_alike_b _ [some (.frz (.bl i)), some (.frz (.bl i)), none, none] = _
  unfold s__law_alike_b
  simp [isD, D.isNon, isi2D, isiD, isSub, e, e1, e2]
theorem alike_tup (k : Nat) {ds : List D} (hl : ds.length < 100000) (ih : ∀ d, d ∈ ds → dn__law_alike_b k [d, d] = .ok (.bl true)) : dn__law_alike_b (k + 1) [.tup ds, .tup ds] = .ok (.bl true) := by
  have e2 := bl2 (a := false) (b := true)
  have e3 : neD (.int (ds.length : Int)) (.int (ds.length : Int)) = .ok (.bl false) := neD_self (b := false) (n := 0) (.int rfl) (by omega)
  have er := rng1_nat (n := ds.length) (by omega)
  have ec := alike_comp (f := dn__law_alike_b k) (g := id) ds ds rfl (fun i d e h1 h2 => by rw [h1] at h2; cases h2; exact ih d (List.mem_of_getElem? h1)) (.tup ds) (.tup ds) (fun i d h => by simp [h]) (fun i d h => by simp [h]) (some (.frz (.lst [.bl false, .bl true])))
  have hg : (rangeL 0 ds.length).length = ds.length := by unfold rangeL; simp
  have ea : allD [.lst ((rangeL 0 ds.length).map fun _ => .bl true)] = .ok (.bl true) := by rw [all_map (fun _ : D => true)]; simp
  have hi : ∀ z : Option Sl, iRng (aCons (dCall lenD (aCons (dVarR 1) aNil)) aNil) [some (.frz (.tup ds)), some (.frz (.tup ds)), z, none] = .ok (rangeL 0 ds.length) := fun z => by
    rw [iRng_ev, aCons_ev, dCall_ev, aCons_ev, dVarR_s, dVarR_0, bind_ok', aNil_ev, bind_ok', bind_ok', lenD_tup, bind_ok', bind_ok', bind_ok']
    exact er
  have ed := dComp_ok (vs := [3]) (hi (some (.frz (.lst [.bl false, .bl true])))) (by rw [hg]; omega) ec
  rw [dn_step]
  refine runB_ret ?_
  show s__law_alike_b _ [some (.frz (.tup ds)), some (.frz (.tup ds)), none, none] = _
  unfold s__law_alike_b
  refine (bseq_next (ρ' := [some (.frz (.tup ds)), some (.frz (.tup ds)), none, none]) (by simp [isD, D.isNon])).trans ?_
  refine bseq_ret ?_
  rw [sIf_ev]
  have t1 : tVal (dUn (isi2D "list" "tuple") (dVarR 1)) [some (.frz (.tup ds)), some (.frz (.tup ds)), none, none] = .ok true := by simp [isi2D, isSub]
  rw [t1, lift_ok, if_pos rfl]
  refine (bseq_next (ρ' := [some (.frz (.tup ds)), some (.frz (.tup ds)), some (.frz (.lst [.bl false, .bl true])), none]) (by simp [isiD, isSub])).trans ?_
  refine (bseq_next (ρ' := [some (.frz (.tup ds)), some (.frz (.tup ds)), some (.frz (.lst [.bl false, .bl true])), none]) (by simp [isiD, isSub, e2, e3])).trans ?_
  rw [sRet_ev, dCall_ev, aCons_ev, ed, bind_ok', aNil_ev, bind_ok', bind_ok', ea, lift_ok]
theorem alike_lst (k : Nat) {ds : List D} (hl : ds.length < 100000) (ih : ∀ d, d ∈ ds → dn__law_alike_b k [d, d] = .ok (.bl true)) : dn__law_alike_b (k + 1) [.lst ds, .lst ds] = .ok (.bl true) := by
  have e2 := bl2 (a := true) (b := false)
  have e3 : neD (.int (ds.length : Int)) (.int (ds.length : Int)) = .ok (.bl false) := neD_self (b := false) (n := 0) (.int rfl) (by omega)
  have er := rng1_nat (n := ds.length) (by omega)
  have ec := alike_comp (f := dn__law_alike_b k) (g := id) ds ds rfl (fun i d e h1 h2 => by rw [h1] at h2; cases h2; exact ih d (List.mem_of_getElem? h1)) (.lst ds) (.lst ds) (fun i d h => by simp [h]) (fun i d h => by simp [h]) (some (.frz (.lst [.bl true, .bl false])))
  have hg : (rangeL 0 ds.length).length = ds.length := by unfold rangeL; simp
  have ea : allD [.lst ((rangeL 0 ds.length).map fun _ => .bl true)] = .ok (.bl true) := by rw [all_map (fun _ : D => true)]; simp
  have hi : ∀ z : Option Sl, iRng (aCons (dCall lenD (aCons (dVarR 1) aNil)) aNil) [some (.frz (.lst ds)), some (.frz (.lst ds)), z, none] = .ok (rangeL 0 ds.length) := fun z => by
    rw [iRng_ev, aCons_ev, dCall_ev, aCons_ev, dVarR_s, dVarR_0, bind_ok', aNil_ev, bind_ok', bind_ok', lenD_lst, bind_ok', bind_ok', bind_ok']
    exact er
  have ed := dComp_ok (vs := [3]) (hi (some (.frz (.lst [.bl true, .bl false])))) (by rw [hg]; omega) ec
  rw [dn_step]
  refine runB_ret ?_
  show s__law_alike_b _ [some (.frz (.lst ds)), some (.frz (.lst ds)), none, none] = _
  unfold s__law_alike_b
  refine (bseq_next (ρ' := [some (.frz (.lst ds)), some (.frz (.lst ds)), none, none]) (by simp [isD, D.isNon])).trans ?_
  refine bseq_ret ?_
  rw [sIf_ev]
  have t1 : tVal (dUn (isi2D "list" "tuple") (dVarR 1)) [some (.frz (.lst ds)), some (.frz (.lst ds)), none, none] = .ok true := by simp [isi2D, isSub]
  rw [t1, lift_ok, if_pos rfl]
  refine (bseq_next (ρ' := [some (.frz (.lst ds)), some (.frz (.lst ds)), some (.frz (.lst [.bl true, .bl false])), none]) (by simp [isiD, isSub])).trans ?_
  refine (bseq_next (ρ' := [some (.frz (.lst ds)), some (.frz (.lst ds)), some (.frz (.lst [.bl true, .bl false])), none]) (by simp [isiD, isSub, e2, e3])).trans ?_
  rw [sRet_ev, dCall_ev, aCons_ev, ed, bind_ok', aNil_ev, bind_ok', bind_ok', ea, lift_ok]
theorem alike_same {d : D} {n : Nat} (h : Al n d) : ∀ m, n < m → dn__law_alike_b m [d, d] = .ok (.bl true) := by
  induction h with
  | non => intro m hm; obtain ⟨k, rfl⟩ : ∃ k, m = k + 1 := ⟨m - 1, by omega⟩; exact alike_non k
  | str hx => intro m hm; obtain ⟨k, rfl⟩ : ∃ k, m = k + 1 := ⟨m - 1, by omega⟩; exact alike_str k hx
  | int => intro m hm; obtain ⟨k, rfl⟩ : ∃ k, m = k + 1 := ⟨m - 1, by omega⟩; exact alike_int k
  | bl => intro m hm; obtain ⟨k, rfl⟩ : ∃ k, m = k + 1 := ⟨m - 1, by omega⟩; exact alike_bl k
  | tup h hl ih => intro m hm; obtain ⟨k, rfl⟩ : ∃ k, m = k + 1 := ⟨m - 1, by omega⟩; exact alike_tup k hl fun d hd => ih d hd k (by omega)
  | lst h hl ih => intro m hm; obtain ⟨k, rfl⟩ : ∃ k, m = k + 1 := ⟨m - 1, by omega⟩; exact alike_lst k hl fun d hd => ih d hd k (by omega)
theorem b_alike {d : D} {n : Nat} (h : Al n d) (hn : n < 12) : d__law_alike_b [d, d] = .ok (.bl true) := alike_same h 12 hn
theorem al_pt {n : Nat} (q : Rat) : Al (n + 1) (pt q) := .tup (fun d h => by
  simp only [List.mem_cons, List.not_mem_nil, or_false] at h
  rcases h with rfl | rfl <;> exact .int) (by simp)
end FVP

/-! FVB4: in, ranges, places thirds on. -/
namespace FVP
open FV
open L2 (atI)
theorem iRng1 {f : Den} {ρ : En} {n : Nat} (h : f ρ = .ok (.int (n : Int))) (hn : n < 1000000000) : iRng (aCons f aNil) ρ = .ok (rangeL 0 n) := by
  rw [iRng_ev, aCons_ev, h, bind_ok', aNil_ev, bind_ok', bind_ok']
  exact rng1_nat hn
open PySem.PyData in
open Classical in
theorem any_pl {b : Bool} {n m : Nat} {d : D} {p : PySem.PyData} (hd : Pl b n d) (hp : FV.toP d = some p) : ∀ {ds : List D} {ps : List PySem.PyData}, (∀ e, e ∈ ds → Pl b m e) → FV.toPs ds = some ps → (ps.any fun z => eqv z p) = decide (d ∈ ds)
  | [], ps, _, h => by rw [toPs_nil h]; simp
  | e :: ds, ps, hs, h => by
    obtain ⟨q, qs, h1, h2, rfl⟩ := toPs_cons h
    have ih := any_pl hd hp (fun x hx => hs x (List.mem_cons_of_mem _ hx)) h2
    have e1 := (hs e (by simp)).eqv_iff n d q p hd h1 hp
    rw [List.any_cons, ih]
    by_cases hx : e = d
    · rw [e1.mpr hx]; simp [hx]
    · have : eqv q p = false := by
        cases hq : eqv q p with
        | true => exact absurd (e1.mp hq) hx
        | false => rfl
      rw [this]
      have hx' : ¬ d = e := fun z => hx z.symm
      simp [hx']
open Classical in
theorem inB_pl {b : Bool} {n : Nat} {d : D} {ds : List D} (hd : Pl b n d) (hs : ∀ e, e ∈ ds → Pl b n e) (hn : n + 1 ≤ 64) : inB d (.lst ds) = some (decide (d ∈ ds)) := by
  obtain ⟨p, p1, p2, p3⟩ := hd.toP
  obtain ⟨ps, k1, k2, k3⟩ := toPs_of (n := n) fun e he => (hs e he).toP
  have e0 : inB d (.lst ds) = match FV.toP d, FV.toP (.lst ds) with
      | some p, some (.list qs) => if PySem.SeqAt.shaped p = true ∧ PySem.SeqAt.shaped (.list qs) = true then some (qs.any fun z => PySem.PyData.eqv z p) else none
      | _, _ => none := by cases d <;> rfl
  have e1 : FV.toP (.lst ds) = some (.list ps) := by simp [FV.toP, k1]
  have s1 : PySem.SeqAt.shaped p = true := by unfold PySem.SeqAt.shaped; rw [p2, decide_eq_true (show PySem.PyData.depth p ≤ 64 by omega)]; rfl
  have s2 : PySem.SeqAt.shaped (.list ps) = true := by
    unfold PySem.SeqAt.shaped
    rw [show PySem.PyData.canLay0 (.list ps) = true by simpa [PySem.PyData.canLay0] using k2, decide_eq_true (show PySem.PyData.depth (.list ps) ≤ 64 by simp only [PySem.PyData.depth]; omega)]; rfl
  rw [e0, p1, e1]
  show (if PySem.SeqAt.shaped p = true ∧ PySem.SeqAt.shaped (.list ps) = true then some (ps.any fun z => PySem.PyData.eqv z p) else none) = _
  rw [if_pos ⟨s1, s2⟩, any_pl hd p1 hs k1]
theorem mem_pts {p : Rat} {xs : List Rat} : pt p ∈ xs.map pt ↔ p ∈ xs := by
  constructor
  · intro h
    obtain ⟨q, hq, e⟩ := List.mem_map.mp h
    rw [← pt_inj e]; exact hq
  · intro h; exact List.mem_map_of_mem h
theorem inB_ex {b : Bool} {n : Nat} {d : D} {ds : List D} (hd : Pl b n d) (hs : ∀ e, e ∈ ds → Pl b n e) (hn : n + 1 ≤ 64) : ∃ v : Bool, inB d (.lst ds) = some v ∧ (v = true ↔ d ∈ ds) :=
  ⟨_, inB_pl hd hs hn, by simp⟩
theorem notIn_pts {p : Rat} {xs : List Rat} : notInD (pt p) (.lst (xs.map pt)) = .ok (.bl (!decide (p ∈ xs))) := by
  obtain ⟨v, e, h⟩ := inB_ex (n := 1) (pl_pt p) (ds := xs.map pt) (fun e he => by obtain ⟨q, _, rfl⟩ := List.mem_map.mp he; exact pl_pt q) (by omega)
  unfold notInD
  rw [e]
  rw [mem_pts] at h
  by_cases hp : p ∈ xs
  · rw [decide_eq_true hp, h.mpr hp]
  · have : v = false := by cases v with | true => exact absurd (h.mp rfl) hp | false => rfl
    rw [decide_eq_false hp, this]
theorem eqD_dec {b : Bool} {n m : Nat} {d e : D} {P : Prop} [hP : Decidable P] (h1 : Pl b n d) (h2 : Pl b m e) (hn : n ≤ 64) (hm : m ≤ 64) (h : d = e ↔ P) : eqD d e = .ok (.bl (decide P)) := by
  rw [eqD_pl h1 h2 hn hm]
  by_cases hp : P
  · rw [decide_eq_true hp, @decide_eq_true _ (Classical.propDecidable _) (h.mpr hp)]
  · rw [decide_eq_false hp, @decide_eq_false _ (Classical.propDecidable _) (fun z => hp (h.mp z))]
theorem neD_dec {b : Bool} {n m : Nat} {d e : D} {P : Prop} [hP : Decidable P] (h1 : Pl b n d) (h2 : Pl b m e) (hn : n ≤ 64) (hm : m ≤ 64) (h : d = e ↔ P) : neD d e = .ok (.bl (!decide P)) := by
  rw [neD_pl h1 h2 hn hm]
  by_cases hp : P
  · rw [decide_eq_true hp, @decide_eq_true _ (Classical.propDecidable _) (h.mpr hp)]
  · rw [decide_eq_false hp, @decide_eq_false _ (Classical.propDecidable _) (fun z => hp (h.mp z))]
theorem pl_two (a b : Rat) : Pl false 2 (.tup [pt a, pt b]) := .tup fun d h => by
  simp only [List.mem_cons, List.not_mem_nil, or_false] at h
  rcases h with rfl | rfl <;> exact pl_pt _
theorem two_inj {a b c d : Rat} : D.tup [pt a, pt b] = D.tup [pt c, pt d] ↔ a = c ∧ b = d := by
  constructor
  · intro z
    simp only [D.tup.injEq, List.cons.injEq, and_true] at z
    exact ⟨pt_inj z.1, pt_inj z.2⟩
  · rintro ⟨rfl, rfl⟩; rfl
theorem ne_two {a b c d : Rat} : neD (.tup [pt a, pt b]) (.tup [pt c, pt d]) = .ok (.bl (!decide (a = c ∧ b = d))) := neD_dec (pl_two _ _) (pl_two _ _) (by omega) (by omega) two_inj
theorem insD_ok {i k : Nat} {ρ : En} {ds : List D} {b : D} (h : ds.length < 1000000) (hk : k < 1000000) : insD i ρ ds (.int (k : Int)) b = .next (ρ.set i (some (.own (ds.take k ++ [b] ++ ds.drop k)))) := by
  have hz : ds.length < PySem.sizeLine := by rw [PySem.sizeLine_eq]; omega
  show (if ds.length < PySem.sizeLine ∧ 0 ≤ (k : Int) ∧ (k : Int) < 2 ^ 63 then SRes.next (ρ.set i (some (.own (ds.take (k : Int).toNat ++ [b] ++ ds.drop (k : Int).toNat)))) else .stuck) = _
  rw [if_pos ⟨hz, by omega, by omega⟩, Int.toNat_natCast]
theorem insR_in {p : Rat} {xs : List Rat} (h : xs.Pairwise (· < ·)) (hp : p ∈ xs) : insR p xs = xs :=
  up_ext (insR_up h) h fun q => by rw [insR_mem]; constructor
                                   · rintro (rfl | h)
                                     · exact hp
                                     · exact h
                                   · exact .inr
theorem ins_at {p : Rat} {xs : List Rat} (h : xs.Pairwise (· < ·)) (hp : p ∉ xs) : xs.take (xs.filter fun x => decide (x < p)).length ++ [p] ++ xs.drop (xs.filter fun x => decide (x < p)).length = insR p xs := by
  obtain ⟨as, bs, e1, e2, e3, e4⟩ := ins_split (p := p) h
  rw [e2, e4, e1]
  have : ¬ bs.head? = some p := fun z => hp (by rw [e1]; exact List.mem_append_right _ (List.mem_of_head? z))
  rw [if_neg this]
  simp
/-- thirds of the way from a place of some rising ones to the next -/
structure Thirds (P : List Rat) (p d : Rat) : Prop where
  pos : 0 < d
  far : ∀ q, q ∈ P → q ≤ p ∨ p + d + d < q
theorem up_get {P : List Rat} (h : P.Pairwise (· < ·)) {i j : Nat} {x y : Rat} (hij : i < j) (hx : P[i]? = some x) (hy : P[j]? = some y) : x < y := by
  obtain ⟨hi, ei⟩ := List.getElem?_eq_some_iff.mp hx
  obtain ⟨hj, ej⟩ := List.getElem?_eq_some_iff.mp hy
  have := List.pairwise_iff_getElem.mp h i j hi hj hij
  rw [ei, ej] at this
  exact this
theorem up_le {P : List Rat} (h : P.Pairwise (· < ·)) {i : Nat} {x q : Rat} (hx : P[i]? = some x) (hq : q ∈ P) : q ≤ x ∨ ∃ j, i < j ∧ P[j]? = some q := by
  obtain ⟨j, hj⟩ := List.getElem?_of_mem hq
  by_cases hij : i < j
  · exact .inr ⟨j, hij, hj⟩
  · by_cases e : j = i
    · subst e; rw [hx] at hj; cases hj; exact .inl (Std.le_refl _)
    · have := up_get h (i := j) (j := i) (by omega) hj hx; exact .inl (by grind)
theorem thirds_in {P : List Rat} (h : P.Pairwise (· < ·)) {i : Nat} {x y d : Rat} (hx : P[i]? = some x) (hy : P[i + 1]? = some y) (hd : d + d + d = y - x) : Thirds P x d := by
  have hxy := up_get h (by omega) hx hy
  refine ⟨by grind, fun q hq => ?_⟩
  rcases up_le h hx hq with h1 | ⟨j, hj, hq'⟩
  · exact .inl h1
  · right
    by_cases e : j = i + 1
    · subst e; rw [hy] at hq'; cases hq'; grind
    · have := up_get h (i := i + 1) (j := j) (by omega) hy hq'; grind
theorem thirds_last {P : List Rat} (h : P.Pairwise (· < ·)) {i : Nat} {x d : Rat} (hx : P[i]? = some x) (hy : P.length ≤ i + 1) (hd : 0 < d) : Thirds P x d := by
  refine ⟨hd, fun q hq => ?_⟩
  rcases up_le h hx hq with h1 | ⟨j, hj, hq'⟩
  · exact .inl h1
  · have := (List.getElem?_eq_some_iff.mp hq').1; omega
/-- the begins of both are among the places: the rows there are the same just where the values are at three places -/
theorem rowAt_three {rs qs : List Rw} {P : List Rat} (ha : areR rs = true) (hb : areR qs = true) (h1 : ∀ r, r ∈ rs → r.bg ∈ P) (h2 : ∀ r, r ∈ qs → r.bg ∈ P) {p d : Rat} (hp : 0 ≤ p) (T : Thirds P p d)
    (e0 : valAt rs p = valAt qs p) (e1 : valAt rs (p + d) = valAt qs (p + d)) (e2 : valAt rs (p + d + d) = valAt qs (p + d + d)) : rowAt rs p = rowAt qs p :=
  rowAt_eq ha hb hp T.pos (fun r hr => T.far _ (h1 r hr)) (fun r hr => T.far _ (h2 r hr)) e0 e1 e2
theorem val_of_row {rs qs : List Rw} {P : List Rat} (ha : areR rs = true) (hb : areR qs = true) (h1 : ∀ r, r ∈ rs → r.bg ∈ P) (h2 : ∀ r, r ∈ qs → r.bg ∈ P) {p d : Rat} (hp : 0 ≤ p) (T : Thirds P p d)
    (e : rowAt rs p = rowAt qs p) : valAt rs p = valAt qs p ∧ valAt rs (p + d) = valAt qs (p + d) ∧ valAt rs (p + d + d) = valAt qs (p + d + d) := by
  have hd := T.pos
  have w : ∀ (q : Rat), p < q → q ≤ p + d + d → valAt rs q = valAt qs q := fun q hq hq2 => by
    rw [valAt_within ha hp hq (fun r hr => (T.far _ (h1 r hr)).imp id (by intro _; grind)), valAt_within hb hp hq (fun r hr => (T.far _ (h2 r hr)).imp id (by intro _; grind))]
    unfold rowAt rowR at e
    simp only [Rw.mk.injEq, true_and] at e
    obtain ⟨_, a2, a3⟩ := e
    unfold comes at a2 ⊢
    rw [a3] at a2 ⊢
    grind
  refine ⟨?_, w _ (by grind) (by grind), w _ (by grind) (by grind)⟩
  unfold rowAt rowR at e
  simp only [Rw.mk.injEq, true_and] at e
  exact e.1
theorem smR_mono {a b : Nat} {r : Rw} (h : SmR a r) (hab : a ≤ b) : SmR b r := ⟨smQ_mono h.1 hab, smQ_mono h.2.1 hab, smQ_mono h.2.2.1 hab, smQ_mono h.2.2.2 hab⟩
theorem Ln.mono {n m a b : Nat} {rs : List Rw} (h : Ln n a rs) (hn : n ≤ m) (hb : a ≤ b) : Ln m b rs := ⟨h.ar, h.th, fun r hr => smR_mono (h.sm r hr) hb, Nat.le_trans h.len hn⟩
theorem put_ar {rs : List Rw} (ha : areR rs = true) {x : Rw} (hx : 0 ≤ x.bg) : areR ((rs.filter fun r => decide (r.bg < x.bg)) ++ [x] ++ rs.filter fun r => decide (x.bg < r.bg)) = true := by
  obtain ⟨r0, qs, e0, h0, hpw⟩ := areR_iff.mp ha
  have pw : ((rs.filter fun r => decide (r.bg < x.bg)) ++ [x] ++ rs.filter fun r => decide (x.bg < r.bg)).Pairwise fun a b => a.bg < b.bg := by
    rw [List.pairwise_append, List.pairwise_append]
    refine ⟨⟨hpw.filter _, by simp, fun a h1 b h2 => ?_⟩, hpw.filter _, fun a h1 b h2 => ?_⟩
    · rw [List.mem_singleton] at h2; subst h2
      simpa using (List.mem_filter.mp h1).2
    · have hb : x.bg < b.bg := by simpa using (List.mem_filter.mp h2).2
      rcases List.mem_append.mp h1 with h1 | h1
      · have : a.bg < x.bg := by simpa using (List.mem_filter.mp h1).2
        grind
      · rw [List.mem_singleton] at h1; subst h1; exact hb
  rw [areR_iff]
  by_cases hz : 0 < x.bg
  · have hc : (rs.filter fun r => decide (r.bg < x.bg)) = r0 :: (qs.filter fun r => decide (r.bg < x.bg)) := by
      rw [e0, List.filter_cons, h0, decide_eq_true hz]; rfl
    exact ⟨r0, (qs.filter fun r => decide (r.bg < x.bg)) ++ [x] ++ rs.filter fun r => decide (x.bg < r.bg), by rw [hc]; rfl, h0, pw⟩
  · have hxz : x.bg = 0 := by grind
    have hc : (rs.filter fun r => decide (r.bg < x.bg)) = [] := by
      rw [List.filter_eq_nil_iff]
      intro r hr
      have := areR_nn ha hr
      rw [hxz]
      simp only [decide_eq_true_eq]
      grind
    exact ⟨x, rs.filter fun r => decide (x.bg < r.bg), by rw [hc]; rfl, hxz, pw⟩
end FVP

/-! FVA1: the drawn rows of the laws of lines, by multiples of a small part; more rows between. -/
namespace FVP
open FV
open L2 (atI)
structure FJ (B : Nat) (rs : List Rw) (k : Nat) (fs : List Rw) : Prop where
  sm : ∀ r, r ∈ fs → SmR B r
  th : thin fs = thin (rs.take k)
  z : k = 0 → fs = []
  ar : fs = [] ∨ areR fs = true
  la : ∀ l, fs.getLast? = some l → ∀ r, rs[k]? = some r → l.bg < r.bg
  le : fs.length ≤ 2 * k
  ne : 0 < k → fs ≠ []
theorem FJ.row {B : Nat} {rs fs : List Rw} {k : Nat} {r : Rw} (f : FJ B rs k fs) (hr : rs[k]? = some r) (ha : areR rs = true) (hg : SmR B r) : FJ B rs (k + 1) (fs ++ [r]) where
  sm := fun x h => by
    rcases List.mem_append.mp h with h | h
    · exact f.sm x h
    · rw [List.mem_singleton] at h; subst h; exact hg
  th := by rw [thin_snoc, f.th]; exact (take_succ_fold hr).symm
  z := fun h => by omega
  ar := .inr (by
    cases hl : fs.getLast? with
    | none =>
      have e : fs = [] := List.getLast?_eq_none_iff.mp hl
      have hk : k = 0 := by
        cases k with
        | zero => rfl
        | succ k => exact absurd e (f.ne (by omega))
      subst hk; subst e
      cases rs with
      | nil => simp at hr
      | cons a rs =>
        simp at hr; subst hr
        simp only [areR, Bool.and_eq_true] at ha
        simp [areR, asc_one]
        exact of_decide_eq_true ha.1
    | some l =>
      rw [areR_snoc hl, Bool.and_eq_true]
      rcases f.ar with e | e
      · rw [e] at hl; simp at hl
      · exact ⟨e, decide_eq_true (f.la l hl r hr)⟩)
  la := fun l hl r' hr' => by
    rw [List.getLast?_append] at hl
    simp at hl
    subst hl
    exact asc_get ha hr hr'
  le := by simp; have := f.le; omega
  ne := fun _ => by simp
theorem FJ.put {B : Nat} {rs fs : List Rw} {k : Nat} {r x : Rw} (f : FJ B rs (k + 1) (fs ++ [r])) (hx : SmR B x) (h1 : x.sl = r.sl) (h2 : x.vl = x.bh) (h3 : x.vl = comes r x.bg) (h4 : r.bg < x.bg) (h5 : ∀ r', rs[k + 1]? = some r' → x.bg < r'.bg) (h6 : (fs ++ [r]).length ≤ 2 * k + 1) : FJ B rs (k + 1) (fs ++ [r] ++ [x]) where
  sm := fun y h => by
    rcases List.mem_append.mp h with h | h
    · exact f.sm y h
    · rw [List.mem_singleton] at h; subst h; exact hx
  th := by
    rw [thin_snoc, ← f.th, thin_snoc]
    exact absorb h1 h2 h3
  z := fun h => by omega
  ar := .inr (by
    have hl : (fs ++ [r]).getLast? = some r := by simp
    rw [areR_snoc hl, Bool.and_eq_true]
    rcases f.ar with e | e
    · simp at e
    · exact ⟨e, decide_eq_true h4⟩)
  la := fun l hl r' hr' => by
    rw [List.getLast?_append] at hl
    simp at hl
    subst hl
    exact h5 r' hr'
  le := by rw [List.length_append]; simp at h6 ⊢; omega
  ne := fun _ => by simp
theorem filledG_step (c : Int) (rs : List Rw) (ha : areR rs = true) {b B : Nat} (hb0 : 0 < b) (hb9 : b ≤ 2000) (hB : 4 * b + 64 ≤ B) (hs : ∀ r, r ∈ rs → SmR b r) (hn : rs.length ≤ 1000) (k : Nat) (fs : List Rw) (r : Rw) (hr : rs[k]? = some r) (f : FJ B rs k fs) (x5 x6 x7 : Option Sl) :
    ∃ (fs' : List Rw) (y5 y6 y7 : Option Sl), s__law_filled_l1 [some (.frz (.lst (rs.map rw))), some (.frz (.int c)), some (.own (fs.map rw)), some (.frz (.int (k : Int))), some (.frz (rw r)), x5, x6, x7] =
      .next [some (.frz (.lst (rs.map rw))), some (.frz (.int c)), some (.own (fs'.map rw)), some (.frz (.int (k : Int))), some (.frz (rw r)), y5, y6, y7] ∧ FJ B rs (k + 1) fs' := by
  have hm : r ∈ rs := List.mem_of_getElem? hr
  have hk : k < rs.length := (List.getElem?_eq_some_iff.mp hr).1
  have hg := hs r hm
  obtain ⟨gp, e1, q1, q2⟩ := gap_ (mix c (150 + (k : Int)) / 5)
  have f1 := mixed (c := c) (k := 150 + (k : Int)) (by omega) (by omega)
  have m0 := mix_nn c (150 + (k : Int))
  generalize mix c (150 + (k : Int)) = m at *
  have e2 := l_sum hg.1 q1 hb0 (by decide) (by omega)
  have sf : SmQ (b + 61 + 1) (r.bg + gp) := smQ_add hg.1 q1
  have hgB : SmR B r := smR_mono hg (by omega)
  have hlen : fs.length < PySem.sizeLine := by rw [PySem.sizeLine_eq]; have := f.le; omega
  have hlen2 : (fs ++ [r]).length < PySem.sizeLine := by rw [PySem.sizeLine_eq]; have := f.le; simp; omega
  have F1 := f.row hr ha hgB
  have fnp : FJ B rs (k + 1) (fs ++ [r]) := F1
  have ec := l_comes hg sf hb0 (by omega) (by omega)
  have sc : SmQ B (comes r (r.bg + gp)) := smQ_mono (smQ_comes hg sf) (by omega)
  have put : (∀ r', rs[k + 1]? = some r' → r.bg + gp < r'.bg) → FJ B rs (k + 1) (fs ++ [r] ++ [⟨r.bg + gp, comes r (r.bg + gp), comes r (r.bg + gp), r.sl⟩]) := fun h5 =>
    F1.put ⟨smQ_mono sf (by omega), sc, sc, hgB.2.2.2⟩ rfl rfl rfl (by show r.bg < r.bg + gp; grind) h5 (by have := f.le; simp; omega)
  have hrw : rw ⟨r.bg + gp, comes r (r.bg + gp), comes r (r.bg + gp), r.sl⟩ = .tup [pt (r.bg + gp), pt (comes r (r.bg + gp)), pt (comes r (r.bg + gp)), pt r.sl] := rfl
  unfold s__law_filled_l1
  by_cases h3 : m % 3 = 0
  · by_cases h4 : (k : Int) + 1 = (rs.length : Int)
    · refine ⟨fs ++ [r] ++ [(⟨r.bg + gp, comes r (r.bg + gp), comes r (r.bg + gp), r.sl⟩ : Rw)], some (.frz (.int m)), some (.frz (pt (r.bg + gp))), some (.frz (pt (comes r (r.bg + gp)))), ?_, put fun r' hr' => ?_⟩
      · refine (bseq_next (by simp [sApp, hlen]; rfl)).trans ?_
        refine (bseq_next (by simp [f1]; rfl)).trans ?_
        refine (bseq_next (by simp [fdiv_lit, e1, e2]; rfl)).trans ?_
        rw [sIf_ev]
        have t : tAndB (tVal (dBin eqD (dBin modD (dVarR 5) (dC (.int 3))) (dC (.int 0)))) (tOrB (tVal (dBin eqD (dBin addD (dVarR 3) (dC (.int 1))) (dCall lenD (aCons (dVarR 0) aNil)))) (tVal (dCall d__law_is_below (aCons (dVar 6) (aCons (dBin ixD (dBin ixD (dVarR 0) (dBin addD (dVarR 3) (dC (.int 1)))) (dC (.int 0))) aNil))))) [some (.frz (.lst (rs.map rw))), some (.frz (.int c)), some (.own (fs.map rw ++ [rw r])), some (.frz (.int (k : Int))), some (.frz (rw r)), some (.frz (.int m)), some (.frz (pt (r.bg + gp))), x7] = .ok true := by
          simp [modD_int, eqD_int, h3, h4]
        refine (congrArg (fun r => lift r _ _) t).trans ?_
        rw [lift_ok, if_pos rfl]
        refine (bseq_next (by simp [ec]; rfl)).trans ?_
        simp at hlen2
        simp [sApp, hlen2, hrw]
      · have := (List.getElem?_eq_some_iff.mp hr').1; omega
    · obtain ⟨r', hr'⟩ : ∃ r', rs[k + 1]? = some r' := ⟨rs[k + 1]'(by omega), List.getElem?_eq_getElem (by omega)⟩
      have hr2 : r' ∈ rs := List.mem_of_getElem? hr'
      have eb := l_below sf (hs r' hr2).1 (by omega) hb0 (by omega)
      have ix : atI (rs.map rw) ((k : Int) + 1) = some (rw r') := by
        rw [show (k : Int) + 1 = ((k + 1 : Nat) : Int) by omega, atI_cast, List.getElem?_map, hr']; rfl
      have t : tAndB (tVal (dBin eqD (dBin modD (dVarR 5) (dC (.int 3))) (dC (.int 0)))) (tOrB (tVal (dBin eqD (dBin addD (dVarR 3) (dC (.int 1))) (dCall lenD (aCons (dVarR 0) aNil)))) (tVal (dCall d__law_is_below (aCons (dVar 6) (aCons (dBin ixD (dBin ixD (dVarR 0) (dBin addD (dVarR 3) (dC (.int 1)))) (dC (.int 0))) aNil))))) [some (.frz (.lst (rs.map rw))), some (.frz (.int c)), some (.own (fs.map rw ++ [rw r])), some (.frz (.int (k : Int))), some (.frz (rw r)), some (.frz (.int m)), some (.frz (pt (r.bg + gp))), x7] = .ok (decide (r.bg + gp < r'.bg)) := by
          simp [modD_int, eqD_int, h3, h4, ix, eb]
      by_cases h5 : r.bg + gp < r'.bg
      · refine ⟨fs ++ [r] ++ [(⟨r.bg + gp, comes r (r.bg + gp), comes r (r.bg + gp), r.sl⟩ : Rw)], some (.frz (.int m)), some (.frz (pt (r.bg + gp))), some (.frz (pt (comes r (r.bg + gp)))), ?_, put fun r2 hr2' => by rw [hr'] at hr2'; cases hr2'; exact h5⟩
        refine (bseq_next (by simp [sApp, hlen]; rfl)).trans ?_
        refine (bseq_next (by simp [f1]; rfl)).trans ?_
        refine (bseq_next (by simp [fdiv_lit, e1, e2]; rfl)).trans ?_
        rw [sIf_ev]
        rw [decide_eq_true h5] at t
        refine (congrArg (fun r => lift r _ _) t).trans ?_
        rw [lift_ok, if_pos rfl]
        refine (bseq_next (by simp [ec]; rfl)).trans ?_
        simp at hlen2
        simp [sApp, hlen2, hrw]
      · refine ⟨fs ++ [r], some (.frz (.int m)), some (.frz (pt (r.bg + gp))), x7, ?_, F1⟩
        refine (bseq_next (by simp [sApp, hlen]; rfl)).trans ?_
        refine (bseq_next (by simp [f1]; rfl)).trans ?_
        refine (bseq_next (by simp [fdiv_lit, e1, e2]; rfl)).trans ?_
        rw [sIf_ev]
        rw [decide_eq_false h5] at t
        refine (congrArg (fun r => lift r _ _) t).trans ?_
        simp
  · refine ⟨fs ++ [r], some (.frz (.int m)), some (.frz (pt (r.bg + gp))), x7, ?_, F1⟩
    refine (bseq_next (by simp [sApp, hlen]; rfl)).trans ?_
    refine (bseq_next (by simp [f1]; rfl)).trans ?_
    refine (bseq_next (by simp [fdiv_lit, e1, e2]; rfl)).trans ?_
    simp [modD_int, eqD_int, h3]
theorem filledG_loop (c : Int) (rs : List Rw) (ha : areR rs = true) {b B : Nat} (hb0 : 0 < b) (hb9 : b ≤ 2000) (hB : 4 * b + 64 ≤ B) (hs : ∀ r, r ∈ rs → SmR b r) (hn : rs.length ≤ 1000) : ∃ (fs : List Rw) (x3 x4 x5 x6 x7 : Option Sl),
    forD (.tp [3, 4]) s__law_filled_l1 (enumL (rs.map rw)) [some (.frz (.lst (rs.map rw))), some (.frz (.int c)), some (.own []), none, none, none, none, none] = .next [some (.frz (.lst (rs.map rw))), some (.frz (.int c)), some (.own (fs.map rw)), x3, x4, x5, x6, x7] ∧ FJ B rs rs.length fs := by
  obtain ⟨ρ', e, fs, x3, x4, x5, x6, x7, rfl, f⟩ := forD_inv (T := .tp [3, 4]) (body := s__law_filled_l1)
    (fun k ρ => ∃ (fs : List Rw) (x3 x4 x5 x6 x7 : Option Sl), ρ = [some (.frz (.lst (rs.map rw))), some (.frz (.int c)), some (.own (fs.map rw)), x3, x4, x5, x6, x7] ∧ FJ B rs k fs) (enumL (rs.map rw)) 0
    [some (.frz (.lst (rs.map rw))), some (.frz (.int c)), some (.own []), none, none, none, none, none] ⟨[], none, none, none, none, none, rfl, ⟨by simp, by simp [thin], fun _ => rfl, .inl rfl, by simp, by simp, fun h => by omega⟩⟩ (by
      rintro i d ρ hd ⟨fs, x3, x4, x5, x6, x7, rfl, f⟩
      rw [Nat.zero_add] at *
      obtain ⟨r, hr, rfl⟩ := enum_get hd
      obtain ⟨fs', y5, y6, y7, h1, h2⟩ := filledG_step c rs ha hb0 hb9 hB hs hn i fs r hr f x5 x6 x7
      exact ⟨[some (.frz (.lst (rs.map rw))), some (.frz (.int c)), some (.own (fs.map rw)), some (.frz (.int (i : Int))), some (.frz (rw r)), x5, x6, x7], _, by simp, .inl h1, fs', _, _, _, _, _, rfl, h2⟩)
  rw [Nat.zero_add, enumL_len, List.length_map] at f
  exact ⟨fs, x3, x4, x5, x6, x7, e, f⟩
theorem filledG (c : Int) (rs : List Rw) (ha : areR rs = true) {b B : Nat} (hb0 : 0 < b) (hb9 : b ≤ 2000) (hB : 4 * b + 64 ≤ B) (hs : ∀ r, r ∈ rs → SmR b r) (hn : rs.length ≤ 1000) : ∃ fs : List Rw, d__law_filled [.lst (rs.map rw), .int c] = .ok (.lst (fs.map rw)) ∧ FJ B rs rs.length fs := by
  obtain ⟨fs, x3, x4, x5, x6, x7, e, f⟩ := filledG_loop c rs ha hb0 hb9 hB hs hn
  refine ⟨fs, runB_ret ?_, f⟩
  show s__law_filled [some (.frz (.lst (rs.map rw))), some (.frz (.int c)), none, none, none, none, none, none] = _
  unfold s__law_filled
  refine (bseq_next (by simp; rfl)).trans ?_
  refine (bseq_next (ρ' := [some (.frz (.lst (rs.map rw))), some (.frz (.int c)), some (.own (fs.map rw)), x3, x4, x5, x6, x7]) ?_).trans ?_
  · rw [sFor_ev]
    show lift ((Res.ok (enumL (rs.map rw)) : Res (List D))) _ _ = _
    rw [lift_ok]
    exact e
  · simp [sFrz, frzE]
end FVP

/-! FVA2: drawn rows: all of few bits. -/
namespace FVP
open FV
open L2 (atI)
/-- 3000 * 999983 -/
def MA : Nat := 2999949000
theorem some_g (m : Int) : ∃ q : Rat, d__law_some [.int m] = .ok (pt q) ∧ Gr MA (2 ^ 92) q := by
  by_cases h : m % 2 = 0
  · have r2 : (1 + m / 18 % 3).natAbs < 2 ^ 61 := by omega
    have r3 : 0 < (1 + m / 18 % 3) := by omega
    have hc : ∃ c : Nat, (1 + m / 18 % 3) * (c : Int) = (MA : Int) ∧ c ≤ 2999949000 := by
      have : 1 + m / 18 % 3 = 1 ∨ 1 + m / 18 % 3 = 2 ∨ 1 + m / 18 % 3 = 3 := by omega
      rcases this with e | e | e <;> rw [e]
      · exact ⟨2999949000, by decide, by decide⟩
      · exact ⟨1499974500, by decide, by decide⟩
      · exact ⟨999983000, by decide, by decide⟩
    obtain ⟨c, hc, hc2⟩ := hc
    refine ⟨Rat.divInt (m / 2 % 9 - 4) (1 + m / 18 % 3), ?_, Gr.div r3 hc (Nat.le_trans (Nat.mul_le_mul (show (m / 2 % 9 - 4).natAbs ≤ 4 by omega) hc2) (by decide))⟩
    have e := reduced (u := m / 2 % 9 - 4) (n := 61) (by decide) (by decide) (by omega) r2
    simp [d__law_some, s__law_some, runB, modD_int, eqD_int, h, fdiv_lit, e]
  · obtain ⟨u, hu, eu⟩ := at_mem (xs := [D.int 0, .int 1, .int (-1), .int 2, .int (-3), .int 7, .int 12, .int (-40), .int 100, .int 1000000000000000001, .int (-1000000000000000000), .int 3]) (i := m / 2 % 12) (by omega) (by simp; omega)
    obtain ⟨v, hv, ev⟩ := at_mem (xs := [D.int 1, .int 1, .int 2, .int 3, .int 10, .int 1000, .int 1, .int 999983]) (i := m / 24 % 8) (by omega) (by simp; omega)
    obtain ⟨u, rfl, r1⟩ : ∃ i : Int, u = .int i ∧ i.natAbs ≤ 1000000000000000001 := by
      simp only [List.mem_cons, List.not_mem_nil, or_false] at hu
      rcases hu with rfl | rfl | rfl | rfl | rfl | rfl | rfl | rfl | rfl | rfl | rfl | rfl <;> exact ⟨_, rfl, by decide⟩
    obtain ⟨v, rfl, r2, r3, c, hc, hc2⟩ : ∃ i : Int, v = .int i ∧ i.natAbs < 2 ^ 61 ∧ 0 < i ∧ ∃ c : Nat, i * (c : Int) = (MA : Int) ∧ c ≤ 2999949000 := by
      simp only [List.mem_cons, List.not_mem_nil, or_false] at hv
      rcases hv with rfl | rfl | rfl | rfl | rfl | rfl | rfl | rfl
      · exact ⟨_, rfl, by decide, by decide, 2999949000, by decide, by decide⟩
      · exact ⟨_, rfl, by decide, by decide, 2999949000, by decide, by decide⟩
      · exact ⟨_, rfl, by decide, by decide, 1499974500, by decide, by decide⟩
      · exact ⟨_, rfl, by decide, by decide, 999983000, by decide, by decide⟩
      · exact ⟨_, rfl, by decide, by decide, 299994900, by decide, by decide⟩
      · exact ⟨_, rfl, by decide, by decide, 2999949, by decide, by decide⟩
      · exact ⟨_, rfl, by decide, by decide, 2999949000, by decide, by decide⟩
      · exact ⟨_, rfl, by decide, by decide, 3000, by decide, by decide⟩
    refine ⟨Rat.divInt u v, ?_, Gr.div r3 hc (Nat.le_trans (Nat.mul_le_mul r1 hc2) (by decide))⟩
    have e := reduced (u := u) (n := 61) (by decide) (by decide) (by omega) r2
    simp [d__law_some, s__law_some, runB, modD_int, eqD_int, h, fdiv_lit, pow18, eu, ev, e]
theorem gap_g (m : Int) : ∃ q : Rat, d__law_gap [.int m] = .ok (pt q) ∧ Gr 3000 (2 ^ 72) q ∧ 0 < q := by
  by_cases h : m % 2 = 0
  · have r2 : (1 + m / 12 % 3).natAbs < 2 ^ 61 := by omega
    have r3 : 0 < (1 + m / 12 % 3) := by omega
    have hc : ∃ c : Nat, (1 + m / 12 % 3) * (c : Int) = ((3000 : Nat) : Int) ∧ c ≤ 3000 := by
      have : 1 + m / 12 % 3 = 1 ∨ 1 + m / 12 % 3 = 2 ∨ 1 + m / 12 % 3 = 3 := by omega
      rcases this with e | e | e <;> rw [e]
      · exact ⟨3000, by decide, by decide⟩
      · exact ⟨1500, by decide, by decide⟩
      · exact ⟨1000, by decide, by decide⟩
    obtain ⟨c, hc, hc2⟩ := hc
    refine ⟨Rat.divInt (1 + m / 2 % 6) (1 + m / 12 % 3), ?_, Gr.div r3 hc (Nat.le_trans (Nat.mul_le_mul (show (1 + m / 2 % 6).natAbs ≤ 6 by omega) hc2) (by decide)), div_pos (by omega) r3⟩
    have e := reduced (u := 1 + m / 2 % 6) (n := 61) (by decide) (by decide) (show (1 + m / 12 % 3) ≠ 0 by omega) r2
    simp [d__law_gap, s__law_gap, runB, modD_int, eqD_int, h, fdiv_lit, e]
  · obtain ⟨u, hu, eu⟩ := at_mem (xs := [D.int 1, .int 2, .int 5, .int 7, .int 1, .int 3, .int 10, .int 1000000000000000000]) (i := m / 2 % 8) (by omega) (by simp; omega)
    obtain ⟨v, hv, ev⟩ := at_mem (xs := [D.int 1, .int 1, .int 2, .int 3, .int 10, .int 1000]) (i := m / 16 % 6) (by omega) (by simp; omega)
    obtain ⟨u, rfl, r1, r4⟩ : ∃ i : Int, u = .int i ∧ i.natAbs ≤ 1000000000000000000 ∧ 0 < i := by
      simp only [List.mem_cons, List.not_mem_nil, or_false] at hu
      rcases hu with rfl | rfl | rfl | rfl | rfl | rfl | rfl | rfl <;> exact ⟨_, rfl, by decide, by decide⟩
    obtain ⟨v, rfl, r2, r3, c, hc, hc2⟩ : ∃ i : Int, v = .int i ∧ i.natAbs < 2 ^ 61 ∧ 0 < i ∧ ∃ c : Nat, i * (c : Int) = ((3000 : Nat) : Int) ∧ c ≤ 3000 := by
      simp only [List.mem_cons, List.not_mem_nil, or_false] at hv
      rcases hv with rfl | rfl | rfl | rfl | rfl | rfl
      · exact ⟨_, rfl, by decide, by decide, 3000, by decide, by decide⟩
      · exact ⟨_, rfl, by decide, by decide, 3000, by decide, by decide⟩
      · exact ⟨_, rfl, by decide, by decide, 1500, by decide, by decide⟩
      · exact ⟨_, rfl, by decide, by decide, 1000, by decide, by decide⟩
      · exact ⟨_, rfl, by decide, by decide, 300, by decide, by decide⟩
      · exact ⟨_, rfl, by decide, by decide, 3, by decide, by decide⟩
    refine ⟨Rat.divInt u v, ?_, Gr.div r3 hc (Nat.le_trans (Nat.mul_le_mul r1 hc2) (by decide)), div_pos r4 r3⟩
    have e := reduced (u := u) (n := 61) (by decide) (by decide) (show v ≠ 0 by omega) r2
    simp [d__law_gap, s__law_gap, runB, modD_int, eqD_int, h, fdiv_lit, pow18, eu, ev, e]
structure GJ (k : Nat) (rs : List Rw) (b : Rat) : Prop where
  len : rs.length = k
  sb : Gr 3000 (k * 2 ^ 72) b
  sm : ∀ r, r ∈ rs → Gr 3000 (k * 2 ^ 72) r.bg ∧ Gr (MA * 3000) (k * 2 ^ 165) r.vl ∧ Gr (MA * 3000) (k * 2 ^ 165) r.bh ∧ Gr MA (2 ^ 92) r.sl
  z : rs = [] → b = 0
  la : ∀ l, rs.getLast? = some l → areR rs = true ∧ l.bg < b ∧ Gr 3000 (2 ^ 72) (b - l.bg)
theorem GJ.smR {k : Nat} {rs : List Rw} {b : Rat} (g : GJ k rs b) (hk : k ≤ 16) : ∀ r, r ∈ rs → SmR 170 r := fun r h => by
  obtain ⟨a, b, c, d⟩ := g.sm r h
  have h1 : k * 2 ^ 72 ≤ 16 * 2 ^ 72 := Nat.mul_le_mul_right _ hk
  have h2 : k * 2 ^ 165 ≤ 16 * 2 ^ 165 := Nat.mul_le_mul_right _ hk
  exact ⟨a.smQ (by decide) (by decide) (Nat.lt_of_le_of_lt h1 (by decide)), b.smQ (by decide) (by decide) (Nat.lt_of_le_of_lt h2 (by decide)), c.smQ (by decide) (by decide) (Nat.lt_of_le_of_lt h2 (by decide)), d.smQ (by decide) (by decide) (by decide)⟩
theorem GJ.sbS {k : Nat} {rs : List Rw} {b : Rat} (g : GJ k rs b) (hk : k ≤ 16) : SmQ 170 b :=
  g.sb.smQ (by decide) (by decide) (Nat.lt_of_le_of_lt (Nat.mul_le_mul_right _ hk) (by decide))
theorem GJ.snoc {k : Nat} {rs : List Rw} {b vl bh sl gp : Rat} (g : GJ k rs b) (h1 : Gr (MA * 3000) ((k + 1) * 2 ^ 165) vl) (h2 : Gr (MA * 3000) ((k + 1) * 2 ^ 165) bh) (h3 : Gr MA (2 ^ 92) sl) (h4 : Gr 3000 (2 ^ 72) gp) (h5 : 0 < gp) : GJ (k + 1) (rs ++ [⟨b, vl, bh, sl⟩]) (b + gp) where
  len := by rw [List.length_append, g.len]; rfl
  sb := (g.sb.add h4).mono (by omega)
  sm := fun r h => by
    rcases List.mem_append.mp h with h | h
    · obtain ⟨a, b, c, d⟩ := g.sm r h
      exact ⟨a.mono (by omega), b.mono (by omega), c.mono (by omega), d⟩
    · rw [List.mem_singleton] at h; subst h
      exact ⟨g.sb.mono (by omega), h1, h2, h3⟩
  z := fun h => by simp at h
  la := fun l h => by
    rw [List.getLast?_append] at h
    simp at h
    subst h
    refine ⟨?_, by show b < b + gp; grind, by show Gr 3000 (2 ^ 72) (b + gp - b); rw [show b + gp - b = gp by grind]; exact h4⟩
    cases hl : rs.getLast? with
    | none =>
      rw [List.getLast?_eq_none_iff] at hl
      subst hl
      simp [areR, g.z rfl, asc_one]
    | some l =>
      rw [areR_snoc hl]
      obtain ⟨a1, a2, _⟩ := g.la l hl
      simp [a1, a2]
theorem rows_step (c n : Int) (i : Nat) (hi : i < 16) (rs : List Rw) (b : Rat) (x5 x6 x7 x8 x9 x10 x11 : Option Sl) (g : GJ i rs b) :
    ∃ (rs' : List Rw) (b' : Rat) (y5 y6 y7 y8 y9 y10 y11 : Option Sl), s__law_rows_l1 [some (.frz (.int c)), some (.frz (.int n)), some (.own (rs.map rw)), some (.frz (pt b)), some (.frz (.int (i : Int))), x5, x6, x7, x8, x9, x10, x11] =
      .next [some (.frz (.int c)), some (.frz (.int n)), some (.own (rs'.map rw)), some (.frz (pt b')), some (.frz (.int (i : Int))), y5, y6, y7, y8, y9, y10, y11] ∧ GJ (i + 1) rs' b' := by
  obtain ⟨s1, e1, q1⟩ := some_g (mix c (80 + (i : Int)))
  obtain ⟨s2, e2, q2⟩ := some_g (mix c (10 + (i : Int)) / 7)
  obtain ⟨s3, e3, q3⟩ := some_g (mix c (10 + (i : Int)) / 900)
  obtain ⟨gp, e4, q4, q5⟩ := gap_g (mix c (10 + (i : Int)) / 11)
  have m0 := mix_nn c (10 + (i : Int))
  have f1 := mixed (c := c) (k := 10 + (i : Int)) (by omega) (by omega)
  have f2 := mixed (c := c) (k := 80 + (i : Int)) (by omega) (by omega)
  generalize mix c (10 + (i : Int)) = m at *
  generalize mix c (80 + (i : Int)) = m2 at *
  have sb := g.sbS (by omega)
  have es := l_sum sb (q4.smQ (n := 80) (by decide) (by decide) (by decide)) (by decide) (by decide) (by decide)
  have hlen : rs.length < PySem.sizeLine := by rw [PySem.sizeLine_eq, g.len]; omega
  have P2 : Gr (MA * 3000) ((i + 1) * 2 ^ 165) s2 := (q2.scale 3000).mono (by omega)
  have P3 : Gr (MA * 3000) ((i + 1) * 2 ^ 165) s3 := (q3.scale 3000).mono (by omega)
  have e0 := neD_nil rs
  have sm := g.smR (by omega)
  obtain ⟨cm, sl, s5, Gc, Gs⟩ : ∃ cm sl : Rat, (sIf (tVal (dBin neD (dVarR 2) (dLst aNil)))
    (bSeq (sSet 8 (dCall d__law_comes (aCons (dBin ixD (dVarR 2) (dUn negD (dC (.int 1)))) (aCons (dVar 3) aNil))))
      (sSet 6 (dBin ixD (dLst (aCons (dVar 6) (aCons (dVar 6) (aCons (dBin ixD (dBin ixD (dVarR 2) (dUn negD (dC (.int 1)))) (dC (.int 3))) aNil)))) (dBin modD (dBin fdivD (dVarR 5) (dC (.int 90))) (dC (.int 3))))))
    bNil) [some (.frz (.int c)), some (.frz (.int n)), some (.own (rs.map rw)), some (.frz (pt b)), some (.frz (.int (i : Int))), some (.frz (.int m)), some (.frz (pt s1)), some (.frz (pt s2)), some (.frz (pt s2)), x9, x10, x11] =
      .next [some (.frz (.int c)), some (.frz (.int n)), some (.own (rs.map rw)), some (.frz (pt b)), some (.frz (.int (i : Int))), some (.frz (.int m)), some (.frz (pt sl)), some (.frz (pt s2)), some (.frz (pt cm)), x9, x10, x11] ∧ Gr (MA * 3000) ((i + 1) * 2 ^ 165) cm ∧ Gr MA (2 ^ 92) sl := by
    cases hl : rs.getLast? with
    | none =>
      have hnil : rs = [] := List.getLast?_eq_none_iff.mp hl
      rw [decide_eq_true hnil] at e0
      exact ⟨s2, s1, by simp [e0], P2, q1⟩
    | some l =>
      have hne : rs ≠ [] := fun z => by rw [z] at hl; simp at hl
      rw [decide_eq_false hne] at e0
      have hm : l ∈ rs := List.mem_of_getLast? hl
      obtain ⟨ar, lt, dif⟩ := g.la l hl
      have ec := l_comes (sm l hm) sb (by decide) (by decide) (by decide)
      obtain ⟨t1, t2, t3, t4⟩ := g.sm l hm
      obtain ⟨u3, ⟨v3, rfl, k3⟩, a3⟩ := at3 (a := pt s1) (b := pt s1) (c := pt l.sl) (i := m / 90 % 3) (by omega) (by omega) (P := fun d => ∃ q, d = pt q ∧ Gr MA (2 ^ 92) q) ⟨_, rfl, q1⟩ ⟨_, rfl, q1⟩ ⟨_, rfl, t4⟩
      refine ⟨comes l b, v3, by simp [e0, atI_last, hl, ec, fdiv_lit, modD_int, a3], ?_, k3⟩
      have m1 := t4.mul dif
      have m2 := t3.add m1
      unfold comes
      exact m2.mono (by omega)
  obtain ⟨u1, ⟨v1, rfl, k1⟩, a1⟩ := at7 (a := pt cm) (b := pt s2) (c := pt cm) (d := pt s2) (f := pt s2) (g := pt cm) (k := pt cm) (i := m % 7) (by omega) (by omega) (P := fun d => ∃ q, d = pt q ∧ Gr (MA * 3000) ((i + 1) * 2 ^ 165) q) ⟨_, rfl, Gc⟩ ⟨_, rfl, P2⟩ ⟨_, rfl, Gc⟩ ⟨_, rfl, P2⟩ ⟨_, rfl, P2⟩ ⟨_, rfl, Gc⟩ ⟨_, rfl, Gc⟩
  obtain ⟨u2, ⟨v2, rfl, k2⟩, a2⟩ := at7 (a := pt cm) (b := pt cm) (c := pt s2) (d := pt s2) (f := pt s3) (g := pt cm) (k := pt cm) (i := m % 7) (by omega) (by omega) (P := fun d => ∃ q, d = pt q ∧ Gr (MA * 3000) ((i + 1) * 2 ^ 165) q) ⟨_, rfl, Gc⟩ ⟨_, rfl, Gc⟩ ⟨_, rfl, P2⟩ ⟨_, rfl, P2⟩ ⟨_, rfl, P3⟩ ⟨_, rfl, Gc⟩ ⟨_, rfl, Gc⟩
  refine ⟨rs ++ [(⟨b, v1, v2, sl⟩ : Rw)], b + gp, some (.frz (.int m)), some (.frz (pt sl)), some (.frz (pt s2)), some (.frz (pt cm)), some (.frz (pt s3)), some (.frz (pt v1)), some (.frz (pt v2)), ?_, g.snoc k1 k2 Gs q4 q5⟩
  unfold s__law_rows_l1
  refine (bseq_next (by simp [f1]; rfl)).trans ?_
  refine (bseq_next (by simp [f2, e1]; rfl)).trans ?_
  refine (bseq_next (by simp [fdiv_lit, e2]; rfl)).trans ?_
  refine (bseq_next (by simp; rfl)).trans ?_
  refine (bseq_next s5).trans ?_
  refine (bseq_next (by simp [fdiv_lit, e3]; rfl)).trans ?_
  refine (bseq_next (by simp [modD_int, a1]; rfl)).trans ?_
  refine (bseq_next (by simp [modD_int, a2]; rfl)).trans ?_
  refine (bseq_next (by simp [sApp, hlen]; rfl)).trans ?_
  simp [fdiv_lit, e4, es, rw]
theorem GJ.areR {k : Nat} {rs : List Rw} {b : Rat} (g : GJ k rs b) (hk : 0 < k) : areR rs = true := by
  cases h : rs.getLast? with
  | none =>
    have := g.len
    rw [List.getLast?_eq_none_iff.mp h] at this
    simp at this
    omega
  | some l => exact (g.la l h).1
/-- drawn rows of a line -/
theorem rows_g (c : Int) (n : Nat) (h0 : 0 < n) (hn : n ≤ 16) : ∃ rs : List Rw, d__law_rows [.int c, .int (n : Int)] = .ok (.lst (rs.map rw)) ∧ areR rs = true ∧ (∀ r, r ∈ rs → SmR 170 r) ∧ rs.length = n := by
  obtain ⟨ρ', e, rs, b, x4, x5, x6, x7, x8, x9, x10, x11, rfl, g⟩ := forD_inv (T := .nm 4) (body := s__law_rows_l1)
    (fun k ρ => ∃ (rs : List Rw) (b : Rat) (x4 x5 x6 x7 x8 x9 x10 x11 : Option Sl), ρ = [some (.frz (.int c)), some (.frz (.int (n : Int))), some (.own (rs.map rw)), some (.frz (pt b)), x4, x5, x6, x7, x8, x9, x10, x11] ∧ GJ k rs b) (rangeL 0 n) 0
    [some (.frz (.int c)), some (.frz (.int (n : Int))), some (.own []), some (.frz (pt 0)), none, none, none, none, none, none, none, none]
    ⟨[], 0, none, none, none, none, none, none, none, none, rfl, ⟨rfl, grz, by simp, fun _ => rfl, by simp⟩⟩ (by
      rintro i d ρ hd ⟨rs, b, x4, x5, x6, x7, x8, x9, x10, x11, rfl, g⟩
      rw [Nat.zero_add] at *
      obtain ⟨hi, rfl⟩ := range0_get hd
      obtain ⟨rs', b', y5, y6, y7, y8, y9, y10, y11, h1, h2⟩ := rows_step c n i (by omega) rs b x5 x6 x7 x8 x9 x10 x11 g
      exact ⟨_, _, rfl, .inl h1, rs', b', _, _, _, _, _, _, _, _, rfl, h2⟩)
  have hg : (rangeL 0 n).length = n := by unfold rangeL; simp
  rw [Nat.zero_add, hg] at g
  refine ⟨rs, runB_ret ?_, g.areR h0, g.smR hn, g.len⟩
  show s__law_rows [some (.frz (.int c)), some (.frz (.int (n : Int))), none, none, none, none, none, none, none, none, none, none] = _
  unfold s__law_rows
  refine (bseq_next (by simp; rfl)).trans ?_
  refine (bseq_next (ρ' := [some (.frz (.int c)), some (.frz (.int (n : Int))), some (.own []), some (.frz (pt 0)), none, none, none, none, none, none, none, none]) (by simp [nought])).trans ?_
  have hi : iRng (aCons (dVarR 1) aNil) [some (.frz (.int c)), some (.frz (.int (n : Int))), some (.own []), some (.frz (pt 0)), none, none, none, none, none, none, none, none] = .ok (rangeL 0 n) := iRng1 (by simp) (by omega)
  refine (bseq_next (by rw [sFor_ev, hi, lift_ok, e])).trans ?_
  simp [sFrz, frzE]
end FVP

/-! FVA3: the laws' values of lines, rising places, steps. -/
namespace FVP
open FV
open L2 (atI)
theorem num_eq (p : Rat) : p * (p.den : Rat) = (p.num : Rat) := by
  have h := div_mul (u := p.num) (v := (p.den : Int)) (den_ne p)
  rw [show Rat.divInt p.num (p.den : Int) = p from Rat.num_divInt_den p, Rat.intCast_natCast] at h
  exact h
theorem quot_div (p q : Rat) (hq : q ≠ 0) : Rat.divInt (p.num * q.den) (p.den * q.num) = p / q := by
  have hn : q.num ≠ 0 := fun z => hq (Rat.num_eq_zero.mp z)
  have h0 : (p.den : Int) * q.num ≠ 0 := Int.mul_ne_zero (den_ne p) hn
  refine (eq_div h0 ?_).symm
  have h1 := num_eq p
  have h2 := num_eq q
  rw [Rat.intCast_mul, Rat.intCast_mul, Rat.intCast_natCast, Rat.intCast_natCast, ← h1, ← h2]
  grind
theorem l_quotient {p q : Rat} {a b : Nat} (hp : SmQ a p) (hq : SmQ b q) (ha : 0 < a) (hb : 0 < b) (h : a + b ≤ 9000) (h0 : q ≠ 0) : d__law_quotient [pt p, pt q] = .ok (pt (p / q)) := by
  have hn : q.num ≠ 0 := fun z => h0 (Rat.num_eq_zero.mp z)
  have m1 := mulOk_w hp.1 hq.2 ha hb (by omega)
  have m2 := mulOk_w hp.2 hq.1 ha hb (by omega)
  have e := reduced (u := p.num * q.den) (v := p.den * q.num) h (by omega) (Int.mul_ne_zero (den_ne p) hn) (sm_mul hp.2 hq.1)
  rw [quot_div p q h0] at e
  simp only [d__law_quotient, s__law_quotient, runB]
  simp [mulD_int m1, mulD_int m2, e]
theorem smQ_quot {p q : Rat} {a b : Nat} (hp : SmQ a p) (hq : SmQ b q) (h0 : q ≠ 0) : SmQ (a + b) (p / q) := by
  have hn : q.num ≠ 0 := fun z => h0 (Rat.num_eq_zero.mp z)
  rw [← quot_div p q h0]
  exact smQ_low (sm_mul hp.1 hq.2) (sm_mul hp.2 hq.1) (Int.mul_ne_zero (den_ne p) hn)
theorem seq_ix {ds : List D} {d : D} {i : Nat} {e : D} (hd : SeqD ds d) (h : ds[i]? = some e) : ixD d (.int (i : Int)) = .ok e := by
  cases hd <;> simp [h]
theorem value_a {d : D} {rs : List Rw} {p : Rat} {b c : Nat} (hd : SeqD (rs.map rw) d) (ha : areR rs = true) (hs : ∀ r, r ∈ rs → SmR b r) (hq : SmQ c p) (hp : 0 ≤ p) (hb : 0 < b) (hc : 0 < c) (h : 3 * b + c + 1 ≤ 9000) :
    d__law_value [d, pt p] = .ok (pt (valAt rs p)) := by
  obtain ⟨r0, qs, e0, h0, hpw⟩ := areR_iff.mp ha
  have hp0 : ¬ p < r0.bg := by rw [h0]; grind
  have hit := items_seq hd
  obtain ⟨ρ', e, x, rfl⟩ := forD_inv (T := .nm 3) (body := s__law_value_l1)
    (fun k ρ => ∃ x : Option Sl, ρ = [some (.frz d), some (.frz (pt p)), some (.frz (rw (lastAt r0 (rs.take k) p))), x]) (rs.map rw) 0
    [some (.frz d), some (.frz (pt p)), some (.frz (rw r0)), none] ⟨none, rfl⟩ (by
      rintro i y ρ hy ⟨x, rfl⟩
      rw [Nat.zero_add]
      rw [List.getElem?_map] at hy
      obtain ⟨r, hr, rfl⟩ := Option.map_eq_some_iff.mp hy
      have hrm : r ∈ rs := List.mem_of_getElem? hr
      have eb := l_below hq (hs r hrm).1 hc hb (by omega)
      have et : lastAt r0 (rs.take (i + 1)) p = if p < r.bg then lastAt r0 (rs.take i) p else r := by
        rw [List.take_succ, hr]; exact lastAt_snoc
      rw [et]
      generalize lastAt r0 (rs.take i) p = l at *
      refine ⟨_, [some (.frz d), some (.frz (pt p)), some (.frz (rw (if p < r.bg then l else r))), some (.frz (rw r))], rfl, .inl ?_, _, rfl⟩
      by_cases hpr : p < r.bg
      · rw [decide_eq_true hpr] at eb
        simp [s__law_value_l1, eb, hpr]
      · rw [decide_eq_false hpr] at eb
        simp [s__law_value_l1, eb, hpr])
  have e : forD _ _ _ _ = _ := e
  rw [Nat.zero_add, List.length_map, List.take_length] at e
  have el : lastAt r0 rs p = lineAt rs p := by
    rw [e0]
    show lastAt (if p < r0.bg then r0 else r0) qs p = lastAt r0 qs p
    rw [if_neg hp0]
  rw [el] at e
  have hle := lineAt_le ha hp
  have ec := l_comes (hs _ hle.1) hq hb hc h
  have ee := eqD_pt (p := (lineAt rs p).bg) (q := p)
  have ix0 : ixD d (.int 0) = .ok (rw r0) := seq_ix (i := 0) hd (by rw [e0]; rfl)
  refine runB_ret ?_
  show s__law_value [some (.frz d), some (.frz (pt p)), none, none] = _
  unfold s__law_value
  refine (bseq_next (by simp [ix0]; rfl)).trans ?_
  refine (bseq_next (by simp [hit, e]; rfl)).trans ?_
  unfold valAt valR
  by_cases hbp : (lineAt rs p).bg = p
  · have e3 := eqD_pt (p := p) (q := p)
    simp [e3, hbp]
  · rw [decide_eq_false hbp] at ee
    simp [ee, hbp, ec]
theorem cut_one {xs : List D} {k : Nat} (hk : k ≤ xs.length) : cutD xs (some (k : Int)) (some ((k : Int) + 1)) = (xs.drop k).take 1 := by
  unfold cutD
  have e : ((k : Int) + 1) = ((k + 1 : Nat) : Int) := by omega
  rw [e, HT.sIx_nat, HT.sIx_nat, Nat.min_eq_left hk]
  by_cases h : k + 1 ≤ xs.length
  · rw [Nat.min_eq_left h, Nat.add_sub_cancel_left]
  · have : k = xs.length := by omega
    subst this
    simp
theorem pl_pts (xs : List Rat) : Pl false 2 (.lst (xs.map pt)) := .lst fun d h => by
  obtain ⟨q, _, rfl⟩ := List.mem_map.mp h
  exact pl_pt q
theorem pts_inj : ∀ {xs ys : List Rat}, xs.map pt = ys.map pt → xs = ys
  | [], [], _ => rfl
  | x :: xs, y :: ys, h => by
    simp only [List.map_cons, List.cons.injEq] at h
    rw [pt_inj h.1, pts_inj h.2]
  | [], y :: ys, h => by simp at h
  | x :: xs, [], h => by simp at h
theorem neD_pts (xs ys : List Rat) : neD (.lst (xs.map pt)) (.lst (ys.map pt)) = .ok (.bl (!decide (xs = ys))) :=
  neD_dec (pl_pts xs) (pl_pts ys) (by omega) (by omega) ⟨fun h => pts_inj (D.lst.inj h), fun h => by rw [h]⟩
theorem rising_a {ps : List Rat} {b : Nat} (hs : ∀ p, p ∈ ps → SmQ b p) (hb : 0 < b) (h : 2 * b ≤ 9000) (hl : ps.length < 100000) : d__law_rising [.lst (ps.map pt)] = .ok (.lst ((rising ps).map pt)) := by
  obtain ⟨ρ', e, x, y, rfl⟩ := forD_inv (T := .nm 2) (body := s__law_rising_l1)
    (fun k ρ => ∃ x y : Option Sl, ρ = [some (.frz (.lst (ps.map pt))), some (.own ((rising (ps.take k)).map pt)), x, y, none]) (ps.map pt) 0
    [some (.frz (.lst (ps.map pt))), some (.own []), none, none, none] ⟨none, none, rfl⟩ (by
      rintro i y ρ hy ⟨x, z, rfl⟩
      rw [Nat.zero_add]
      rw [List.getElem?_map] at hy
      obtain ⟨p, hp, rfl⟩ := Option.map_eq_some_iff.mp hy
      have hpm : p ∈ ps := List.mem_of_getElem? hp
      have hm : ∀ x, x ∈ rising (ps.take i) → SmQ b x := fun x hx => hs x (List.mem_of_mem_take (rising_mem.mp hx))
      have hln := rising_len (ps.take i)
      have hup := rising_up (ps.take i)
      rw [List.length_take] at hln
      have et : rising (ps.take (i + 1)) = insR p (rising (ps.take i)) := by
        unfold rising; rw [List.take_succ, hp]; simp [List.foldl_append]
      rw [et]
      generalize rising (ps.take i) = acc at *
      have hal : acc.length < 100000 := by omega
      obtain ⟨as, bs, q1, q2, q3, q4⟩ := ins_split (p := p) hup
      have ec : compD (.nm 4) (tVal (dCall d__law_is_below (aCons (dVar 4) (aCons (dVar 2) aNil)))) (dVar 4) (acc.map pt) [some (.frz (.lst (ps.map pt))), some (.own (acc.map pt)), some (.frz (pt p)), z, none] = .ok (as.map pt) := by
        rw [← q2]
        exact comp_typed pt (fun x => decide (x < p)) pt acc fun x hx => ⟨_, rfl, by simp [l_below (hm x hx) (hs p hpm) hb hb (by omega)], fun _ => by simp⟩
      have ed := dComp_ok (f := iSeq (dVarR 1)) (vs := [4]) (ρ := [some (.frz (.lst (ps.map pt))), some (.own (acc.map pt)), some (.frz (pt p)), z, none]) (ds := acc.map pt) (by simp) (by simpa using (by omega : acc.length < 1000000)) ec
      refine ⟨_, [some (.frz (.lst (ps.map pt))), some (.own ((insR p acc).map pt)), some (.frz (pt p)), some (.frz (.int (as.length : Int))), none], rfl, .inl ?_, _, _, rfl⟩
      have hasl : as.length ≤ acc.length := by rw [q1, List.length_append]; omega
      have cc : cutD (acc.map pt) (some (as.length : Int)) (some ((as.length : Int) + 1)) = (bs.take 1).map pt := by
        rw [cut_one (by rw [List.length_map]; exact hasl), q1]; simp
      have en := neD_pts (bs.take 1) [p]
      have hin : (bs.take 1 = [p]) ↔ bs.head? = some p := by cases bs <;> simp
      show s__law_rising_l1 [some (.frz (.lst (ps.map pt))), some (.own (acc.map pt)), some (.frz (pt p)), z, none] = _
      unfold s__law_rising_l1
      refine (bseq_next (ρ' := [some (.frz (.lst (ps.map pt))), some (.own (acc.map pt)), some (.frz (pt p)), some (.frz (.int (as.length : Int))), none]) (by rw [sSet_ev, dCall_ev, aCons_ev, ed]; simp)).trans ?_
      by_cases hh : bs.head? = some p
      · have eq : insR p acc = acc := by rw [q4, if_pos hh, q1]
        rw [decide_eq_true (hin.mpr hh)] at en
        rw [eq]
        simp at en
        simp [cc, en]
      · rw [decide_eq_false (fun z => hh (hin.mp z))] at en
        have g3 : insD 1 [some (.frz (.lst (ps.map pt))), some (.own (acc.map pt)), some (.frz (pt p)), some (.frz (.int (as.length : Int))), none] (acc.map pt) (.int (as.length : Int)) (pt p) = .next [some (.frz (.lst (ps.map pt))), some (.own ((insR p acc).map pt)), some (.frz (pt p)), some (.frz (.int (as.length : Int))), none] := by
          rw [insD_ok (by rw [List.length_map]; omega) (by omega), q4, if_neg hh, q1]; simp
        have t1 : tVal (dBin neD (dSl (dVarR 1) (oSome (dVarR 3)) (oSome (dBin addD (dVarR 3) (dC (.int 1))))) (dLst (aCons (dVar 2) aNil))) [some (.frz (.lst (ps.map pt))), some (.own (acc.map pt)), some (.frz (pt p)), some (.frz (.int (as.length : Int))), none] = .ok true := by
          simp at en
          simp [cc, en]
        rw [sIf_ev, t1, lift_ok, if_pos rfl]
        exact g3)
  have e : forD _ _ _ _ = _ := e
  rw [Nat.zero_add, List.length_map, List.take_length] at e
  refine runB_ret ?_
  show s__law_rising [some (.frz (.lst (ps.map pt))), none, none, none, none] = _
  unfold s__law_rising
  refine (bseq_next (by simp; rfl)).trans ?_
  refine (bseq_next (by simp [e]; rfl)).trans ?_
  simp [sFrz, frzE]
theorem pt_one : D.tup [.int 1, .int 1] = pt 1 := rfl
theorem pt_three : D.tup [.int 3, .int 1] = pt 3 := rfl
theorem sm3 : SmQ 2 3 := ⟨by unfold Sm; decide, by unfold Sm; decide⟩
theorem sm1 : SmQ 1 1 := ⟨by unfold Sm; decide, by unfold Sm; decide⟩
theorem step_a {P : List Rat} {b i : Nat} {p : Rat} (hs : ∀ p, p ∈ P → SmQ b p) (hup : P.Pairwise (· < ·)) (hp : P[i]? = some p) (hb : 0 < b) (h : 2 * b + 3 ≤ 9000) :
    ∃ d : Rat, d__law_step [.lst (P.map pt), .int (i : Int)] = .ok (pt d) ∧ Thirds P p d ∧ SmQ (2 * b + 3) d := by
  have ee := eqD_int (i := (i : Int) + 1) (j := (P.length : Int))
  by_cases hi : i + 1 = P.length
  · refine ⟨1, ?_, thirds_last hup hp (by omega) (by decide), smQ_mono sm1 (by omega)⟩
    rw [decide_eq_true (by omega)] at ee
    simp only [d__law_step, s__law_step, runB]
    simp [ee, pt_one]
  · have hlt := (List.getElem?_eq_some_iff.mp hp).1
    obtain ⟨y, hy⟩ : ∃ y, P[i + 1]? = some y := ⟨_, List.getElem?_eq_getElem (by omega)⟩
    have sy := hs y (List.mem_of_getElem? hy)
    have sp := hs p (List.mem_of_getElem? hp)
    have e1 := l_less sy sp hb hb (by omega)
    have e2 := l_quotient (smQ_sub sy sp) sm3 (by omega) (by decide) (by omega) (by decide)
    have hai : atI (P.map pt) ((i : Int) + 1) = some (pt y) := by
      have := atI_nn (xs := P.map pt) (i + 1)
      rw [List.getElem?_map, hy] at this
      exact this
    rw [decide_eq_false (by omega)] at ee
    refine ⟨(y - p) / 3, ?_, thirds_in hup hp hy (by grind), smQ_mono (smQ_quot (smQ_sub sy sp) sm3 (by decide)) (by omega)⟩
    simp only [d__law_step, s__law_step, runB]
    simp [ee, pt_three, hai, hp, e1, e2]
end FVP

/-! FVA4: cells folded, enumerations, slices. -/
namespace FVP
open FV
open L2 (atI)
theorem zipIdx_find {α β : Type} (f : α → Option β) : ∀ (xs : List α) (k : Nat), (xs.zipIdx k).findSome? (fun x => f x.1) = xs.findSome? f
  | [], k => rfl
  | x :: xs, k => by
    rw [List.zipIdx_cons, List.findSome?_cons, List.findSome?_cons]
    cases f x with
    | some y => rfl
    | none => exact zipIdx_find f xs (k + 1)
theorem enum_map {α : Type} (g : α → D) (xs : List α) : enumL (xs.map g) = xs.zipIdx.map fun x => .tup [.int (x.2 : Int), g x.1] := by
  unfold enumL
  rw [List.zipIdx_map, List.map_map]
  rfl
theorem enum_getD {ds : List D} {i : Nat} {d : D} (h : (enumL ds)[i]? = some d) : ∃ e, ds[i]? = some e ∧ d = .tup [.int (i : Int), e] := enumL_get h
theorem cut_to {xs : List D} {k : Nat} : cutD xs none (some (k : Int)) = xs.take k := by
  unfold cutD
  rw [HT.sIx_nat, HT.sIx_none, List.drop_zero]
  by_cases h : k ≤ xs.length
  · rw [Nat.min_eq_left h, Nat.sub_zero]
  · rw [Nat.min_eq_right (by omega), Nat.sub_zero, List.take_of_length_le (by omega), List.take_of_length_le (by omega)]
theorem folded (ns : List Int) (hl : ns.length ≤ 63) : ∃ c : Int, d__law_folded [.klst (ns.map D.int)] = .ok (.int c) := by
  obtain ⟨ρ', e, c, x2, x3, rfl⟩ := forD_inv (T := .tp [2, 3]) (body := s__law_folded_l1)
    (fun k ρ => ∃ (c : Int) (x2 x3 : Option Sl), ρ = [some (.frz (.klst (ns.map D.int))), some (.frz (.int c)), x2, x3]) (enumL (ns.map D.int)) 0
    [some (.frz (.klst (ns.map D.int))), some (.frz (.int ((ns.length : Int) + 5))), none, none] ⟨_, none, none, rfl⟩ (by
      rintro i d ρ hd ⟨c, x2, x3, rfl⟩
      obtain ⟨v, hv, rfl⟩ := enum_getD hd
      rw [List.getElem?_map] at hv
      obtain ⟨z, hz, rfl⟩ := Option.map_eq_some_iff.mp hv
      have hi : i < ns.length := (List.getElem?_eq_some_iff.mp hz).1
      have f := mixed (c := c + z) (k := (i : Int) + 3) (by omega) (by omega)
      exact ⟨_, [some (.frz (.klst (ns.map D.int))), some (.frz (.int (mix (c + z) ((i : Int) + 3)))), some (.frz (.int (i : Int))), some (.frz (.int z))], rfl, .inl (by simp [s__law_folded_l1, f]), _, _, _, rfl⟩)
  refine ⟨c, runB_ret ?_⟩
  show s__law_folded [some (.frz (.klst (ns.map D.int))), none, none, none] = _
  unfold s__law_folded
  refine (bseq_next (by simp; rfl)).trans ?_
  have hc : cutD (ns.map D.int) none (some 63) = ns.map D.int := by
    have := cut_to (xs := ns.map D.int) (k := 63)
    rw [List.take_of_length_le (by simpa using hl)] at this
    exact this
  refine (bseq_next (by simp [hc, e]; rfl)).trans ?_
  simp
/-- how many turns the law takes -/
theorem turns (m : Int) (k : Nat) (h0 : 0 < k) (hk : k < 1000) (hm : 0 ≤ m) : ∃ n : Nat, (if (if (k : Int) < m then (k : Int) else m) > 1 then (if (k : Int) < m then (k : Int) else m) else 1) = (n : Int) ∧ 0 < n ∧ n ≤ k := by
  refine ⟨(if (if (k : Int) < m then (k : Int) else m) > 1 then (if (k : Int) < m then (k : Int) else m) else 1).toNat, ?_, ?_, ?_⟩ <;> split <;> split <;> omega
end FVP

/-! FVS1: one part by another. -/
namespace FVP
open FV
open L2 (atI)
theorem over {p q : Rat} {a b : Nat} (hp : SmQ a p) (hq : SmQ b q) (ha : 0 < a) (hb : 0 < b) (h : a + b ≤ 9000) (h0 : q ≠ 0) : d_over [pt p, pt q] = .ok (pt (p / q)) := by
  obtain ⟨m1, m2, m3, m4⟩ := muls hp hq ha hb h
  have hn : q.num ≠ 0 := fun z => h0 (Rat.num_eq_zero.mp z)
  have hv : (p.den : Int) * q.num ≠ 0 := Int.mul_ne_zero (den_ne p) hn
  have e := part_2 (u := p.num * q.den) h (by omega) hv (sm_mul hp.2 hq.1)
  rw [quot_div p q h0] at e
  have k1 : MulOk p.num (q.den : Int) := mulOk_w hp.1 hq.2 ha hb (by omega)
  have k2 : MulOk (p.den : Int) q.num := mulOk_w hp.2 hq.1 ha hb (by omega)
  simp only [d_over, s_over, runB]
  simp [mulD_int k1, mulD_int k2, e]
end FVP

/-! FVQ: lambdas evaluated (simp rows). -/
namespace FV
open L2 (atI)
@[simp] theorem dCallC_ev {i : Nat} {cl : Cl} {fs : DenA} {ρ : En} : dCallC i cl fs ρ = (dVar i ρ).bind fun d => match d with
  | .lam j tok => (fs ρ).bind (cl j tok)
  | _ => .stuck := rfl
@[simp] theorem dCallM_ev {g : Cl → List D → Res D} {clM : En → Cl} {fs : DenA} {ρ : En} : dCallM g clM fs ρ = (fs ρ).bind (g (clM ρ)) := rfl
@[simp] theorem clCons_same {j : Nat} {tok : LTok} {n : Nat} {fb : Den} {ρ : En} {cl : Cl} : clCons j tok n fb ρ cl j tok = lamD n fb ρ := by
  unfold clCons; rw [if_pos ⟨rfl, rfl⟩]
theorem clCons_ne {j k : Nat} {tok : LTok} {n : Nat} {fb : Den} {ρ : En} {cl : Cl} (h : k ≠ j) : clCons j tok n fb ρ cl k tok = cl k tok := by
  unfold clCons; rw [if_neg (fun e => h e.1)]
@[simp] theorem thaw_nil : thaw [] = [] := rfl
@[simp] theorem thaw_frz' {d : D} {ρ : En} : thaw (some (.frz d) :: ρ) = some (.frz d) :: thaw ρ := rfl
@[simp] theorem thaw_own' {ds : List D} {ρ : En} : thaw (some (.own ds) :: ρ) = none :: thaw ρ := rfl
@[simp] theorem thaw_none {ρ : En} : thaw (none :: ρ) = none :: thaw ρ := rfl
theorem thaw_cons {x : Option Sl} {ρ : En} : thaw (x :: ρ) = (match x with | some (.frz d) => some (.frz d) | _ => none) :: thaw ρ := rfl
theorem lamD_0 {fb : Den} {ρ : En} : lamD 0 fb ρ [] = fb (thaw ρ) := rfl
theorem lamD_1 {fb : Den} {ρ : En} {d : D} : lamD 1 fb ρ [d] = fb (some (.frz d) :: thaw ρ) := rfl
theorem sTryK_ok {i j : Nat} {xs : List PySem.Str} {g : SDen} {ρ ρ' : En} (h : g ρ = .next ρ') : sTryK i j xs g ρ = .next ρ' := by unfold sTryK; rw [h]
theorem sTryK_exn {i j : Nat} {xs : List PySem.Str} {g : SDen} {ρ ρ' : En} {x : PySem.Str} (h : g ρ = .exn x ρ') (hx : x ∈ xs) : sTryK i j xs g ρ = .next (((ρ'.set i (some (.frz (.exn x)))).set j (some (.frz (.exn x)))).set i none) := by unfold sTryK; rw [h]; exact if_pos hx
end FV

/-! GNP: what is no part (lines of K12M1). -/
namespace FVP
open FV
open L2 (atI)
theorem is_part_two (u v : Int) : d_is_part [.tup [.int u, .int v]] = .ok (.bl (decide (0 < v) && decide (Nat.gcd u.natAbs v.toNat = 1))) := by
  have n2 : neD (.int 2) (.int 2) = .ok (.bl false) := by rw [neD_int]; rfl
  by_cases hv : 0 < v
  · have e := d_common_nat u.natAbs v.toNat
    rw [show ((v.toNat : Nat) : Int) = v by omega] at e
    have e1 := eqD_int (i := ((Nat.gcd u.natAbs v.toNat : Nat) : Int)) (j := 1)
    have hd : decide (((Nat.gcd u.natAbs v.toNat : Nat) : Int) = 1) = decide (Nat.gcd u.natAbs v.toNat = 1) := by
      rw [decide_eq_decide]; omega
    rw [hd] at e1
    simp only [d_is_part, s_is_part, runB]
    simp [isiD, isSub, n2, whole_int, hv, abs_nat, e, e1]
  · simp only [d_is_part, s_is_part, runB]
    simp [isiD, isSub, n2, whole_int, hv]
theorem whole_bl (b : Bool) : d_is_whole [.bl b] = .ok (.bl false) := by simp [d_is_whole, s_is_whole, runB, isiD, isSub]
theorem no_part_1 (d : D) : d_is_part [.tup [d]] = .ok (.bl false) := by
  have n : neD (.int 1) (.int 2) = .ok (.bl true) := by rw [neD_int]; rfl
  simp only [d_is_part, s_is_part, runB]
  simp [isiD, isSub, n]
theorem no_part_3 (d e f : D) : d_is_part [.tup [d, e, f]] = .ok (.bl false) := by
  have n : neD (.int 3) (.int 2) = .ok (.bl true) := by rw [neD_int]; rfl
  simp only [d_is_part, s_is_part, runB]
  simp [isiD, isSub, n]
theorem no_part_lst (ds : List D) : d_is_part [.lst ds] = .ok (.bl false) := by
  simp only [d_is_part, s_is_part, runB]
  simp [isiD, isSub]
theorem no_part_int (i : Int) : d_is_part [.int i] = .ok (.bl false) := by
  simp only [d_is_part, s_is_part, runB]
  simp [isiD, isSub]
theorem no_part_bl (i : Bool) : d_is_part [.bl i] = .ok (.bl false) := by
  simp only [d_is_part, s_is_part, runB]
  simp [isiD, isSub]
theorem no_part_non : d_is_part [.non] = .ok (.bl false) := by
  simp only [d_is_part, s_is_part, runB]
  simp [isiD, isSub]
theorem no_part_str (x : PySem.Str) : d_is_part [.str x] = .ok (.bl false) := by
  simp only [d_is_part, s_is_part, runB]
  simp [isiD, isSub]
theorem no_part_b1 (b : Bool) (d : D) : d_is_part [.tup [.bl b, d]] = .ok (.bl false) := by
  have n : neD (.int 2) (.int 2) = .ok (.bl false) := by rw [neD_int]; rfl
  simp only [d_is_part, s_is_part, runB]
  simp [isiD, isSub, n, whole_bl]
theorem no_part_b2 (i : Int) (b : Bool) : d_is_part [.tup [.int i, .bl b]] = .ok (.bl false) := by
  have n : neD (.int 2) (.int 2) = .ok (.bl false) := by rw [neD_int]; rfl
  simp only [d_is_part, s_is_part, runB]
  simp [isiD, isSub, n, whole_bl, whole_int]
end FVP

set_option maxHeartbeats 4000000
/-! K01M1: what is drawn, and refusals told by a word (lines of K02M and K04M). -/
namespace MathLaw
open Walk FV FVP
open L2 (atI)
theorem mixedE (c k : Int) (h0 : 0 ≤ k) (h1 : k < 1000000) : ∃ m : Int, d__law_mixed [.int c, .int k] = .ok (.int m) ∧ 0 ≤ m ∧ m < 2147483629 := ⟨_, mixed h0 h1, by unfold mix; exact ⟨Int.emod_nonneg _ (by decide), Int.emod_lt_of_pos _ (by decide)⟩⟩
theorem number (c k z : Int) (h0 : 0 ≤ k) (h1 : k < 900000) (hz : 0 < z) : ∃ m : Int, d__law_number [.int c, .int k, .int z] = .ok (.int m) ∧ 0 ≤ m ∧ m < z := by
  obtain ⟨ρ', e, f, x, rfl⟩ := forD_inv (T := .nm 4) (body := s__law_number_l1)
    (fun _ ρ => ∃ (f : Int) (x : Option Sl), ρ = [some (.frz (.int c)), some (.frz (.int k)), some (.frz (.int z)), some (.frz (.int f)), x]) (rangeL 0 8) 0
    [some (.frz (.int c)), some (.frz (.int k)), some (.frz (.int z)), some (.frz (.int 0)), none] ⟨0, none, rfl⟩ (by
      rintro i d ρ hd ⟨f, x, rfl⟩
      obtain ⟨hi, rfl⟩ := range0_get hd
      obtain ⟨m, hm, _, _⟩ := mixedE c (k + (i : Int)) (by omega) (by omega)
      exact ⟨_, _, rfl, .inl (by simp [s__law_number_l1, mulD_int (mulOk_r (i := f) (j := 2147483629) (by decide) (by decide)), hm]; exact ⟨rfl, rfl⟩), _, _, rfl⟩)
  refine ⟨f % z, ?_, Int.emod_nonneg _ (by omega), Int.emod_lt_of_pos _ hz⟩
  have e8 : rng1 [.int 8] = .ok (rangeL 0 8) := by simp [rng1]
  simp [d__law_number, s__law_number, runB, e8, e, modD_int hz]
theorem at4 (a b c d : D) (i : Int) (h0 : 0 ≤ i) (h1 : i < 4) : ∃ e, atI [a, b, c, d] i = some e ∧ (e = a ∨ e = b ∨ e = c ∨ e = d) := by
  have h : i = 0 ∨ i = 1 ∨ i = 2 ∨ i = 3 := by omega
  rcases h with rfl | rfl | rfl | rfl <;> exact ⟨_, rfl, by simp⟩
theorem at3 (a b c : D) (i : Int) (h0 : 0 ≤ i) (h1 : i < 3) : ∃ e, atI [a, b, c] i = some e ∧ (e = a ∨ e = b ∨ e = c) := by
  have h : i = 0 ∨ i = 1 ∨ i = 2 := by omega
  rcases h with rfl | rfl | rfl <;> exact ⟨_, rfl, by simp⟩
theorem pow18 : powD (.int 10) (.int 18) = .ok (.int 1000000000000000000) := by rw [powD_int (by unfold PowOk; decide)]; rfl
theorem pow60 : powD (.int 10) (.int 60) = .ok (.int 1000000000000000000000000000000000000000000000000000000000000) := by rw [powD_int (by unfold PowOk; decide)]; rfl
theorem pair (c k : Int) (h0 : 0 ≤ k) (h1 : k < 800000) : ∃ u v : Int, d__law_pair [.int c, .int k] = .ok (.tup [.int u, .int v]) ∧ Sm 200 u ∧ 0 < v ∧ Sm 200 v := by
  obtain ⟨m, hm, m0, m1⟩ := mixedE c k h0 (by omega)
  obtain ⟨e, he, hz⟩ := at4 (.int 10) (.int 1000) (.int 1000000000000000000) (.int 1000000000000000000000000000000000000000000000000000000000000) (m % 4) (by omega) (by omega)
  obtain ⟨z, rfl, z0, z1⟩ : ∃ z : Int, e = .int z ∧ 0 < z ∧ z ≤ 1000000000000000000000000000000000000000000000000000000000000 := by
    rcases hz with rfl | rfl | rfl | rfl <;> exact ⟨_, rfl, by decide, by decide⟩
  obtain ⟨n, hn, n0, n1⟩ := number c (k + 1) (2 * z + 1) (by omega) (by omega) (by omega)
  obtain ⟨m2, hm2, m20, m21⟩ := mixedE c (k + 21) (by omega) (by omega)
  obtain ⟨e2, he2, hz2⟩ := at3 (.int 1) (.int 12) (.int z) (m2 % 3) (by omega) (by omega)
  obtain ⟨y, rfl, y0, y1⟩ : ∃ y : Int, e2 = .int y ∧ 0 < y ∧ y ≤ 1000000000000000000000000000000000000000000000000000000000000 := by
    rcases hz2 with rfl | rfl | rfl
    · exact ⟨_, rfl, by decide, by decide⟩
    · exact ⟨_, rfl, by decide, by decide⟩
    · exact ⟨_, rfl, z0, z1⟩
  obtain ⟨n2, hn2, n20, n21⟩ := number c (k + 11) y (by omega) (by omega) (by omega)
  refine ⟨n - z, 1 + n2, ?_, by unfold Sm; omega, by omega, by unfold Sm; omega⟩
  have e3 : MulOk 2 z := mulOk_l (by omega) (by omega)
  simp [d__law_pair, s__law_pair, runB, hm, pow18, pow60, modD_int, he, mulD_int e3, hn, hm2, he2, hn2]

theorem lowest (u v : Int) (n : Nat) (hn : n ≤ 9000) (h0 : 0 < n) (hu : Sm n u) (hv : 0 < v) (hv2 : Sm n v) : d__law_lowest [.int u, .int v] = .ok (pt (Rat.divInt u v)) := by
  have hg : 0 < Nat.gcd u.natAbs v.natAbs := Nat.gcd_pos_of_pos_right _ (by omega)
  have hgl : Nat.gcd u.natAbs v.natAbs ≤ v.natAbs := Nat.gcd_le_right _ (by omega)
  have hd : DivOk ((Nat.gcd u.natAbs v.natAbs : Nat) : Int) := divOk_of (b := n) (by omega) (by unfold Sm at *; omega) h0 hn
  obtain ⟨r1, r2⟩ := red_pos u v hv
  have eu : (if u < 0 then -u else u) = (u.natAbs : Int) := by omega
  have ev : (if v < 0 then -v else v) = (v.natAbs : Int) := by omega
  have loop := gcd_loop (t := tVal (dBin gtD (dVarR 3) (dC (.int 0)))) (g := sPar 2 3 (dVar 3) (dBin modD (dVarR 2) (dVarR 3)))
    (fun a b => [some (.frz (.int u)), some (.frz (.int v)), some (.frz (.int (a : Int))), some (.frz (.int (b : Int)))])
    (fun a b => by simp) (fun a b hb => by simp [modD_int (show (0 : Int) < (b : Int) by omega)]) u.natAbs v.natAbs
  have hlt : ¬ v < 0 := by omega
  rw [show ((v.natAbs : Nat) : Int) = v by omega] at loop
  unfold pt
  simp [d__law_lowest, s__law_lowest, runB, eu, loop, hlt, fdivD_int hd, r1, r2]
/-- what is told to be a part and the due one -/
theorem law_is (p q : Rat) : d__law_is [pt p, pt q] = .ok (.bl (decide (p = q))) := by
  have e := eqD_pt (p := p) (q := q)
  unfold pt at e ⊢
  have ne : neD (.int 2) (.int 2) = .ok (.bl false) := by rw [neD_int]; rfl
  simp [d__law_is, s__law_is, s__law_is_l1, runB, isiD, isSub, forD, ne, e]
theorem neg_low {u v : Int} {n : Nat} (hn : n ≤ 9000) (h0 : 0 < n) (hu : Sm n u) (hv : v ≠ 0) (hv2 : Sm n v) : d__law_lowest [.int u, .int v] = .ok (pt (Rat.divInt u v)) := by
  by_cases hp : 0 < v
  · exact lowest u v n hn h0 hu hp hv2
  · have hneg : v < 0 := by omega
    have hg : 0 < Nat.gcd u.natAbs v.natAbs := Nat.gcd_pos_of_pos_right _ (by omega)
    have hgl : Nat.gcd u.natAbs v.natAbs ≤ v.natAbs := Nat.gcd_le_right _ (by omega)
    have hd : DivOk (-((Nat.gcd u.natAbs v.natAbs : Nat) : Int)) := divOk_of (b := n) (by omega) (by unfold Sm at *; omega) h0 hn
    obtain ⟨r1, r2⟩ := red_neg u v hneg
    have loop := gcd_loop (t := tVal (dBin gtD (dVarR 3) (dC (.int 0)))) (g := sPar 2 3 (dVar 3) (dBin modD (dVarR 2) (dVarR 3)))
      (fun a b => [some (.frz (.int u)), some (.frz (.int v)), some (.frz (.int (a : Int))), some (.frz (.int (b : Int)))])
      (fun a b => by simp) (fun a b hb => by simp [modD_int (show (0 : Int) < (b : Int) by omega)]) u.natAbs v.natAbs
    unfold pt
    rw [show ((v.natAbs : Nat) : Int) = -v by omega] at loop
    simp only [d__law_lowest, s__law_lowest, runB]
    simp [abs_nat, loop, hneg, fdivD_int hd, r1, r2]
theorem word_part : d__law_word [.exn "NoPart"] = .ok (.str "part") := by
  refine runB_ret ?_
  show s__law_word [some (.frz (.exn "NoPart")), none, none] = _
  unfold s__law_word
  have e1 : isXD xsE ["NoPart"] (.exn "NoPart") = .ok (.bl true) := rfl
  have e2 : isXD xsE [] (.exn "NoPart") = .ok (.bl false) := rfl
  rfl
theorem refused {cl : Cl} {j : Nat} {tok : LTok} (h : cl j tok [] = .exn "NoPart") : d__law_refused cl [.lam j tok] = .ok (.str "part") := by
  refine runB_ret ?_
  show s__law_refused cl [some (.frz (.lam j tok)), none, none] = _
  unfold s__law_refused
  refine (bseq_next (ρ' := [some (.frz (.lam j tok)), some (.frz .non), none]) (by simp)).trans ?_
  have e : sExpr (dCallC 0 cl aNil) [some (.frz (.lam j tok)), some (.frz .non), none] = .exn "NoPart" [some (.frz (.lam j tok)), some (.frz .non), none] := by simp [h]
  refine (bseq_next (sTryK_exn e (by decide))).trans ?_
  simp [isD, D.isNon, word_part]
theorem cell_at (ns : List Int) (k : Nat) (hk : k < 1000) : ∃ c : Int, d__law_cell_at_k04 [.klst (ns.map D.int), .int (k : Int)] = .ok (.int c) ∧ 0 ≤ c := by
  by_cases h : k < ns.length
  · have f := mixed (c := ns[k]) (k := (k : Int)) (by omega) (by omega)
    have hlt : ((k : Int)) < (ns.length : Int) := by omega
    have hi : atI (ns.map D.int) (k : Int) = some (.int ns[k]) := by
      have := atI_nn (xs := ns.map D.int) k
      rw [this]; simp [h]
    refine ⟨_, ?_, mix_nn ns[k] (k : Int)⟩
    simp only [d__law_cell_at_k04, s__law_cell_at_k04, runB]
    simp [hlt, hi, f]
  · have f := mixed (c := (k : Int)) (k := 3) (by omega) (by omega)
    have hlt : ¬ ((k : Int)) < (ns.length : Int) := by omega
    refine ⟨_, ?_, mix_nn (k : Int) 3⟩
    simp only [d__law_cell_at_k04, s__law_cell_at_k04, runB]
    simp [hlt, f]

end MathLaw

set_option maxHeartbeats 4000000
/-! K01M2: what is a whole number, what is a part: as the program and as the law tell it. -/
namespace MathLaw
open Walk FV FVP
open L2 (atI)
theorem whole_eq : d__law_whole = d_is_whole := rfl
theorem len2 : neD (.int 2) (.int 2) = .ok (.bl false) := by rw [neD_int]; rfl
/-- told alike -/
def Told (d : D) : Prop := d__law_told [d] = .ok (.bl true)
theorem told_of {d : D} {a p : Bool} (h1 : d_is_whole [d] = .ok (.bl a)) (h3 : d_is_part [d] = .ok (.bl p)) (h4 : d__law_is_part [d] = .ok (.bl p)) : Told d := by
  have ea : neD (.bl a) (.bl a) = .ok (.bl false) := by cases a <;> rfl
  have ep : neD (.bl p) (.bl p) = .ok (.bl false) := by cases p <;> rfl
  have i1 : isiD "bool" (.bl a) = .ok (.bl true) := rfl
  have i2 : isiD "bool" (.bl p) = .ok (.bl true) := rfl
  have lw : d__law_whole [d] = .ok (.bl a) := by rw [whole_eq]; exact h1
  have g1 : s__law_told_l1 [some (.frz d), some (.frz (.bl a)), some (.frz (.bl a))] = .next [some (.frz d), some (.frz (.bl a)), some (.frz (.bl a))] := by simp [s__law_told_l1, i1, ea]
  have g2 : s__law_told_l1 [some (.frz d), some (.frz (.bl p)), some (.frz (.bl p))] = .next [some (.frz d), some (.frz (.bl p)), some (.frz (.bl p))] := by simp [s__law_told_l1, i2, ep]
  refine runB_ret ?_
  show s__law_told [some (.frz d), none, none] = _
  unfold s__law_told
  refine (bseq_next (ρ' := [some (.frz d), some (.frz (.bl p)), some (.frz (.bl p))]) ?_).trans (by simp)
  have hit : iSeq (dLst (aCons (dTup (aCons (dCall d_is_whole (aCons (dVar 0) aNil)) (aCons (dCall d__law_whole (aCons (dVar 0) aNil)) aNil))) (aCons (dTup (aCons (dCall d_is_part (aCons (dVar 0) aNil)) (aCons (dCall d__law_is_part (aCons (dVar 0) aNil)) aNil))) aNil))) [some (.frz d), none, none] = .ok [.tup [.bl a, .bl a], .tup [.bl p, .bl p]] := by
    simp [h1, lw, h3, h4]
  rw [sFor_ev, hit, lift_ok]
  simp only [forD, asg_tp, List.length_cons, List.length_nil, if_true, sets_cons, sets_nil, List.set_cons_succ, List.set_cons_zero, g1, g2]
theorem not_tup {d : D} (h : isiD "tuple" d = .ok (.bl false)) : d_is_part [d] = .ok (.bl false) ∧ d__law_is_part [d] = .ok (.bl false) := by
  refine ⟨?_, ?_⟩
  · simp only [d_is_part, s_is_part, runB]; simp [h]
  · simp only [d__law_is_part, s__law_is_part, runB]; simp [h]
theorem tup_len {ds : List D} (h : ds.length ≠ 2) : d_is_part [.tup ds] = .ok (.bl false) ∧ d__law_is_part [.tup ds] = .ok (.bl false) := by
  have k : lenD [.tup ds] = .ok (.int (ds.length : Int)) := rfl
  have n : neD (.int (ds.length : Int)) (.int 2) = .ok (.bl true) := by rw [neD_int, decide_eq_false (by omega)]; rfl
  have i : isiD "tuple" (.tup ds) = .ok (.bl true) := rfl
  generalize (ds.length : Int) = l at k n
  generalize D.tup ds = t at k i ⊢
  refine ⟨?_, ?_⟩
  · simp only [d_is_part, s_is_part, runB]; simp [i, k, n]
  · simp only [d__law_is_part, s__law_is_part, runB]; simp [i, k, n]
theorem tup_odd1 {a b : D} (h : d_is_whole [a] = .ok (.bl false)) : d_is_part [.tup [a, b]] = .ok (.bl false) ∧ d__law_is_part [.tup [a, b]] = .ok (.bl false) := by
  have h' : d__law_whole [a] = .ok (.bl false) := by rw [whole_eq]; exact h
  refine ⟨?_, ?_⟩
  · simp only [d_is_part, s_is_part, runB]; simp [isiD, isSub, len2, h]
  · simp only [d__law_is_part, s__law_is_part, runB]; simp [isiD, isSub, len2, h']
theorem tup_odd2 {a b : D} {z : Bool} (h0 : d_is_whole [a] = .ok (.bl z)) (h : d_is_whole [b] = .ok (.bl false)) : d_is_part [.tup [a, b]] = .ok (.bl false) ∧ d__law_is_part [.tup [a, b]] = .ok (.bl false) := by
  have h0' : d__law_whole [a] = .ok (.bl z) := by rw [whole_eq]; exact h0
  have h' : d__law_whole [b] = .ok (.bl false) := by rw [whole_eq]; exact h
  cases z with
  | false => exact tup_odd1 h0
  | true =>
    refine ⟨?_, ?_⟩
    · simp only [d_is_part, s_is_part, runB]; simp [isiD, isSub, len2, h0, h]
    · simp only [d__law_is_part, s__law_is_part, runB]; simp [isiD, isSub, len2, h0', h']
open Classical in
theorem part_two {u v : Int} {n : Nat} (hn : n ≤ 9000) (h0 : 0 < n) (hu : Sm n u) (hv : Sm n v) : d__law_is_part [.tup [.int u, .int v]] = .ok (.bl (decide (0 < v) && decide (Nat.gcd u.natAbs v.toNat = 1))) := by
  have w : ∀ i, d__law_whole [.int i] = .ok (.bl true) := fun i => by rw [whole_eq]; exact whole_int i
  by_cases h : 0 < v
  · have el := lowest u v n hn h0 hu h hv
    have eq : eqD (pt (Rat.divInt u v)) (.tup [.int u, .int v]) = .ok (.bl (decide (Nat.gcd u.natAbs v.toNat = 1))) := by
      have p2 : Pl false 1 (.tup [.int u, .int v]) := .tup fun d hd => by
        simp only [List.mem_cons, List.not_mem_nil, or_false] at hd
        rcases hd with rfl | rfl <;> exact .int rfl
      rw [eqD_pl (pl_pt _) p2 (by omega) (by omega)]
      refine congrArg (fun z => Res.ok (D.bl z)) (decide_eq_decide.mpr ?_)
      have hvt : v.toNat = v.natAbs := by omega
      rw [hvt]
      obtain ⟨r1, r2⟩ := red_pos u v h
      have hg : 0 < Nat.gcd u.natAbs v.natAbs := Nat.gcd_pos_of_pos_right _ (by omega)
      constructor
      · intro z
        unfold pt at z
        injection z with z
        injection z with z1 z2
        injection z2 with z2
        injection z2 with z2
        rw [z2] at r2
        generalize Nat.gcd u.natAbs v.natAbs = g at r2 hg
        have : v = v / (g : Int) := by rw [← Int.fdiv_eq_ediv_of_nonneg _ (by omega)]; exact r2.symm
        rcases Nat.lt_or_ge 1 g with hg1 | hg1
        · have := Int.ediv_lt_self_of_pos_of_ne_one h (show (g : Int) ≠ 1 by omega)
          omega
        · omega
      · intro z
        rw [z] at r1 r2
        unfold pt
        rw [← r1, ← r2]
        simp
    have hd : decide (0 < v) = true := decide_eq_true h
    rw [hd, Bool.true_and]
    simp only [d__law_is_part, s__law_is_part, runB]
    simp [isiD, isSub, len2, w, h, el, eq]
  · rw [decide_eq_false h, Bool.false_and]
    simp only [d__law_is_part, s__law_is_part, runB]
    simp [isiD, isSub, len2, w, h]
theorem told_two {u v : Int} {n : Nat} (hn : n ≤ 9000) (h0 : 0 < n) (hu : Sm n u) (hv : Sm n v) : Told (.tup [.int u, .int v]) :=
  told_of (a := false) (by simp [d_is_whole, s_is_whole, runB, isiD, isSub]) (is_part_two u v) (part_two hn h0 hu hv)
theorem told_int (i : Int) : Told (.int i) := told_of (whole_int i) (not_tup (d := .int i) rfl).1 (not_tup (d := .int i) rfl).2
/-- no whole number -/
def NW (d : D) : Prop := d_is_whole [d] = .ok (.bl false)
theorem nw_of {d : D} (h : isiD "int" d = .ok (.bl false)) : NW d := by
  unfold NW
  simp only [d_is_whole, s_is_whole, runB]; simp [h]
theorem nw_bl (b : Bool) : NW (.bl b) := whole_bl b
end MathLaw

set_option maxHeartbeats 4000000
/-! K01M3: odd things, the parts that are made. -/
namespace MathLaw
open Walk FV FVP
open L2 (atI)
/-- neither a whole number, nor told otherwise by the law -/
def Odd (d : D) : Prop := NW d ∧ Told d
theorem odd_no {d : D} (h1 : isiD "int" d = .ok (.bl false)) (h2 : isiD "tuple" d = .ok (.bl false)) : Odd d := ⟨nw_of h1, told_of (nw_of h1) (not_tup h2).1 (not_tup h2).2⟩
theorem odd_bl (b : Bool) : Odd (.bl b) := ⟨nw_bl b, told_of (nw_bl b) (not_tup (d := .bl b) rfl).1 (not_tup (d := .bl b) rfl).2⟩
theorem nw_tup (ds : List D) : NW (.tup ds) := nw_of rfl
theorem odd_len {ds : List D} (h : ds.length ≠ 2) : Odd (.tup ds) := ⟨nw_tup ds, told_of (nw_tup ds) (tup_len h).1 (tup_len h).2⟩
theorem odd_two {u v : Int} {n : Nat} (hn : n ≤ 9000) (h0 : 0 < n) (hu : Sm n u) (hv : Sm n v) : Odd (.tup [.int u, .int v]) := ⟨nw_tup _, told_two hn h0 hu hv⟩
theorem odd_1 {a b : D} (h : NW a) : Odd (.tup [a, b]) := ⟨nw_tup _, told_of (nw_tup _) (tup_odd1 h).1 (tup_odd1 h).2⟩
theorem odd_2 {i : Int} {b : D} (h : NW b) : Odd (.tup [.int i, b]) := ⟨nw_tup _, told_of (nw_tup _) (tup_odd2 (whole_int i) h).1 (tup_odd2 (whole_int i) h).2⟩
def oddA (u v : Int) : List D := [.non, .bl true, .bl false, .str "1", .str "", .tup [.int 1, .int 2], .lst [.int 1], .dic0, .tup [.int u], .tup [.int u, .int v, .int 1], .lst [.int u, .int v]]
def oddB (u v : Int) : List D := [.tup [.int u, .int 0], .tup [.int 0, .int 0], .tup [.int u, .int (-v)], .tup [.bl true, .int 1], .tup [.int 1, .bl true], .tup [.str "1", .int 2], .tup [.non, .int 1]]
def oddC (u v : Int) : List D := [.tup [.tup [.int 1, .int 2], .int 1], .tup [.int 0, .int v], .tup [.int (2 * u), .int (2 * v)]]
theorem sm_of {n m : Nat} {i : Int} (h : Sm n i) (le : n ≤ m) : Sm m i := sm_mono h le
theorem sm_two {n : Nat} {i : Int} (h : Sm n i) : Sm (n + 1) (2 * i) := by
  unfold Sm at *
  rw [Nat.pow_succ]
  omega
theorem odd_all {u v : Int} (hu : Sm 200 u) (hv : Sm 200 v) : ∀ d ∈ oddA u v ++ oddB u v ++ oddC u v, Odd d := by
  have s0 : Sm 300 0 := by unfold Sm; decide
  have s1 : Sm 300 1 := by unfold Sm; decide
  have s2 : Sm 300 2 := by unfold Sm; decide
  have su : Sm 300 u := sm_of hu (by omega)
  have sv : Sm 300 v := sm_of hv (by omega)
  have sn : Sm 300 (-v) := by unfold Sm at sv ⊢; omega
  have tu : Sm 300 (2 * u) := sm_of (sm_two hu) (by omega)
  have tv : Sm 300 (2 * v) := sm_of (sm_two hv) (by omega)
  intro d hd
  simp only [oddA, oddB, oddC, List.cons_append, List.nil_append, List.mem_cons, List.not_mem_nil, or_false] at hd
  rcases hd with rfl | rfl | rfl | rfl | rfl | rfl | rfl | rfl | rfl | rfl | rfl | rfl | rfl | rfl | rfl | rfl | rfl | rfl | rfl | rfl | rfl
  · exact odd_no rfl rfl
  · exact odd_bl _
  · exact odd_bl _
  · exact odd_no rfl rfl
  · exact odd_no rfl rfl
  · exact odd_two (by decide) (by decide) s1 s2
  · exact odd_no rfl rfl
  · exact odd_no rfl rfl
  · exact odd_len (by simp)
  · exact odd_len (by simp)
  · exact odd_no rfl rfl
  · exact odd_two (by decide) (by decide) su s0
  · exact odd_two (by decide) (by decide) s0 s0
  · exact odd_two (by decide) (by decide) su sn
  · exact odd_1 (nw_bl _)
  · exact odd_2 (nw_bl _)
  · exact odd_1 (nw_of rfl)
  · exact odd_1 (nw_of rfl)
  · exact odd_1 (nw_tup _)
  · exact odd_two (by decide) (by decide) s0 sv
  · exact odd_two (by decide) (by decide) tu tv
theorem odd_drawn {u v : Int} (hu : Sm 200 u) (hv : Sm 200 v) (c : Int) : ∃ d, d__law_odd [.int c, .int u, .int v] = .ok d ∧ Odd d := by
  have hz : (1000 : Nat) < PySem.sizeLine := by decide
  obtain ⟨d, hd, e⟩ := at_mem (xs := oddA u v ++ oddB u v ++ oddC u v) (i := c % 21) (by omega) (by simp [oddA, oddB, oddC]; omega)
  refine ⟨d, runB_ret ?_, odd_all hu hv d hd⟩
  have m1 := mul_l (i := 2) (j := u) (by decide) (by decide)
  have m2 := mul_l (i := 2) (j := v) (by decide) (by decide)
  show s__law_odd [some (.frz (.int c)), some (.frz (.int u)), some (.frz (.int v)), none] = _
  have a1 : addD (.lst (oddA u v)) (.lst (oddB u v)) = .ok (.lst (oddA u v ++ oddB u v)) := addD_lst (by simp [oddA, oddB]; omega)
  have a2 : addD (.lst (oddA u v ++ oddB u v)) (.lst (oddC u v)) = .ok (.lst (oddA u v ++ oddB u v ++ oddC u v)) := addD_lst (by simp [oddA, oddB, oddC]; omega)
  have em : modD (.int c) (.int 21) = .ok (.int (c % 21)) := modD_int (by decide)
  have ei : ixD (.lst (oddA u v ++ oddB u v ++ oddC u v)) (.int (c % 21)) = .ok d := by rw [ixD_lst, e]
  have g1 : ∀ x3 : Option Sl, (sSet 3 (dBin addD (dVarR 3) (dLst (aCons (dTup (aCons (dVar 1) (aCons (dC (.int 0)) aNil))) (aCons (dTup (aCons (dC (.int 0)) (aCons (dC (.int 0)) aNil))) (aCons (dTup (aCons (dVar 1) (aCons (dUn negD (dVarR 2)) aNil))) (aCons (dTup (aCons (dC (.bl true)) (aCons (dC (.int 1)) aNil))) (aCons (dTup (aCons (dC (.int 1)) (aCons (dC (.bl true)) aNil))) (aCons (dTup (aCons (dC (.str "1")) (aCons (dC (.int 2)) aNil))) (aCons (dTup (aCons (dC .non) (aCons (dC (.int 1)) aNil))) aNil)))))))))) [some (.frz (.int c)), some (.frz (.int u)), some (.frz (.int v)), some (.frz (.lst (oddA u v)))] = .next [some (.frz (.int c)), some (.frz (.int u)), some (.frz (.int v)), some (.frz (.lst (oddA u v ++ oddB u v)))] := fun x3 => by
    generalize oddA u v ++ oddB u v = R at a1 ⊢
    generalize oddA u v = L at a1 ⊢
    unfold oddB at a1
    simp [a1]
  unfold s__law_odd
  refine (bseq_next (ρ' := [some (.frz (.int c)), some (.frz (.int u)), some (.frz (.int v)), some (.frz (.lst (oddA u v)))]) ?_).trans ?_
  · unfold oddA; simp
  refine (bseq_next (g1 none)).trans ?_
  generalize oddA u v ++ oddB u v ++ oddC u v = R at a2 ei
  generalize oddA u v ++ oddB u v = L at a2 ⊢
  unfold oddC at a2
  generalize c % 21 = c21 at ei em
  simp [m1, m2, a2, em, ei]
/-! ### the parts -/
theorem part1_int (u : Int) : d_part_1 [.int u] = .ok (pt (Rat.divInt u 1)) := part_2 (n := 5) (by decide) (by decide) (by decide) (by unfold Sm; decide)
theorem divInt_one (u : Int) : Rat.divInt u 1 = (u : Rat) := by
  have := eq_div (q := (u : Rat)) (u := u) (v := 1) (by decide) (by simp)
  exact this.symm
theorem div_pos_eq {u v m : Int} (hv : v ≠ 0) (hm : m ≠ 0) : Rat.divInt (u * m) (v * m) = Rat.divInt u v := by
  refine (eq_div (Int.mul_ne_zero hv hm) ?_).symm
  rw [Rat.intCast_mul, ← Rat.mul_assoc, div_mul hv, ← Rat.intCast_mul]
theorem div_neg_eq {u v m : Int} (hv : v ≠ 0) (hm : m ≠ 0) : Rat.divInt (u * m) (-v * m) = -Rat.divInt u v := by
  refine (eq_div (Int.mul_ne_zero (by omega) hm) ?_).symm
  rw [Rat.intCast_mul, ← Rat.mul_assoc, Rat.intCast_neg, Rat.neg_mul, Rat.mul_neg, Rat.neg_neg, div_mul hv, ← Rat.intCast_mul]
theorem div_zero_eq {s : Int} (hs : s ≠ 0) : Rat.divInt 0 s = 0 := (eq_div hs (by simp)).symm
theorem neg_pt (q : Rat) : D.tup [.int (-q.num), .int q.den] = pt (-q) := rfl
/-! ### refusals -/
theorem no1 {d : D} (h : NW d) : d_part_1 [d] = .exn "NoPart" := by
  have h : d_is_whole [d] = .ok (.bl false) := h
  show runB s_part 3 [d, .int 1] = _
  simp [runB, s_part, h]
theorem no2 {d : D} (u : Int) (h : NW d) : d_part_2 [.int u, d] = .exn "NoPart" := by
  have h : d_is_whole [d] = .ok (.bl false) := h
  simp only [d_part_2, s_part, runB]
  simp [whole_int, h]
theorem no3 {d e : D} (h : NW d) : d_part_2 [d, e] = .exn "NoPart" := by
  have h : d_is_whole [d] = .ok (.bl false) := h
  simp only [d_part_2, s_part, runB]
  simp [h]
theorem no4 (u : Int) : d_part_2 [.int u, .int 0] = .exn "NoPart" := by
  have z : eqD (.int 0) (.int 0) = .ok (.bl true) := by rw [eqD_int]; rfl
  simp only [d_part_2, s_part, runB]
  simp [whole_int, z]
end MathLaw

set_option maxHeartbeats 4000000
/-! K01M4: the law. -/
namespace MathLaw
open Walk FV FVP
open L2 (atI)
def P30 : Int := 1000000000000000000000000000000
theorem pow30 : powD (.int 10) (.int 30) = .ok (.int P30) := by rw [powD_int (by unfold PowOk; decide)]; rfl
theorem p30_pos : 0 < P30 := by decide
theorem p30_lt : P30 < 2 ^ 100 := by decide
theorem more_ok (c : Int) : ∃ m : Int, dBin addD (dC (.int 1)) (dCall d__law_number (aCons (dVar 2) (aCons (dC (.int 40)) (aCons (dBin ixD (dLst (aCons (dC (.int 1)) (aCons (dC (.int 10)) (aCons (dBin powD (dC (.int 10)) (dC (.int 30))) aNil)))) (dBin modD (dVarR 2) (dC (.int 3)))) aNil)))) = dBin addD (dC (.int 1)) (dCall d__law_number (aCons (dVar 2) (aCons (dC (.int 40)) (aCons (dBin ixD (dLst (aCons (dC (.int 1)) (aCons (dC (.int 10)) (aCons (dBin powD (dC (.int 10)) (dC (.int 30))) aNil)))) (dBin modD (dVarR 2) (dC (.int 3)))) aNil)))) ∧
    (∃ z : Int, atI [D.int 1, .int 10, .int P30] (c % 3) = some (.int z) ∧ ∃ n : Int, d__law_number [.int c, .int 40, .int z] = .ok (.int n) ∧ m = 1 + n) ∧ 1 ≤ m ∧ Sm 101 m := by
  obtain ⟨e, he, hz⟩ := at3 (.int 1) (.int 10) (.int P30) (c % 3) (by omega) (by omega)
  obtain ⟨z, rfl, z0, z1⟩ : ∃ z : Int, e = .int z ∧ 0 < z ∧ z ≤ P30 := by
    have := p30_pos
    have h10 : (10 : Int) ≤ P30 := by decide
    rcases hz with rfl | rfl | rfl
    · exact ⟨_, rfl, by decide, by omega⟩
    · exact ⟨_, rfl, by decide, h10⟩
    · exact ⟨_, rfl, this, Int.le_refl _⟩
  obtain ⟨n, hn, n0, n1⟩ := number c 40 z (by decide) (by decide) z0
  have hp := p30_lt
  refine ⟨1 + n, rfl, ⟨z, he, n, hn, rfl⟩, by omega, ?_⟩
  unfold Sm
  omega
theorem signed_ok (c v m : Int) (hv : Sm 200 v) (hm : Sm 101 m) (hv0 : 0 < v) (hm1 : 1 ≤ m) : ∃ w : Int, (w = v ∨ w = -v) ∧ atI [D.int v, .int (-v)] (c / 3 % 2) = some (.int w) ∧ mulD (.int w) (.int m) = .ok (.int (w * m)) ∧ Sm 301 (w * m) ∧ w * m ≠ 0 ∧ (w = v → ¬ w * m < 0) ∧ (w = -v → w * m < 0) := by
  have key : ∀ w : Int, (w = v ∨ w = -v) → mulD (.int w) (.int m) = .ok (.int (w * m)) ∧ Sm 301 (w * m) ∧ w * m ≠ 0 ∧ (w = v → ¬ w * m < 0) ∧ (w = -v → w * m < 0) := fun w hw => by
    have sw : Sm 200 w := by rcases hw with rfl | rfl <;> (unfold Sm at hv ⊢; omega)
    refine ⟨mulD_int (mulOk_w sw hm (by decide) (by decide) (by decide)), sm_mul sw hm, Int.mul_ne_zero (by omega) (by omega), fun h => ?_, fun h => ?_⟩
    · have := Int.mul_pos (show 0 < w by omega) (show 0 < m by omega)
      omega
    · have := Int.mul_neg_of_neg_of_pos (show w < 0 by omega) (show 0 < m by omega)
      exact this
  have h : c / 3 % 2 = 0 ∨ c / 3 % 2 = 1 := by omega
  rcases h with h | h <;> rw [h]
  · exact ⟨v, .inl rfl, rfl, key v (.inl rfl)⟩
  · exact ⟨-v, .inr rfl, rfl, key (-v) (.inr rfl)⟩
theorem ne_part : neD (.str "part") (.str "part") = .ok (.bl false) := by
  have h : PySem.PyData.strOk ("part" : PySem.Str) = true := by decide +kernel
  rw [neD_pl (b := false) (n := 0) (m := 0) (.str h) (.str h) (by omega) (by omega)]
  simp
theorem turn (tok : LTok) (ns : List Int) (k : Nat) (hk : k < 1000) (x2 x3 x4 x5 x6 x7 x8 x9 x10 x11 : Option Sl) :
    ∃ y2 y3 y4 y5 y6 y7 y8 y9 y10 y11, s_law_l1 tok [some (.frz (.klst (ns.map D.int))), some (.frz (.int (k : Int))), x2, x3, x4, x5, x6, x7, x8, x9, x10, x11] =
      .next [some (.frz (.klst (ns.map D.int))), some (.frz (.int (k : Int))), y2, y3, y4, y5, y6, y7, y8, y9, y10, y11] := by
  obtain ⟨c, hc, _⟩ := cell_at ns k hk
  obtain ⟨u, v, hp, hu, hv, hv2⟩ := pair c 1 (by decide) (by decide)
  obtain ⟨m, _, ⟨z, hz, n, hn, em⟩, m1, hm⟩ := more_ok c
  obtain ⟨w, hw, ew, mw, sw, nw, wp, wn⟩ := signed_ok c v m hv2 hm hv m1
  have el := lowest u v 200 (by decide) (by decide) hu hv hv2
  obtain ⟨d, ed, od⟩ := odd_drawn hu hv2 (c / 6)
  have mum : mulD (.int u) (.int m) = .ok (.int (u * m)) := mulD_int (mulOk_w hu hm (by decide) (by decide) (by decide))
  have e1 : d_part_2 [.int (u * m), .int (w * m)] = .ok (pt (Rat.divInt (u * m) (w * m))) := part_2 (n := 301) (by decide) (by decide) nw sw
  have e2 := part1_int u
  rw [divInt_one] at e2
  have e3 : d_part_2 [.int 0, .int (w * m)] = .ok (pt (Rat.divInt 0 (w * m))) := part_2 (n := 301) (by decide) (by decide) nw sw
  rw [div_zero_eq nw] at e3
  obtain ⟨q, eq, edue, sq⟩ : ∃ q : Rat, Rat.divInt (u * m) (w * m) = q ∧ (sIf (tVal (dBin ltD (dVarR 4) (dC (.int 0)))) (sSet 5 (dTup (aCons (dUn negD (dBin ixD (dVarR 5) (dC (.int 0)))) (aCons (dBin ixD (dVarR 5) (dC (.int 1))) aNil)))) bNil) [some (.frz (.klst (ns.map D.int))), some (.frz (.int (k : Int))), some (.frz (.int c)), some (.frz (.int m)), some (.frz (.int (w * m))), some (.frz (pt (Rat.divInt u v))), x6, x7, some (.frz (.int u)), some (.frz (.int v)), x10, x11] =
      .next [some (.frz (.klst (ns.map D.int))), some (.frz (.int (k : Int))), some (.frz (.int c)), some (.frz (.int m)), some (.frz (.int (w * m))), some (.frz (pt q)), x6, x7, some (.frz (.int u)), some (.frz (.int v)), x10, x11] ∧ Sm 200 q.num ∧ Sm 200 (q.den : Int) := by
    have a1 := num_le u v
    have a2 := den_le u v (by omega)
    generalize ns.map D.int = NS
    rcases hw with rfl | rfl
    · refine ⟨Rat.divInt u w, div_pos_eq (by omega) (by omega), ?_, by unfold Sm at *; omega, by unfold Sm at *; omega⟩
      have := wp rfl
      generalize w * m = s at this ⊢
      generalize pt (Rat.divInt u w) = P
      simp [this]
    · refine ⟨-Rat.divInt u v, div_neg_eq (by omega) (by omega), ?_, ?_, ?_⟩
      · have := wn rfl
        have i0 : ixD (pt (Rat.divInt u v)) (.int 0) = .ok (.int (Rat.divInt u v).num) := rfl
        have i1 : ixD (pt (Rat.divInt u v)) (.int 1) = .ok (.int (Rat.divInt u v).den) := rfl
        rw [← neg_pt]
        generalize -v * m = s at this ⊢
        generalize pt (Rat.divInt u v) = P at i0 i1 ⊢
        simp [this, i0, i1]
      · show Sm 200 (-(Rat.divInt u v).num)
        unfold Sm at *; omega
      · show Sm 200 ((Rat.divInt u v).den : Int)
        unfold Sm at *; omega
  rw [eq] at e1
  have c1 := law_is q q
  rw [decide_eq_true rfl] at c1
  have c2 := law_is (u : Rat) (u : Rat)
  rw [decide_eq_true rfl] at c2
  have c3 := law_is 0 0
  rw [decide_eq_true rfl] at c3
  have u1 : D.tup [.int u, .int 1] = pt (u : Rat) := rfl
  have z1 : D.tup [.int 0, .int 1] = pt 0 := rfl
  have tq : Told (pt q) := told_two (n := 200) (by decide) (by decide) sq.1 sq.2
  have tu : Told (.int u) := told_int u
  have tuv : Told (.tup [.int u, .int v]) := told_two (n := 200) (by decide) (by decide) hu hv2
  have td := od.2
  unfold Told at tq tu tuv td
  have cmp : compD (.nm 10) (tNotB (tVal (dCall d__law_told (aCons (dVar 10) aNil)))) (dVar 10) [d, .int u, .tup [.int u, .int v], pt q] [some (.frz (.klst (ns.map D.int))), some (.frz (.int (k : Int))), some (.frz (.int c)), some (.frz (.int m)), some (.frz (.int (w * m))), some (.frz (pt q)), some (.frz d), x7, some (.frz (.int u)), some (.frz (.int v)), none, x11] = .ok [] := by
    generalize ns.map D.int = NS
    generalize pt q = P at tq ⊢
    simp [compD, tq, tu, tuv, td]
  -- the lambdas
  have R : ∀ j : Nat, j < 4 → (c_law tok [some (.frz (.klst (ns.map D.int))), some (.frz (.int (k : Int))), some (.frz (.int c)), some (.frz (.int m)), some (.frz (.int (w * m))), some (.frz (pt q)), some (.frz d), some (.own [.lam 0 tok, .lam 1 tok, .lam 2 tok, .lam 3 tok]), some (.frz (.int u)), some (.frz (.int v)), x10, x11]) j tok [] = .exn "NoPart" := by
    intro j hj
    have n1 := no1 od.1
    have n2 := no2 u od.1
    have n3 := no3 (e := .int v) od.1
    have n4 := no4 u
    unfold c_law c_law_3 c_law_2 c_law_1 c_law_0
    generalize ns.map D.int = NS
    generalize pt q = P
    match j, hj with
    | 0, _ => rw [clCons_ne (by decide), clCons_ne (by decide), clCons_ne (by decide), clCons_same, lamD_0]; simp [lb_law_0, thaw, n1]
    | 1, _ => rw [clCons_ne (by decide), clCons_ne (by decide), clCons_same, lamD_0]; simp [lb_law_1, thaw, n2]
    | 2, _ => rw [clCons_ne (by decide), clCons_same, lamD_0]; simp [lb_law_2, thaw, n3]
    | 3, _ => rw [clCons_same, lamD_0]; simp [lb_law_3, thaw, n4]
    | n + 4, h => exact absurd h (by omega)
  generalize hcl : c_law tok [some (.frz (.klst (ns.map D.int))), some (.frz (.int (k : Int))), some (.frz (.int c)), some (.frz (.int m)), some (.frz (.int (w * m))), some (.frz (pt q)), some (.frz d), some (.own [.lam 0 tok, .lam 1 tok, .lam 2 tok, .lam 3 tok]), some (.frz (.int u)), some (.frz (.int v)), x10, x11] = cl at R
  have r0 := refused (R 0 (by decide))
  have r1 := refused (R 1 (by decide))
  have r2 := refused (R 2 (by decide))
  have r3 := refused (R 3 (by decide))
  have cmq : ∀ y : Option Sl, compD (.nm 11) (tVal (dBin neD (dCallM d__law_refused (fun _ => cl) (aCons (dVar 11) aNil)) (dC (.str "part")))) (dVar 11) [.lam 0 tok, .lam 1 tok, .lam 2 tok, .lam 3 tok] [some (.frz (.klst (ns.map D.int))), some (.frz (.int (k : Int))), some (.frz (.int c)), some (.frz (.int m)), some (.frz (.int (w * m))), some (.frz (pt q)), some (.frz d), none, some (.frz (.int u)), some (.frz (.int v)), y, none] = .ok [] := fun y => by
    have np := ne_part
    generalize ns.map D.int = NS
    generalize pt q = P
    simp [compD, dCallM, r0, r1, r2, r3, np]
  have ne0 : neD (.lst []) (.lst []) = .ok (.bl false) := by
    have h0 : Pl false 1 (.lst []) := .lst fun d h => by simp at h
    rw [neD_pl h0 h0 (by omega) (by omega)]
    simp
  have last : (dCompM (iSeq (dVarR 7)) [11] (.nm 11) (fun cl => (tVal (dBin neD (dCallM d__law_refused (fun _ => cl) (aCons (dVar 11) aNil)) (dC (.str "part"))))) (fun cl => (dVar 11)) (c_law tok)) [some (.frz (.klst (ns.map D.int))), some (.frz (.int (k : Int))), some (.frz (.int c)), some (.frz (.int m)), some (.frz (.int (w * m))), some (.frz (pt q)), some (.frz d), some (.own [.lam 0 tok, .lam 1 tok, .lam 2 tok, .lam 3 tok]), some (.frz (.int u)), some (.frz (.int v)), x10, x11] = .ok (.lst []) := by
    obtain ⟨y, hy⟩ : ∃ y, wipeE (thaw [some (.frz (.klst (ns.map D.int))), some (.frz (.int (k : Int))), some (.frz (.int c)), some (.frz (.int m)), some (.frz (.int (w * m))), some (.frz (pt q)), some (.frz d), some (.own [.lam 0 tok, .lam 1 tok, .lam 2 tok, .lam 3 tok]), some (.frz (.int u)), some (.frz (.int v)), x10, x11]) [11] = [some (.frz (.klst (ns.map D.int))), some (.frz (.int (k : Int))), some (.frz (.int c)), some (.frz (.int m)), some (.frz (.int (w * m))), some (.frz (pt q)), some (.frz d), none, some (.frz (.int u)), some (.frz (.int v)), y, none] := ⟨_, rfl⟩
    show (Res.ok [D.lam 0 tok, .lam 1 tok, .lam 2 tok, .lam 3 tok]).bind (fun ds => if ds.length ≤ PySem.sizeLine then compR (compD (.nm 11) _ _ ds _) else .stuck) = _
    rw [bind_ok', if_pos (by have : (1000 : Nat) < PySem.sizeLine := by decide
                             simp; omega), hy, hcl]
    show compR (compD (.nm 11) (tVal (dBin neD (dCallM d__law_refused (fun _ => cl) (aCons (dVar 11) aNil)) (dC (.str "part")))) (dVar 11) [.lam 0 tok, .lam 1 tok, .lam 2 tok, .lam 3 tok] _) = _
    rw [cmq y]
    rfl
  clear R r0 r1 r2 r3 cmq hcl
  refine ⟨some (.frz (.int c)), some (.frz (.int m)), some (.frz (.int (w * m))), some (.frz (pt q)), some (.frz d), some (.own [.lam 0 tok, .lam 1 tok, .lam 2 tok, .lam 3 tok]), some (.frz (.int u)), some (.frz (.int v)), x10, x11, ?_⟩
  have m3 : modD (.int c) (.int 3) = .ok (.int (c % 3)) := modD_int (by decide)
  have m2 : modD (.int (c / 3)) (.int 2) = .ok (.int (c / 3 % 2)) := modD_int (by decide)
  have d6 : fdivD (.int c) (.int 6) = .ok (.int (c / 6)) := fdiv_lit (by decide) (by decide)
  have d3 : fdivD (.int c) (.int 3) = .ok (.int (c / 3)) := fdiv_lit (by decide) (by decide)
  generalize c / 6 = c6 at ed d6
  generalize c / 3 % 2 = c32 at ew m2
  generalize c / 3 = c3 at m2 d3
  generalize c % 3 = cm at hz m3
  have k30 := pow30
  generalize P30 = p30 at hz k30
  generalize hs : w * m = sg at *
  clear hs eq sw nw wp wn
  generalize Rat.divInt u v = q0 at el edue
  generalize hNS : ns.map D.int = NS at *
  clear hNS
  unfold s_law_l1
  refine (bseq_next (ρ' := [some (.frz (.klst NS)), some (.frz (.int (k : Int))), some (.frz (.int c)), x3, x4, x5, x6, x7, x8, x9, x10, x11]) (by simp [hc])).trans ?_
  refine (bseq_next (ρ' := [some (.frz (.klst NS)), some (.frz (.int (k : Int))), some (.frz (.int c)), x3, x4, x5, x6, x7, some (.frz (.int u)), some (.frz (.int v)), x10, x11]) (by simp [hp])).trans ?_
  refine (bseq_next (ρ' := [some (.frz (.klst NS)), some (.frz (.int (k : Int))), some (.frz (.int c)), some (.frz (.int m)), x4, x5, x6, x7, some (.frz (.int u)), some (.frz (.int v)), x10, x11]) (by simp [k30, m3, hz, hn, em])).trans ?_
  refine (bseq_next (ρ' := [some (.frz (.klst NS)), some (.frz (.int (k : Int))), some (.frz (.int c)), some (.frz (.int m)), some (.frz (.int sg)), x5, x6, x7, some (.frz (.int u)), some (.frz (.int v)), x10, x11]) (by simp [d3, m2, ew, mw])).trans ?_
  refine (bseq_next (ρ' := [some (.frz (.klst NS)), some (.frz (.int (k : Int))), some (.frz (.int c)), some (.frz (.int m)), some (.frz (.int sg)), some (.frz (pt q0)), x6, x7, some (.frz (.int u)), some (.frz (.int v)), x10, x11]) (by simp [el])).trans ?_
  refine (bseq_next edue).trans ?_
  generalize pt q0 = Q0 at *
  generalize pt q = Q at *
  generalize pt (u : Rat) = PU at *
  generalize pt 0 = Z at *
  refine (bseq_next (ρ' := [some (.frz (.klst NS)), some (.frz (.int (k : Int))), some (.frz (.int c)), some (.frz (.int m)), some (.frz (.int sg)), some (.frz Q), x6, x7, some (.frz (.int u)), some (.frz (.int v)), x10, x11]) (by simp [mum, e1, c1, e2, u1, c2])).trans ?_
  refine (bseq_next (ρ' := [some (.frz (.klst NS)), some (.frz (.int (k : Int))), some (.frz (.int c)), some (.frz (.int m)), some (.frz (.int sg)), some (.frz Q), x6, x7, some (.frz (.int u)), some (.frz (.int v)), x10, x11]) (by simp [e3, z1, c3])).trans ?_
  refine (bseq_next (ρ' := [some (.frz (.klst NS)), some (.frz (.int (k : Int))), some (.frz (.int c)), some (.frz (.int m)), some (.frz (.int sg)), some (.frz Q), some (.frz d), x7, some (.frz (.int u)), some (.frz (.int v)), x10, x11]) (by simp [d6, ed])).trans ?_
  refine (bseq_next (ρ' := [some (.frz (.klst NS)), some (.frz (.int (k : Int))), some (.frz (.int c)), some (.frz (.int m)), some (.frz (.int sg)), some (.frz Q), some (.frz d), x7, some (.frz (.int u)), some (.frz (.int v)), x10, x11]) (by
    have h4 : (4 : Nat) ≤ PySem.sizeLine := by decide
    simp [dComp_ev, h4, wipeE, cmp, compR, ne0])).trans ?_
  refine (bseq_next (ρ' := [some (.frz (.klst NS)), some (.frz (.int (k : Int))), some (.frz (.int c)), some (.frz (.int m)), some (.frz (.int sg)), some (.frz Q), some (.frz d), some (.own [.lam 0 tok]), some (.frz (.int u)), some (.frz (.int v)), x10, x11]) (by simp)).trans ?_
  have h1 : (1 : Nat) < PySem.sizeLine := by decide
  have h2 : (2 : Nat) < PySem.sizeLine := by decide
  have h3 : (3 : Nat) < PySem.sizeLine := by decide
  refine (bseq_next (ρ' := [some (.frz (.klst NS)), some (.frz (.int (k : Int))), some (.frz (.int c)), some (.frz (.int m)), some (.frz (.int sg)), some (.frz Q), some (.frz d), some (.own [.lam 0 tok, .lam 1 tok]), some (.frz (.int u)), some (.frz (.int v)), x10, x11]) (by simp [sApp, h1])).trans ?_
  refine (bseq_next (ρ' := [some (.frz (.klst NS)), some (.frz (.int (k : Int))), some (.frz (.int c)), some (.frz (.int m)), some (.frz (.int sg)), some (.frz Q), some (.frz d), some (.own [.lam 0 tok, .lam 1 tok, .lam 2 tok]), some (.frz (.int u)), some (.frz (.int v)), x10, x11]) (by simp [sApp, h2])).trans ?_
  refine (bseq_next (ρ' := [some (.frz (.klst NS)), some (.frz (.int (k : Int))), some (.frz (.int c)), some (.frz (.int m)), some (.frz (.int sg)), some (.frz Q), some (.frz d), some (.own [.lam 0 tok, .lam 1 tok, .lam 2 tok, .lam 3 tok]), some (.frz (.int u)), some (.frz (.int v)), x10, x11]) (by simp [sApp, h3])).trans ?_
  simp only [sIf_ev, tVal_ev, dBin_ev, last, bind_ok', dLst_ev, aNil_ev, List.length_nil, Nat.zero_le, if_true, ne0, asB_ev, lift_ok, Bool.false_eq_true, if_false, bNil_ev]
theorem law_true : ∀ ns : List Int, ns.length ≤ 63 → d_law [.klst (ns.map D.int)] = .ok (.bl true) := by
  intro ns hl
  refine indep_eq fun tok => ?_
  obtain ⟨n, hn, hn2⟩ : ∃ n : Nat, (if (if (50 : Int) < (ns.length : Int) then 50 else (ns.length : Int)) > 1 then (if (50 : Int) < (ns.length : Int) then 50 else (ns.length : Int)) else 1) = (n : Int) ∧ n ≤ 50 :=
    ⟨(if (if (50 : Int) < (ns.length : Int) then 50 else (ns.length : Int)) > 1 then (if (50 : Int) < (ns.length : Int) then 50 else (ns.length : Int)) else 1).toNat, by split <;> split <;> omega, by split <;> split <;> omega⟩
  have hr := rng1_nat (n := n) (by omega)
  obtain ⟨ρ', e, x2, x3, x4, x5, x6, x7, x8, x9, x10, x11, x1, rfl⟩ := forD_inv (T := .nm 1) (body := s_law_l1 tok)
    (fun _ ρ => ∃ x2 x3 x4 x5 x6 x7 x8 x9 x10 x11 x1 : Option Sl, ρ = [some (.frz (.klst (ns.map D.int))), x1, x2, x3, x4, x5, x6, x7, x8, x9, x10, x11]) (rangeL 0 n) 0
    [some (.frz (.klst (ns.map D.int))), none, none, none, none, none, none, none, none, none, none, none] ⟨_, _, _, _, _, _, _, _, _, _, _, rfl⟩ (by
      rintro i d ρ hd ⟨x2, x3, x4, x5, x6, x7, x8, x9, x10, x11, x1, rfl⟩
      obtain ⟨hi, rfl⟩ := range0_get hd
      obtain ⟨y2, y3, y4, y5, y6, y7, y8, y9, y10, y11, h⟩ := turn tok ns i (by omega) x2 x3 x4 x5 x6 x7 x8 x9 x10 x11
      exact ⟨_, _, rfl, .inl h, _, _, _, _, _, _, _, _, _, _, _, rfl⟩)
  have h1 : (iRng (aCons (dCall max2D (aCons (dC (.int 1)) (aCons (dCall min2D (aCons (dCall lenD (aCons (dVarR 0) aNil)) (aCons (dC (.int 50)) aNil))) aNil))) aNil)) [some (.frz (.klst (ns.map D.int))), none, none, none, none, none, none, none, none, none, none, none] = .ok (rangeL 0 n) := by
    simp only [iRng_ev, aCons_ev, dCall_ev, dC_ev, aNil_ev, bind_ok', dVarR_0, lenD_klst, min2D_int, max2D_int, List.length_map]
    rw [hn]
    exact hr
  refine runB_ret ?_
  show s_law tok [some (.frz (.klst (ns.map D.int))), none, none, none, none, none, none, none, none, none, none, none] = _
  unfold s_law
  rw [bSeq_ev, sFor_ev, h1, lift_ok, e]
  rfl
end MathLaw

/-! ## the end -/
open PySem PySem.W PyProof.Rows
set_option maxRecDepth 100000 in
set_option maxHeartbeats 0 in
theorem PySem.Challenge.cw_levyhouse_k01_parts_made_holds : PySem.Challenge.rw_levyhouse_k01_parts_made.Holds := by
  w_on; o_law; k_head; (case hw => w_witness2)
  k_fill
  refine LamX.walk_ofTs (l := PySem.Challenge.rw_levyhouse_k01_parts_made) (n := 63) (k := 5) (x := "_law_script") (CX := fun w => L2.CX PySem.Challenge.rw_levyhouse_k01_parts_made.prog w) rfl (by decide) rfl ⟨rfl, by decide, by decide⟩ (fun w h Y => PySem.W.km_in_of Y) ?F (fun _ _ _ _ _ z => by letI : FV.Tbs := {}; exact FV.no_cx z)
  case F =>
    intro w mg fa h Y KX G hmg
    have hT8 := PySem.W.km_tabs_of Y
    refine FV.law_at [("law", Walk.st_law)] Walk.lamTab KX hT8 ?E ?G
    case E =>
      refine' ⟨_, .cons (FV.mkK_mk KX G ?a0 ?l0 ?c0 ?k0 ?lc0 ?tb0 ?hd0 ?no0 ?mem0) (.nil), ?nd⟩
      (case a0 => k_is); (case l0 => k_is); (case c0 => k_is); (case k0 => k_is); (case lc0 => k_is); (case tb0 => exact rfl); (case hd0 => kernel_rfl); (case no0 => kernel_rfl); (case mem0 => k_mem)
      (case nd => decide)
    intro ms A nd _ hT hL
    rcases A with _ | ⟨M0, A⟩
    cases A
    refine FV.use_ (Walk.all_ok (P := PySem.Challenge.rw_levyhouse_k01_parts_made.prog) (w := w) (mg := mg) ?T ⟨M0.at_, FV.mkT_of hT nd (.head _), congrFun hL 0, congrFun hL 1, congrFun hL 2, congrFun hL 3⟩ hmg MathLaw.law_true) ?U
    case U => rintro ⟨fd, hb, hF⟩; exact ⟨fd, hb, fun base hB => hF base (hB _ (.head _))⟩
    constructor
    · refine' FV.at_mk KX G ?a ?l ?c ?k; (case a => k_is); (case l => k_is); (case c => k_is); (case k => k_is)
    · refine' FV.at_mk KX G ?a ?l ?c ?k; (case a => k_is); (case l => k_is); (case c => k_is); (case k => k_is)
    · refine' FV.atd_mk KX G (by simp) ?a ?l ?c ?k ?lt ?ht ?hv; (case a => k_is); (case l => k_is); (case c => k_is); (case k => k_is); (case lt => k_is); (case ht => rfl); (case hv => exact (.cons ⟨_, rfl⟩ .nil))
    · refine' FV.at_mk KX G ?a ?l ?c ?k; (case a => k_is); (case l => k_is); (case c => k_is); (case k => k_is)
    · refine' FV.at_mk KX G ?a ?l ?c ?k; (case a => k_is); (case l => k_is); (case c => k_is); (case k => k_is)
    · refine' FV.at_mk KX G ?a ?l ?c ?k; (case a => k_is); (case l => k_is); (case c => k_is); (case k => k_is)
    · refine' FV.at_mk KX G ?a ?l ?c ?k; (case a => k_is); (case l => k_is); (case c => k_is); (case k => k_is)
    · refine' FV.at_mk KX G ?a ?l ?c ?k; (case a => k_is); (case l => k_is); (case c => k_is); (case k => k_is)
    · refine' FV.at_mk KX G ?a ?l ?c ?k; (case a => k_is); (case l => k_is); (case c => k_is); (case k => k_is)
    · refine' FV.at_mk KX G ?a ?l ?c ?k; (case a => k_is); (case l => k_is); (case c => k_is); (case k => k_is)
    · refine' FV.at_mk KX G ?a ?l ?c ?k; (case a => k_is); (case l => k_is); (case c => k_is); (case k => k_is)
    · refine' FV.at_mk KX G ?a ?l ?c ?k; (case a => k_is); (case l => k_is); (case c => k_is); (case k => k_is)
    · refine' FV.at_mk KX G ?a ?l ?c ?k; (case a => k_is); (case l => k_is); (case c => k_is); (case k => k_is)
    · refine' FV.at_mk KX G ?a ?l ?c ?k; (case a => k_is); (case l => k_is); (case c => k_is); (case k => k_is)
    · refine' FV.at_mk KX G ?a ?l ?c ?k; (case a => k_is); (case l => k_is); (case c => k_is); (case k => k_is)
    · refine' FV.at_mk KX G ?a ?l ?c ?k; (case a => k_is); (case l => k_is); (case c => k_is); (case k => k_is)
    · refine' PySem.W.mg_none_of KX G ?z; (case z => k_is)
    · refine' PySem.W.mg_none_of KX G ?z; (case z => k_is)
    · refine' PySem.W.mg_none_of KX G ?z; (case z => k_is)
    · refine' PySem.W.mg_none_of KX G ?z; (case z => k_is)
    · refine' PySem.W.mg_none_of KX G ?z; (case z => k_is)
    · refine' PySem.W.mg_none_of KX G ?z; (case z => k_is)
    · refine' PySem.W.mg_none_of KX G ?z; (case z => k_is)
    · refine' PySem.W.mg_none_of KX G ?z; (case z => k_is)
    · refine' PySem.W.mg_none_of KX G ?z; (case z => k_is)
    · refine' PySem.W.mg_none_of KX G ?z; (case z => k_is)
    · (refine' .cons ?a ?b ?c; (case a => k_is); (case b => (constructor <;> k_is)); (case c => (exact .nil)))
    · refine' FV.iso_mk KX G ?a ?b; (case a => k_is); (case b => (refine' .cons ?a ?b ?c ?d; (case a => k_is); (case b => kit_is); (case c => decide); (case d => (exact .nil))))
    · refine' FV.iso_mk KX G ?a ?b; (case a => k_is); (case b => (refine' .cons ?a ?b ?c ?d; (case a => k_is); (case b => kit_is); (case c => decide); (case d => (exact .nil))))
    · refine' FV.iso_mk KX G ?a ?b; (case a => k_is); (case b => (refine' .cons ?a ?b ?c ?d; (case a => k_is); (case b => kit_is); (case c => decide); (case d => (exact .nil))))
    · refine' FV.iso_mk KX G ?a ?b; (case a => k_is); (case b => (refine' .cons ?a ?b ?c ?d; (case a => k_is); (case b => kit_is); (case c => decide); (case d => (exact .nil))))
    · refine' FV.iso_mk KX G ?a ?b; (case a => k_is); (case b => (refine' .cons ?a ?b ?c ?d; (case a => k_is); (case b => kit_is); (case c => decide); (case d => (exact .nil))))
    · refine' FV.iso_mk KX G ?a ?b; (case a => k_is); (case b => (refine' .cons ?a ?b ?c ?d; (case a => k_is); (case b => kit_is); (case c => decide); (case d => (exact .nil))))
    · refine' FV.iso_mk KX G ?a ?b; (case a => k_is); (case b => (refine' .cons ?a ?b ?c ?d; (case a => k_is); (case b => kit_is); (case c => decide); (case d => (exact .nil))))
    · refine' FV.iso_mk KX G ?a ?b; (case a => k_is); (case b => (refine' .cons ?a ?b ?c ?d; (case a => k_is); (case b => kit_is); (case c => decide); (case d => (exact .nil))))
    · refine' FV.iso_mk KX G ?a ?b; (case a => k_is); (case b => (refine' .cons ?a ?b ?c ?d; (case a => k_is); (case b => kit_is); (case c => decide); (case d => (exact .nil))))
    · refine' FV.iso_mk KX G ?a ?b; (case a => k_is); (case b => (refine' .cons ?a ?b ?c ?d; (case a => k_is); (case b => kit_is); (case c => decide); (case d => (exact .nil))))
    · refine' FV.iso_mk KX G ?a ?b; (case a => k_is); (case b => (refine' .cons ?a ?b ?c ?d; (case a => k_is); (case b => kit_is); (case c => decide); (case d => (exact .nil))))
    · refine' FV.iso_mk KX G ?a ?b; (case a => k_is); (case b => (refine' .cons ?a ?b ?c ?d; (case a => k_is); (case b => kit_is); (case c => decide); (case d => (exact .nil))))
    · refine' FV.iso_mk KX G ?a ?b; (case a => k_is); (case b => (refine' .cons ?a ?b ?c ?d; (case a => k_is); (case b => kit_is); (case c => decide); (case d => (exact .nil))))
    · (refine' .cons ?a ?b ?c ?d; (case a => k_is); (case b => kit_is); (case c => decide); (case d => (exact .nil)))
    · refine' FV.cld_mk KX G ?a ?b ?c ?d ?e; (case a => k_is); (case b => k_is); (case c => k_is); (case d => k_is); (case e => (refine' .cons ?a ?b ?c; (case a => k_is); (case b => k_is); (case c => (exact .nil))))
    · refine' FV.exd_mk KX G ?g ?x ?k ?b ?t; (case g => k_is); (case x => k_exc); (case k => k_is); (case b => k_is); (case t => k_is)
#print axioms PySem.Challenge.cw_levyhouse_k01_parts_made_holds
