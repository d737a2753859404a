import PyProof.Rows.All
import Wide.All
import OpenK.AllK
import Wide.FinOn
import HandS.ForMost
import HandS.Exc
import HandS.ExcOwn
import HandS.ExcInit
import HandS.TryOnly
import HandS.CallSlots
import HandS.WordsExc
import HandS.Zip
import HandS.Rev
import HandS.ExcCtx
import HandS.TupAny
import HandS.Deep
import HandS.DictComp
import HandS.WordsDict
import HandS.Small
import HandS.SortInts
import HandS.More
import HandS.IsInst
import HandS.ExcIs
import HandS.Finally
import PySem.Challenge.RW_carpetkin_k06_colours
set_option Elab.async false
set_option linter.all false
set_option maxRecDepth 100000
set_option autoImplicit false
namespace Ck
open PySem PySem.Spec L2

/-! ### data without a heap -/
inductive D where
  | non | bl (b : Bool) | int (i : Int) | str (s : Str)
  | tup (l : List D) | ctp (l : List D) | lst (l : List D) | dct (t : Bool) (l : List (D × D)) | obj (c : Str) (l : List (Str × D))
instance : Inhabited D := ⟨.non⟩
structure Gm where
  K : PySem.W.Frag
  mg : Str → Option Value
def keyD : Key → D
  | .inl i => .int i
  | .inr s => .str s

mutual
inductive R (g : Gm) (G : Hp) : V → D → Prop
  | non : R g G .non .non
  | bl (b : Bool) : R g G (.bl b) (.bl b)
  | int (i : Int) : R g G (.int i) (.int i)
  | str (s : Str) : R g G (.str s) (.str s)
  | lst {a : Addr} {xs : List V} {ds : List D} : Rd G a (.lst xs) → Rs g G xs ds → R g G (.ref a) (.lst ds)
  | tup {a : Addr} {xs : List V} {ds : List D} : G a = some (.tup xs) → Rs g G xs ds → R g G (.ref a) (.tup ds)
  | ctp {a : Addr} {xs : List V} {ds : List D} : SqT g.K (fun _ => none) a xs → Rs g G xs ds → R g G (.ref a) (.ctp ds)
  | dk {a : Addr} {kvs : List (Key × V)} {ds : List (D × D)} : Rd G a (.dK kvs) → RK g G kvs ds → R g G (.ref a) (.dct false ds)
  | dt {a : Addr} {kvs : List (List Key × V)} {ds : List (D × D)} : Rd G a (.dT kvs) → RT g G kvs ds → R g G (.ref a) (.dct true ds)
  | obj {a C dx : Addr} {c : Str} {fs : List (Str × V)} {ds : List (Str × D)} : G a = some (.ins C dx fs) → g.mg c = some (.ref C) → RF g G fs ds → R g G (.ref a) (.obj c ds)
inductive Rs (g : Gm) (G : Hp) : List V → List D → Prop
  | nil : Rs g G [] []
  | cons {v : V} {vs : List V} {d : D} {ds : List D} : R g G v d → Rs g G vs ds → Rs g G (v :: vs) (d :: ds)
inductive RK (g : Gm) (G : Hp) : List (Key × V) → List (D × D) → Prop
  | nil : RK g G [] []
  | cons {k : Key} {v : V} {kvs : List (Key × V)} {d : D} {ds : List (D × D)} : R g G v d → RK g G kvs ds → RK g G ((k, v) :: kvs) ((keyD k, d) :: ds)
inductive RT (g : Gm) (G : Hp) : List (List Key × V) → List (D × D) → Prop
  | nil : RT g G [] []
  | cons {k : List Key} {v : V} {kvs : List (List Key × V)} {d : D} {ds : List (D × D)} : R g G v d → RT g G kvs ds → RT g G ((k, v) :: kvs) ((.tup (k.map keyD), d) :: ds)
inductive RF (g : Gm) (G : Hp) : List (Str × V) → List (Str × D) → Prop
  | nil : RF g G [] []
  | cons {f : Str} {v : V} {fs : List (Str × V)} {d : D} {ds : List (Str × D)} : R g G v d → RF g G fs ds → RF g G ((f, v) :: fs) ((f, d) :: ds)
end

section
variable {g : Gm} {G G' : Hp}
theorem rd_mono (e : Same G G') {a : Addr} {u : HO} (h : Rd G a u) : Rd G' a u := by
  rcases h with h | ⟨o, h⟩
  · exact .inl (e _ _ h)
  · exact .inr ⟨o, e _ _ h⟩
theorem sqT_mono (e : Same G G') {K : PySem.W.Frag} {a : Addr} {xs : List V} (h : SqT K G a xs) : SqT K G' a xs := by
  rcases h with h | h
  · exact .inl (rd_mono e h)
  · exact .inr h
mutual
theorem R.mono (e : Same G G') : ∀ {v : V} {d : D}, R g G v d → R g G' v d
  | _, _, .non => .non
  | _, _, .bl b => .bl b
  | _, _, .int i => .int i
  | _, _, .str s => .str s
  | _, _, .lst h t => .lst (rd_mono e h) (Rs.mono e t)
  | _, _, .tup h t => .tup (e _ _ h) (Rs.mono e t)
  | _, _, .ctp h t => .ctp h (Rs.mono e t)
  | _, _, .dk h t => .dk (rd_mono e h) (RK.mono e t)
  | _, _, .dt h t => .dt (rd_mono e h) (RT.mono e t)
  | _, _, .obj h c t => .obj (e _ _ h) c (RF.mono e t)
theorem Rs.mono (e : Same G G') : ∀ {v : List V} {d : List D}, Rs g G v d → Rs g G' v d
  | _, _, .nil => .nil
  | _, _, .cons h t => .cons (R.mono e h) (Rs.mono e t)
theorem RK.mono (e : Same G G') : ∀ {v : List (Key × V)} {d : List (D × D)}, RK g G v d → RK g G' v d
  | _, _, .nil => .nil
  | _, _, .cons h t => .cons (R.mono e h) (RK.mono e t)
theorem RT.mono (e : Same G G') : ∀ {v : List (List Key × V)} {d : List (D × D)}, RT g G v d → RT g G' v d
  | _, _, .nil => .nil
  | _, _, .cons h t => .cons (R.mono e h) (RT.mono e t)
theorem RF.mono (e : Same G G') : ∀ {v : List (Str × V)} {d : List (Str × D)}, RF g G v d → RF g G' v d
  | _, _, .nil => .nil
  | _, _, .cons h t => .cons (R.mono e h) (RF.mono e t)
end
end

/-! ### a value of which the top is read in T, the rest in G -/
inductive Vw (g : Gm) (T G : Hp) : V → D → Prop
  | val {v : V} {d : D} : R g G v d → Vw g T G v d
  | lst {a : Addr} {xs : List V} {ds : List D} : Rd T a (.lst xs) → Rs g G xs ds → Vw g T G (.ref a) (.lst ds)
  | sq {a : Addr} {xs : List V} {ds : List D} : SqL g.K T a xs → Rs g G xs ds → Vw g T G (.ref a) (.lst ds)
  | dk {a : Addr} {kvs : List (Key × V)} {ds : List (D × D)} : Rd T a (.dK kvs) → RK g G kvs ds → Vw g T G (.ref a) (.dct false ds)
  | dt {a : Addr} {kvs : List (List Key × V)} {ds : List (D × D)} : Rd T a (.dT kvs) → RT g G kvs ds → Vw g T G (.ref a) (.dct true ds)
/-- one's own: it may be changed -/
inductive Ow (g : Gm) (T G : Hp) (a : Addr) : D → Prop
  | lst {xs : List V} {ds : List D} : T a = some (.lst xs) → Rs g G xs ds → Ow g T G a (.lst ds)
  | dk {kvs : List (Key × V)} {ds : List (D × D)} : T a = some (.dK kvs) → RK g G kvs ds → Ow g T G a (.dct false ds)
  | dt {kvs : List (List Key × V)} {ds : List (D × D)} : T a = some (.dT kvs) → RT g G kvs ds → Ow g T G a (.dct true ds)
theorem Vw.mono {g : Gm} {T T' G G' : Hp} (t : Same T T') (e : Same G G') {v : V} {d : D} (h : Vw g T G v d) : Vw g T' G' v d := by
  cases h with
  | val h => exact .val (h.mono e)
  | lst h r => exact .lst (rd_mono t h) (r.mono e)
  | sq h r => exact .sq (t.seq h) (r.mono e)
  | dk h r => exact .dk (rd_mono t h) (r.mono e)
  | dt h r => exact .dt (rd_mono t h) (r.mono e)
theorem Ow.mono {g : Gm} {T T' G G' : Hp} {a : Addr} (t : ∀ o, T a = some o → T' a = some o) (e : Same G G') {d : D} (h : Ow g T G a d) : Ow g T' G' a d := by
  cases h with
  | lst h r => exact .lst (t _ h) (r.mono e)
  | dk h r => exact .dk (t _ h) (r.mono e)
  | dt h r => exact .dt (t _ h) (r.mono e)
theorem Ow.view {g : Gm} {T G : Hp} {a : Addr} {d : D} (h : Ow g T G a d) : Vw g T G (.ref a) d := by
  cases h with
  | lst h r => exact .lst (.inl h) r
  | dk h r => exact .dk (.inl h) r
  | dt h r => exact .dt (.inl h) r
theorem Ow.ex {g : Gm} {T G : Hp} {a : Addr} {d : D} (h : Ow g T G a d) : ∃ o, T a = some o := by
  cases h with
  | lst h r => exact ⟨_, h⟩
  | dk h r => exact ⟨_, h⟩
  | dt h r => exact ⟨_, h⟩
theorem Ow.put {g : Gm} {T G : Hp} {a : Addr} {d : D} (h : Ow g T G a d) (hn : G a = none) : ∃ o, T a = some o ∧ R g (upd G a o) (.ref a) d := by
  have s : ∀ o, Same G (upd G a o) := fun o b x e => by rw [upd_ne (ne_of_none e hn)]; exact e
  cases h with
  | lst h r => exact ⟨_, h, .lst (.inl upd_same) (r.mono (s _))⟩
  | dk h r => exact ⟨_, h, .dk (.inl upd_same) (r.mono (s _))⟩
  | dt h r => exact ⟨_, h, .dt (.inl upd_same) (r.mono (s _))⟩

/-! ### slots and states -/
inductive Slot where
  | un | val (d : D) | own (d : D) | bor (d : D)
abbrev EnvD := List Slot
def SlotR (g : Gm) (H0 G H : Hp) (o : Option (Option V)) : Slot → Prop
  | .un => True
  | .val d => ∃ v, o = some (some v) ∧ R g G v d
  | .bor d => ∃ v, o = some (some v) ∧ Vw g H0 G v d
  | .own d => ∃ a, o = some (some (.ref a)) ∧ G a = none ∧ H0 a = none ∧ Ow g H G a d
/-- H0, G0: the heap at the def's entry, and what of it stands for good; G: what stands for good now -/
structure SR (g : Gm) (H0 G0 G H : Hp) (σ : L2.St) (env : EnvD) : Prop where
  gh : Same G H
  g0 : Same G0 G
  h0 : Same H0 H
  sep : ∀ a o, G0 a = none → H0 a = some o → G a = none
  len : σ.length = env.length
  slot : ∀ (i : Nat) (s : Slot), env[i]? = some s → SlotR g H0 G H σ[i]? s
  dist : ∀ (i j : Nat) (d e : D) (a : Addr), env[i]? = some (.own d) → env[j]? = some (.own e) → σ[i]? = some (some (.ref a)) → σ[j]? = some (some (.ref a)) → i = j

/-- G to G', H to H': what stood stands, nothing that could change was taken in -/
structure Gr (G H G' H' : Hp) : Prop where
  g : Same G G'
  h : Same H H'
  gh : Same G' H'
  sep : ∀ a o, G a = none → H a = some o → G' a = none
theorem Gr.refl {G H : Hp} (h : Same G H) : Gr G H G H := ⟨.refl _, .refl _, h, fun _ _ e _ => e⟩
theorem Gr.trans {G H G1 H1 G2 H2 : Hp} (a : Gr G H G1 H1) (b : Gr G1 H1 G2 H2) : Gr G H G2 H2 :=
  ⟨a.g.trans b.g, a.h.trans b.h, b.gh, fun x o n e => b.sep x o (a.sep x o n e) (a.h x o e)⟩
theorem SR.grow {g : Gm} {H0 G0 G H G' H' : Hp} {σ : L2.St} {env : EnvD} (s : SR g H0 G0 G H σ env) (r : Gr G H G' H') : SR g H0 G0 G' H' σ env := by
  refine ⟨r.gh, s.g0.trans r.g, s.h0.trans r.h, fun a o n e => r.sep a o (s.sep a o n e) (s.h0 a o e), s.len, fun i sl e => ?_, s.dist⟩
  have h := s.slot i sl e
  cases sl with
  | un => trivial
  | val d => obtain ⟨v, e1, e2⟩ := h; exact ⟨v, e1, e2.mono r.g⟩
  | bor d => obtain ⟨v, e1, e2⟩ := h; exact ⟨v, e1, e2.mono (.refl _) r.g⟩
  | own d =>
    obtain ⟨a, e1, e2, e3, e4⟩ := h
    obtain ⟨o, eo⟩ := e4.ex
    exact ⟨a, e1, r.sep a o e2 eo, e3, e4.mono (fun o' q => r.h a o' q) r.g⟩
/-- a new object that will not change -/
theorem Gr.new {G H : Hp} {p : Addr} {o : HO} (h : Same G H) (n : H p = none) : Gr G H (upd G p o) (upd H p o) := by
  have ng : G p = none := h.free n
  refine ⟨fun b x e => ?_, fun b x e => ?_, fun b x e => ?_, fun b x e1 e2 => ?_⟩
  · rw [upd_ne (ne_of_none e ng)]; exact e
  · rw [upd_ne (ne_of_none e n)]; exact e
  · by_cases hb : b = p
    · subst hb; rw [upd_same] at e; rw [upd_same]; exact e
    · rw [upd_ne hb] at e; rw [upd_ne hb]; exact h b x e
  · rw [upd_ne (ne_of_none e2 n)]; exact e1
/-- a new object that may change -/
theorem Gr.fresh {G H : Hp} {p : Addr} {o : HO} (h : Same G H) (n : H p = none) : Gr G H G (upd H p o) := by
  refine ⟨.refl _, fun b x e => ?_, fun b x e => ?_, fun b x e1 _ => e1⟩
  · rw [upd_ne (ne_of_none e n)]; exact e
  · rw [upd_ne (ne_of_none (h b x e) n)]; exact h b x e

/-! ### results -/
structure Exn where
  cls : Str
  fs : List (Str × D)
inductive Res (α : Type) where
  | ok (a : α) | exc (x : Exn) | stuck
def Res.bind {α β : Type} (r : Res α) (f : α → Res β) : Res β := match r with
  | .ok a => f a
  | .exc x => .exc x
  | .stuck => .stuck
instance : Monad Res where
  pure := .ok
  bind := Res.bind
abbrev ED := EnvD → Res D

/-- the exception x as the heap has it -/
def XR (g : Gm) (H : Hp) (c : Value) (d : Option Addr) (x : Exn) : Prop :=
  ∃ C, g.mg x.cls = some (.ref C) ∧ c = .ref C ∧ (x.fs = [] ∧ d = none ∨ x.fs ≠ [] ∧ ∃ a fs, d = some a ∧ H a = some (.xd fs) ∧ RF g H fs x.fs)

section
variable (g : Gm) (W : WX)
/-- what is wanted behind an expression that gives d -/
def Post (H0 G0 : Hp) (σ : L2.St) (env : EnvD) (P : Hp → Hp → V → D → Prop) (G H : Hp) (Q : VK) : Res D → Prop
  | .ok d => ∀ v G' H', Gr G H G' H' → P G' H' v d → Q v H'
  | .exc x => ∀ c d G' H', Gr G H G' H' → XR g H' c d x → W c d σ H'
  | .stuck => False
def tP (P : Hp → Hp → V → D → Prop) (f : ED) : TE := fun σ H Q => ∃ H0 G0 G env, SR g H0 G0 G H σ env ∧ Post g W H0 G0 σ env P G H Q (f env)
end
end Ck

namespace Ck
open PySem PySem.Spec L2

abbrev _root_.L2.Cx.gm (X : Cx) : Gm := ⟨X.K, X.mg⟩
@[simp] def mutD : D → Bool
  | .lst _ => true
  | .dct _ _ => true
  | _ => false
abbrev PP := Hp → Hp → Hp → V → D → Prop
section
variable (g : Gm) (W : WX)
def PR : PP := fun _ G' _ v d => R g G' v d
def PV : PP := fun _ G' H' v d => Vw g H' G' v d
def PN : PP := fun H G' H' v d => (mutD d = false ∧ R g G' v d) ∨ ∃ a, v = .ref a ∧ H a = none ∧ G' a = none ∧ Ow g H' G' a d
/-- what is wanted behind an expression -/
def Pst (σ : L2.St) (P : PP) (G H : Hp) (Q : VK) : Res D → Prop
  | .ok d => ∀ v G' H', Gr G H G' H' → P H G' H' v d → Q v H'
  | .exc x => ∀ c d G' H', Gr G H G' H' → XR g H' c d x → W c d σ H'
  | .stuck => False
def tE (P : PP) (f : ED) : TE := fun σ H Q => ∃ H0 G0 G env, SR g H0 G0 G H σ env ∧ Pst g W σ P G H Q (f env)
/-- arguments: true: a view; false: for good -/
inductive AR (H G : Hp) : List Bool → List V → List D → Prop
  | nil : AR H G [] [] []
  | view {ms : List Bool} {v : V} {vs : List V} {d : D} {ds : List D} : Vw g H G v d → AR H G ms vs ds → AR H G (true :: ms) (v :: vs) (d :: ds)
  | good {ms : List Bool} {v : V} {vs : List V} {d : D} {ds : List D} : R g G v d → AR H G ms vs ds → AR H G (false :: ms) (v :: vs) (d :: ds)
def PstA (σ : L2.St) (ms : List Bool) (G H : Hp) (Q : List V → Hp → Prop) : Res (List D) → Prop
  | .ok ds => ∀ vs G' H', Gr G H G' H' → AR g H' G' ms vs ds → Q vs H'
  | .exc x => ∀ c d G' H', Gr G H G' H' → XR g H' c d x → W c d σ H'
  | .stuck => False
def tA (ms : List Bool) (f : EnvD → Res (List D)) : TA := fun σ H Q => ∃ H0 G0 G env, SR g H0 G0 G H σ env ∧ PstA g W σ ms G H Q (f env)
def PstT (σ : L2.St) (G H : Hp) (Q : Bool → Hp → Prop) : Res Bool → Prop
  | .ok b => ∀ G' H', Gr G H G' H' → Q b H'
  | .exc x => ∀ c d G' H', Gr G H G' H' → XR g H' c d x → W c d σ H'
  | .stuck => False
def tT (f : EnvD → Res Bool) : TT := fun σ H Q => ∃ H0 G0 G env, SR g H0 G0 G H σ env ∧ PstT g W σ G H Q (f env)
end
theorem AR.mono {g : Gm} {H G H' G' : Hp} (t : Same H H') (e : Same G G') {ms : List Bool} {vs : List V} {ds : List D} (h : AR g H G ms vs ds) : AR g H' G' ms vs ds := by
  induction h with
  | nil => exact .nil
  | view h _ ih => exact .view (h.mono t e) ih
  | good h _ ih => exact .good (h.mono e) ih

section
variable {X : Cx} {W : WX}
theorem _root_.L2.PE.imp {e : Expr} {t t' : TE} (h : PE X e t) (k : ∀ σ H Q, t' σ H Q → t σ H Q) : PE X e t' :=
  ⟨fun pins s σ H Q I q => h.run pins s σ H Q I (k _ _ _ q)⟩
theorem _root_.L2.PT.imp {e : Expr} {t t' : TT} (h : PT X e t) (k : ∀ σ H Q, t' σ H Q → t σ H Q) : PT X e t' :=
  ⟨fun pins s σ H Q I q => h.run pins s σ H Q I (k _ _ _ q)⟩
theorem _root_.L2.PA.imp {e : List Expr} {t t' : TA} (h : PA X e t) (k : ∀ σ H Q, t' σ H Q → t σ H Q) : PA X e t' :=
  ⟨fun pos pins s σ H Q I q => h.run pos pins s σ H Q I (k _ _ _ q)⟩
theorem _root_.L2.PS.imp {e : Stmt} {t t' : TS} (h : PS X e t) (k : ∀ D σ H, t' D σ H → t D σ H) : PS X e t' :=
  ⟨fun pins s σ H D I q => h.run pins s σ H D I (k _ _ _ q)⟩
theorem _root_.L2.PSs.imp {e : List Stmt} {t t' : TS} (h : PSs X e t) (k : ∀ D σ H, t' D σ H → t D σ H) : PSs X e t' :=
  ⟨fun pins s σ H D I q => h.run pins s σ H D I (k _ _ _ q)⟩

/-! ### the judgements -/
abbrev CE (X : Cx) (W : WX) (e : Expr) (f : ED) : Prop := PE X e (tE X.gm W (PR X.gm) f)
abbrev CV (X : Cx) (W : WX) (e : Expr) (f : ED) : Prop := PE X e (tE X.gm W (PV X.gm) f)
abbrev CN (X : Cx) (W : WX) (e : Expr) (f : ED) : Prop := PE X e (tE X.gm W (PN X.gm) f)
abbrev CA (X : Cx) (W : WX) (es : List Expr) (ms : List Bool) (f : EnvD → Res (List D)) : Prop := PA X es (tA X.gm W ms f)
abbrev CT (X : Cx) (W : WX) (e : Expr) (f : EnvD → Res Bool) : Prop := PT X e (tT X.gm W f)

theorem CE.view {e : Expr} {f : ED} (h : CE X W e f) : CV X W e f := h.imp fun σ H Q ⟨H0, G0, G, env, s, p⟩ => by
  refine ⟨H0, G0, G, env, s, ?_⟩
  generalize f env = r at p
  cases r with
  | ok d => exact fun v G' H' gr q => p v G' H' gr (.val q)
  | exc x => exact p
  | stuck => exact p
theorem Gr.add {G H G' H' : Hp} {a : Addr} {o : HO} (r : Gr G H G' H') (ha : H a = none) (hn : G' a = none) (ho : H' a = some o) : Gr G H (upd G' a o) H' := by
  refine ⟨fun b x e => ?_, r.h, fun b x e => ?_, fun b x e1 e2 => ?_⟩
  · have q := r.g b x e
    rw [upd_ne (ne_of_none q hn)]; exact q
  · by_cases hb : b = a
    · subst hb; rw [upd_same] at e; rw [ho]; exact e
    · rw [upd_ne hb] at e; exact r.gh b x e
  · rw [upd_ne (ne_of_none e2 ha)]; exact r.sep b x e1 e2
theorem CN.ce {e : Expr} {f : ED} (h : CN X W e f) : CE X W e f := h.imp fun σ H Q ⟨H0, G0, G, env, s, p⟩ => by
  refine ⟨H0, G0, G, env, s, ?_⟩
  generalize f env = r at p
  cases r with
  | ok d =>
    intro v G' H' gr q
    rcases q with ⟨_, q⟩ | ⟨a, rfl, ha, hn, ow⟩
    · exact p v G' H' gr q
    · obtain ⟨o, ho, r⟩ := ow.put hn
      exact p _ _ H' (gr.add ha hn ho) r
  | exc x => exact p
  | stuck => exact p
theorem CN.view {e : Expr} {f : ED} (h : CN X W e f) : CV X W e f := CE.view (CN.ce h)

/-! ### names and constants -/
def eVar (i : Nat) : ED := fun env => match env[i]? with
  | some (.val d) => .ok d
  | _ => .stuck
def vVar (i : Nat) : ED := fun env => match env[i]? with
  | some (.val d) => .ok d
  | some (.own d) => .ok d
  | some (.bor d) => .ok d
  | _ => .stuck
theorem ce_var (i : Nat) {x : Str} {pos : Pos} (hN : X.N[i]? = some x := by rfl) (hv : Vis X.env.scope x := by first | exact Or.inl rfl | exact Or.inr (Or.inl rfl) | exact Or.inr (Or.inr rfl)) (hd : (x == ("__debug__" : Str)) = false := by decide)
    (hcd : (x == ("__classdict__" : Str)) = false := by decide) : CE X W (.Name x pos) (eVar i) := (pe_var hN hv hd hcd).imp fun σ H Q ⟨H0, G0, G, env, s, p⟩ => by
  unfold eVar at p
  cases e : env[i]? with
  | none => rw [e] at p; exact p.elim
  | some sl =>
    rw [e] at p
    have h := s.slot i sl e
    cases sl with
    | val d =>
      obtain ⟨v, e1, e2⟩ := h
      exact ⟨v, e1, p v G H (.refl s.gh) e2⟩
    | un => exact p.elim
    | own d => exact p.elim
    | bor d => exact p.elim
theorem cv_var (i : Nat) {x : Str} {pos : Pos} (hN : X.N[i]? = some x := by rfl) (hv : Vis X.env.scope x := by first | exact Or.inl rfl | exact Or.inr (Or.inl rfl) | exact Or.inr (Or.inr rfl)) (hd : (x == ("__debug__" : Str)) = false := by decide)
    (hcd : (x == ("__classdict__" : Str)) = false := by decide) : CV X W (.Name x pos) (vVar i) := (pe_var hN hv hd hcd).imp fun σ H Q ⟨H0, G0, G, env, s, p⟩ => by
  unfold vVar at p
  cases e : env[i]? with
  | none => rw [e] at p; exact p.elim
  | some sl =>
    rw [e] at p
    have h := s.slot i sl e
    cases sl with
    | val d =>
      obtain ⟨v, e1, e2⟩ := h
      exact ⟨v, e1, p v G H (.refl s.gh) (.val e2)⟩
    | un => exact p.elim
    | own d =>
      obtain ⟨a, e1, _, _, e2⟩ := h
      exact ⟨_, e1, p _ G H (.refl s.gh) e2.view⟩
    | bor d =>
      obtain ⟨v, e1, e2⟩ := h
      exact ⟨v, e1, p v G H (.refl s.gh) (e2.mono s.h0 (.refl _))⟩
def eC (d : D) : ED := fun _ => .ok d
theorem ce_c {e : Expr} {v : V} {d : D} (h : PE X e (tC v)) (r : ∀ G, R X.gm G v d) : CE X W e (eC d) := h.imp fun σ H Q ⟨H0, G0, G, env, s, p⟩ => p v G H (.refl s.gh) (r G)
theorem ce_int {i : Int} {j : Nat} {pos : Pos} : CE X W (.Constant (.int i) j pos) (eC (.int i)) := ce_c pe_int fun _ => .int i
theorem ce_bl {b : Bool} {j : Nat} {pos : Pos} : CE X W (.Constant (.bool b) j pos) (eC (.bl b)) := ce_c pe_bl fun _ => .bl b
theorem ce_non {j : Nat} {pos : Pos} : CE X W (.Constant .none j pos) (eC .non) := ce_c pe_non fun _ => .non
theorem ce_str {s : Str} {j : Nat} {pos : Pos} : CE X W (.Constant (.str s) j pos) (eC (.str s)) := ce_c pe_str fun _ => .str s

/-! ### two in a row -/
theorem Pst.grow {g : Gm} {σ : L2.St} {P : PP} {G H G1 H1 : Hp} {Q : VK} {r : Res D} (hP : ∀ H H1 G' H' v d, Same H H1 → P H1 G' H' v d → P H G' H' v d) (gr : Gr G H G1 H1) (p : Pst g W σ P G H Q r) : Pst g W σ P G1 H1 Q r := by
  cases r with
  | ok d => exact fun v G' H' g2 q => p v G' H' (gr.trans g2) (hP _ _ _ _ _ _ gr.h q)
  | exc x => exact fun c d G' H' g2 q => p c d G' H' (gr.trans g2) q
  | stuck => exact p
theorem PR.mono {g : Gm} : ∀ H H1 G' H' v d, Same H H1 → PR g H1 G' H' v d → PR g H G' H' v d := fun _ _ _ _ _ _ _ q => q
theorem PV.mono {g : Gm} : ∀ H H1 G' H' v d, Same H H1 → PV g H1 G' H' v d → PV g H G' H' v d := fun _ _ _ _ _ _ _ q => q
theorem PN.mono {g : Gm} : ∀ H H1 G' H' v d, Same H H1 → PN g H1 G' H' v d → PN g H G' H' v d := fun H H1 G' H' v d e q => by
  rcases q with q | ⟨a, e1, e2, e3⟩
  · exact .inl q
  · exact .inr ⟨a, e1, e.free e2, e3⟩
theorem PR.of_N {g : Gm} {H G G' H' : Hp} {v : V} {d : D} (gr : Gr G H G' H') (q : PN g H G' H' v d) : ∃ G'', Gr G H G'' H' ∧ R g G'' v d := by
  rcases q with ⟨_, q⟩ | ⟨a, rfl, ha, hn, ow⟩
  · exact ⟨G', gr, q⟩
  · obtain ⟨o, ho, r⟩ := ow.put hn
    exact ⟨_, gr.add ha hn ho, r⟩
/-- run one, then go on -/
theorem tE_bind {g : Gm} {P : PP} {f : ED} {σ : L2.St} {H H0 G0 G : Hp} {env : EnvD} {Q Q' : VK} {k : D → Res D} {P' : PP} (s : SR g H0 G0 G H σ env)
    (p : Pst g W σ P' G H Q ((f env).bind k))
    (c : ∀ d v G1 H1, f env = .ok d → Gr G H G1 H1 → SR g H0 G0 G1 H1 σ env → P H G1 H1 v d → Q' v H1) : tE g W P f σ H Q' := by
  refine ⟨H0, G0, G, env, s, ?_⟩
  cases e : f env with
  | ok d => exact fun v G1 H1 gr q => c d v G1 H1 e gr (s.grow gr) q
  | exc x => rw [e] at p; exact p
  | stuck => rw [e] at p; exact p

def ofO {α : Type} : Option α → Res α
  | some a => .ok a
  | none => .stuck
def e1 (op : D → Option D) (f : ED) : ED := fun env => (f env).bind fun a => ofO (op a)
def e2 (op : D → D → Option D) (f h : ED) : ED := fun env => (f env).bind fun a => (h env).bind fun b => ofO (op a b)
/-- an operator on data: both sides for good (OpG), both viewed (OpD) -/
def OpG (X : Cx) (f : Value → Value → Sem Value) (op : D → D → Option D) : Prop :=
  ∃ r, OpR X f r ∧ ∀ G H x y a b d Q, Same G H → R X.gm G x a → R X.gm G y b → op a b = some d → (∀ v G' H', Gr G H G' H' → PN X.gm H G' H' v d → Q v H') → r x y H Q
def OpD (X : Cx) (f : Value → Value → Sem Value) (op : D → D → Option D) : Prop :=
  ∃ r, OpR X f r ∧ ∀ G H x y a b d Q, Same G H → Vw X.gm H G x a → Vw X.gm H G y b → op a b = some d → (∀ v G' H', Gr G H G' H' → PN X.gm H G' H' v d → Q v H') → r x y H Q
theorem c_op {P S : PP} (hP : ∀ H H1 G' H' v d, Same H H1 → P H1 G' H' v d → P H G' H' v d) (hN : ∀ H G G' H' v d, Gr G H G' H' → PN X.gm H G' H' v d → ∃ G'', Gr G H G'' H' ∧ P H G'' H' v d)
    (hS : ∀ {H G1 H1 G2 H2 : Hp} {v : V} {d : D}, Gr G1 H1 G2 H2 → S H G1 H1 v d → S H G2 H2 v d)
    {op : D → D → Option D} {fa fb : ED} {r : R2}
    (hr : ∀ H1 H2 G H x y a b d Q, Same G H → S H1 G H x a → S H2 G H y b → op a b = some d → (∀ v G' H', Gr G H G' H' → PN X.gm H G' H' v d → Q v H') → r x y H Q) (σ : L2.St) (H : Hp) (Q : VK)
    (h : tE X.gm W P (e2 op fa fb) σ H Q) : tOp r (tE X.gm W S fa) (tE X.gm W S fb) σ H Q := by
  obtain ⟨H0, G0, G, env, s, p⟩ := h
  refine tE_bind s p fun d v G1 H1 ed gr s1 q1 => ?_
  unfold e2 at p
  rw [ed] at p
  have p := p.grow hP gr
  refine tE_bind s1 p fun d2 v2 G2 H2 ed2 gr2 s2 q2 => ?_
  replace p : Pst X.gm W σ P G1 H1 Q ((fb env).bind fun b => ofO (op d b)) := p
  rw [ed2] at p
  have p := p.grow hP gr2
  replace p : Pst X.gm W σ P G2 H2 Q (ofO (op d d2)) := p
  cases eo : op d d2 with
  | none => rw [eo] at p; exact p.elim
  | some z =>
    rw [eo] at p
    refine hr _ _ G2 H2 v v2 d d2 z Q s2.gh (hS gr2 q1) q2 eo fun v' G' H' gr' n => ?_
    obtain ⟨G'', g'', r''⟩ := hN _ _ _ _ _ _ gr' n
    exact p v' G'' H' g'' r''
theorem PV.keep {g : Gm} {H G1 H1 G2 H2 : Hp} {v : V} {d : D} (gr : Gr G1 H1 G2 H2) (q : PV g H G1 H1 v d) : PV g H G2 H2 v d := Vw.mono gr.h gr.g q
theorem PR.keep {g : Gm} {H G1 H1 G2 H2 : Hp} {v : V} {d : D} (gr : Gr G1 H1 G2 H2) (q : PR g H G1 H1 v d) : PR g H G2 H2 v d := R.mono gr.g q
theorem ce_op {op : Operator} {o : D → D → Option D} {a b : Expr} {fa fb : ED} {pos : Pos} (ho : OpG X (binaryOp op) o) (ha : CE X W a fa) (hb : CE X W b fb) : CE X W (.BinOp a op b pos) (e2 o fa fb) := by
  obtain ⟨r, hr, h⟩ := ho
  exact (pe_op hr ha hb).imp fun σ H Q q => c_op PR.mono (fun _ _ _ _ _ _ gr q => PR.of_N gr q) (S := PR X.gm) PR.keep (fun _ _ G H x y a b d Q s q1 q2 => h G H x y a b d Q s q1 q2) σ H Q q
theorem cn_op {op : Operator} {o : D → D → Option D} {a b : Expr} {fa fb : ED} {pos : Pos} (ho : OpG X (binaryOp op) o) (ha : CE X W a fa) (hb : CE X W b fb) : CN X W (.BinOp a op b pos) (e2 o fa fb) := by
  obtain ⟨r, hr, h⟩ := ho
  exact (pe_op hr ha hb).imp fun σ H Q q => c_op PN.mono (fun _ _ _ _ _ _ gr q => ⟨_, gr, q⟩) (S := PR X.gm) PR.keep (fun _ _ G H x y a b d Q s q1 q2 => h G H x y a b d Q s q1 q2) σ H Q q
theorem ce_cmp {op : CmpOp} {o : D → D → Option D} {a b : Expr} {fa fb : ED} {pos : Pos} (ho : OpD X (compareOp op) o) (ha : CV X W a fa) (hb : CV X W b fb) (hm : behindInMarks op b = false := by first | exact nobehind _ (by decide) (by decide) | rfl) :
    CE X W (.Compare a [op] [b] pos) (e2 o fa fb) := by
  obtain ⟨r, hr, h⟩ := ho
  exact (pe_cmpR hr ha hb hm).imp fun σ H Q q => c_op PR.mono (fun _ _ _ _ _ _ gr q => PR.of_N gr q) (S := PV X.gm) PV.keep (fun _ _ G H x y a b d Q s q1 q2 => h G H x y a b d Q s q1 q2) σ H Q q

/-! ### tests -/
def asB : D → Option Bool
  | .bl b => some b
  | _ => none
def tB (f : ED) : EnvD → Res Bool := fun env => (f env).bind fun d => ofO (asB d)
theorem ct_val {e : Expr} {f : ED} (h : CE X W e f) (he : ∀ whole, isTrue e X.env whole = (do let v ← whole; standAt e.pos; holding [v] (truthy v)) := by intro _; rfl) : CT X W e (tB f) := (pt_val h he).imp fun σ H Q ⟨H0, G0, G, env, s, p⟩ => by
  refine ⟨H0, G0, G, env, s, ?_⟩
  unfold tB at p
  cases e1 : f env with
  | ok d =>
    rw [e1] at p
    intro v G' H' gr q
    replace p : PstT X.gm W σ G H Q (ofO (asB d)) := p
    cases q with
    | bl b => exact ⟨b, rfl, p G' H' gr⟩
    | _ => exact p.elim
  | exc x => rw [e1] at p; exact p
  | stuck => rw [e1] at p; exact p
theorem ct_cmp {op : CmpOp} {o : D → D → Option D} {a b : Expr} {fa fb : ED} {pos : Pos} (ho : OpD X (compareOp op) o) (ha : CV X W a fa) (hb : CV X W b fb) (hm : behindInMarks op b = false := by first | exact nobehind _ (by decide) (by decide) | rfl) :
    CT X W (.Compare a [op] [b] pos) (tB (e2 o fa fb)) := by
  obtain ⟨r, hr, h⟩ := ho
  refine (pt_cmpR hr ha hb hm).imp fun σ H Q ⟨H0, G0, G, env, s, p⟩ => ?_
  refine c_op (P := PR X.gm) (W := W) PR.mono (fun _ _ _ _ _ _ gr q => PR.of_N gr q) (S := PV X.gm) PV.keep (fun _ _ G H x y a b d Q s q1 q2 => h G H x y a b d Q s q1 q2) σ H _ ⟨H0, G0, G, env, s, ?_⟩
  unfold tB at p
  cases e1 : e2 o fa fb env with
  | ok d =>
    rw [e1] at p
    intro v G' H' gr q
    replace p : PstT X.gm W σ G H Q (ofO (asB d)) := p
    cases q with
    | bl b => exact ⟨b, rfl, p G' H' gr⟩
    | _ => exact p.elim
  | exc x => rw [e1] at p; exact p
  | stuck => rw [e1] at p; exact p
theorem PstT.grow {g : Gm} {σ : L2.St} {G H G1 H1 : Hp} {Q : Bool → Hp → Prop} {r : Res Bool} (gr : Gr G H G1 H1) (p : PstT g W σ G H Q r) : PstT g W σ G1 H1 Q r := by
  cases r with
  | ok d => exact fun G' H' g2 => p G' H' (gr.trans g2)
  | exc x => exact fun c d G' H' g2 q => p c d G' H' (gr.trans g2) q
  | stuck => exact p
abbrev TD := EnvD → Res Bool
theorem tT_bind {g : Gm} {f : TD} {σ : L2.St} {H H0 G0 G : Hp} {env : EnvD} {Q Q' : Bool → Hp → Prop} {k : Bool → Res Bool} (s : SR g H0 G0 G H σ env) (p : PstT g W σ G H Q ((f env).bind k))
    (c : ∀ b G1 H1, f env = .ok b → Gr G H G1 H1 → SR g H0 G0 G1 H1 σ env → Q' b H1) : tT g W f σ H Q' := by
  refine ⟨H0, G0, G, env, s, ?_⟩
  cases e : f env with
  | ok d => exact fun G1 H1 gr => c d G1 H1 e gr (s.grow gr)
  | exc x => rw [e] at p; exact p
  | stuck => rw [e] at p; exact p
def tAndD (f h : TD) : TD := fun env => (f env).bind fun b => if b = true then h env else .ok false
def tOrD (f h : TD) : TD := fun env => (f env).bind fun b => if b = true then .ok true else h env
def tNotD (f : TD) : TD := fun env => (f env).bind fun b => .ok (!b)
abbrev CW (X : Cx) (W : WX) (e : Expr) (f : TD) : Prop := PW X e (tT X.gm W f)
theorem _root_.L2.PW.imp {e : Expr} {t t' : TT} (h : PW X e t) (k : ∀ σ H Q, t' σ H Q → t σ H Q) : PW X e t' :=
  ⟨fun whole pins s σ H Q I q => h.run whole pins s σ H Q I (k _ _ _ q)⟩
section
variable {a b : Expr} {rest : List Expr} {fa fb : TD} {pos : Pos}
theorem cw_and1 (ha : CT X W a fa) : CW X W (.BoolOp .And [a] pos) fa := pw_and1 ha
theorem cw_or1 (ha : CT X W a fa) : CW X W (.BoolOp .Or [a] pos) fa := pw_or1 ha
theorem cw_and (ha : CT X W a fa) (hb : CW X W (.BoolOp .And (b :: rest) pos) fb) : CW X W (.BoolOp .And (a :: b :: rest) pos) (tAndD fa fb) :=
  (pw_and ha hb).imp fun σ H Q ⟨H0, G0, G, env, s, p⟩ => tT_bind s p fun k G1 H1 e gr s1 => by
    unfold tAndD at p
    rw [e] at p
    have p : PstT X.gm W σ G H Q (if k = true then fb env else .ok false) := p
    have p := p.grow gr
    cases k with
    | true => exact ⟨H0, G0, G1, env, s1, p⟩
    | false => exact p G1 H1 (.refl s1.gh)
theorem cw_or (ha : CT X W a fa) (hb : CW X W (.BoolOp .Or (b :: rest) pos) fb) : CW X W (.BoolOp .Or (a :: b :: rest) pos) (tOrD fa fb) :=
  (pw_or ha hb).imp fun σ H Q ⟨H0, G0, G, env, s, p⟩ => tT_bind s p fun k G1 H1 e gr s1 => by
    unfold tOrD at p
    rw [e] at p
    have p : PstT X.gm W σ G H Q (if k = true then .ok true else fb env) := p
    have p := p.grow gr
    cases k with
    | true => exact p G1 H1 (.refl s1.gh)
    | false => exact ⟨H0, G0, G1, env, s1, p⟩
theorem cw_t (h : CW X W a fa) : CT X W a fa := h.pt
theorem ct_not (ha : CT X W a fa) : CT X W (.UnaryOp .Not a pos) (tNotD fa) :=
  (pt_not ha).imp fun σ H Q ⟨H0, G0, G, env, s, p⟩ => tT_bind s p fun k G1 H1 e gr s1 => by
    unfold tNotD at p
    rw [e] at p
    have p : PstT X.gm W σ G H Q (.ok (!k)) := p
    exact p.grow gr G1 H1 (.refl s1.gh)
end
/-- values by and, or, not, if -/
def eAnd (f h : ED) : ED := fun env => (tB f env).bind fun b => if b = true then h env else .ok (.bl false)
def eOr (f h : ED) : ED := fun env => (tB f env).bind fun b => if b = true then .ok (.bl true) else h env
def eNot (f : ED) : ED := fun env => (tB f env).bind fun b => .ok (.bl (!b))
def eIf (t : TD) (f h : ED) : ED := fun env => (t env).bind fun b => if b = true then f env else h env
theorem tB_bind {g : Gm} {f : ED} {σ : L2.St} {H H0 G0 G : Hp} {env : EnvD} {Q Q' : VK} {k : Bool → Res D} {P' : PP} (s : SR g H0 G0 G H σ env)
    (p : Pst g W σ P' G H Q ((tB f env).bind k))
    (c : ∀ b G1 H1, tB f env = .ok b → Gr G H G1 H1 → SR g H0 G0 G1 H1 σ env → Q' (.bl b) H1) : tE g W (PR g) f σ H Q' := by
  refine ⟨H0, G0, G, env, s, ?_⟩
  unfold tB at p c
  cases e : f env with
  | ok d =>
    rw [e] at p c
    intro v G1 H1 gr q
    cases q with
    | bl b => exact c b G1 H1 rfl gr (s.grow gr)
    | _ => exact p.elim
  | exc x => rw [e] at p; exact p
  | stuck => rw [e] at p; exact p
section
variable {a b c : Expr} {rest : List Expr} {fa fb : ED} {ft : TD} {pos : Pos} {P : PP}
theorem ce_and (ha : CE X W a fa) (hb : CE X W (.BoolOp .And (b :: rest) pos) fb) : CE X W (.BoolOp .And (a :: b :: rest) pos) (eAnd fa fb) :=
  (pe_and ha hb).imp fun σ H Q ⟨H0, G0, G, env, s, p⟩ => tB_bind s p fun k G1 H1 e gr s1 => by
    unfold eAnd at p
    rw [e] at p
    have p : Pst X.gm W σ (PR X.gm) G H Q (if k = true then fb env else .ok (.bl false)) := p
    have p := p.grow PR.mono gr
    refine ⟨k, rfl, ?_⟩
    cases k with
    | true => exact ⟨H0, G0, G1, env, s1, p⟩
    | false => exact p _ G1 H1 (.refl s1.gh) (.bl false)
theorem ce_or (ha : CE X W a fa) (hb : CE X W (.BoolOp .Or (b :: rest) pos) fb) : CE X W (.BoolOp .Or (a :: b :: rest) pos) (eOr fa fb) :=
  (pe_or ha hb).imp fun σ H Q ⟨H0, G0, G, env, s, p⟩ => tB_bind s p fun k G1 H1 e gr s1 => by
    unfold eOr at p
    rw [e] at p
    have p : Pst X.gm W σ (PR X.gm) G H Q (if k = true then .ok (.bl true) else fb env) := p
    have p := p.grow PR.mono gr
    refine ⟨k, rfl, ?_⟩
    cases k with
    | true => exact p _ G1 H1 (.refl s1.gh) (.bl true)
    | false => exact ⟨H0, G0, G1, env, s1, p⟩
theorem ce_one {op : PySem.BoolOp} (ha : CE X W a fa) : CE X W (.BoolOp op [a] pos) fa := pe_one ha
theorem ce_not (ha : CE X W a fa) : CE X W (.UnaryOp .Not a pos) (eNot fa) :=
  (pe_not ha).imp fun σ H Q ⟨H0, G0, G, env, s, p⟩ => tB_bind s p fun k G1 H1 e gr s1 => by
    unfold eNot at p
    rw [e] at p
    have p : Pst X.gm W σ (PR X.gm) G H Q (.ok (.bl (!k))) := p
    exact ⟨k, rfl, p.grow PR.mono gr _ G1 H1 (.refl s1.gh) (.bl _)⟩
theorem c_if (hP : ∀ H H1 G' H' v d, Same H H1 → P H1 G' H' v d → P H G' H' v d) (hc : CT X W c ft) (ha : PE X a (tE X.gm W P fa)) (hb : PE X b (tE X.gm W P fb)) : PE X (.IfExp c a b pos) (tE X.gm W P (eIf ft fa fb)) :=
  (pe_ifExp hc ha hb).imp fun σ H Q ⟨H0, G0, G, env, s, p⟩ => by
    refine ⟨H0, G0, G, env, s, ?_⟩
    unfold eIf at p
    cases e : ft env with
    | ok k =>
      rw [e] at p
      have p : Pst X.gm W σ P G H Q (if k = true then fa env else fb env) := p
      intro G1 H1 gr
      have p := p.grow hP gr
      have s1 := s.grow gr
      cases k with
      | true => exact ⟨H0, G0, G1, env, s1, p⟩
      | false => exact ⟨H0, G0, G1, env, s1, p⟩
    | exc x => rw [e] at p; exact p
    | stuck => rw [e] at p; exact p
theorem ce_if (hc : CT X W c ft) (ha : CE X W a fa) (hb : CE X W b fb) : CE X W (.IfExp c a b pos) (eIf ft fa fb) := c_if PR.mono hc ha hb
theorem cv_if (hc : CT X W c ft) (ha : CV X W a fa) (hb : CV X W b fb) : CV X W (.IfExp c a b pos) (eIf ft fa fb) := c_if PV.mono hc ha hb
theorem cn_if (hc : CT X W c ft) (ha : CN X W a fa) (hb : CN X W b fb) : CN X W (.IfExp c a b pos) (eIf ft fa fb) := c_if PN.mono hc ha hb
end

/-! ### arguments, displays -/
abbrev AD := EnvD → Res (List D)
def aNil : AD := fun _ => .ok []
def aCons (f : ED) (h : AD) : AD := fun env => (f env).bind fun d => (h env).bind fun ds => .ok (d :: ds)
theorem PstA.grow {g : Gm} {σ : L2.St} {ms : List Bool} {G H G1 H1 : Hp} {Q : List V → Hp → Prop} {r : Res (List D)} (gr : Gr G H G1 H1) (p : PstA g W σ ms G H Q r) : PstA g W σ ms G1 H1 Q r := by
  cases r with
  | ok d => exact fun v G' H' g2 => p v G' H' (gr.trans g2)
  | exc x => exact fun c d G' H' g2 q => p c d G' H' (gr.trans g2) q
  | stuck => exact p
theorem ca_nil : CA X W [] [] aNil := pa_nil.imp fun σ H Q ⟨H0, G0, G, env, s, p⟩ => p [] G H (.refl s.gh) .nil
theorem ca_core {e : Expr} {es : List Expr} {m : Bool} {ms : List Bool} {f : ED} {h : AD} {P : PP} (hP : ∀ {H H1 G1 H2 G2 : Hp} {v : V} {d : D} {vs : List V} {ds : List D}, Same H1 H2 → Same G1 G2 → P H G1 H1 v d → AR X.gm H2 G2 ms vs ds → AR X.gm H2 G2 (m :: ms) (v :: vs) (d :: ds))
    (ha : PE X e (tE X.gm W P f)) (hr : CA X W es ms h) (hs : starEach (e :: es) X.env = (false, eval e X.env) :: starEach es X.env) : CA X W (e :: es) (m :: ms) (aCons f h) :=
  (pa_cons ha hr hs).imp fun σ H Q ⟨H0, G0, G, env, s, p⟩ => by
    refine ⟨H0, G0, G, env, s, ?_⟩
    unfold aCons at p
    cases e1 : f env with
    | ok d =>
      rw [e1] at p
      have p : PstA X.gm W σ (m :: ms) G H Q ((h env).bind fun ds => .ok (d :: ds)) := p
      intro v G1 H1 gr q
      have p := p.grow gr
      refine ⟨H0, G0, G1, env, s.grow gr, ?_⟩
      cases e2 : h env with
      | ok ds =>
        rw [e2] at p
        intro vs G2 H2 gr2 q2
        exact p (v :: vs) G2 H2 gr2 (hP gr2.h gr2.g q q2)
      | exc x => rw [e2] at p; exact p
      | stuck => rw [e2] at p; exact p
    | exc x => rw [e1] at p; exact p
    | stuck => rw [e1] at p; exact p
theorem ca_v {e : Expr} {es : List Expr} {ms : List Bool} {f : ED} {h : AD} (ha : CV X W e f) (hr : CA X W es ms h) (hs : starEach (e :: es) X.env = (false, eval e X.env) :: starEach es X.env := by rfl) : CA X W (e :: es) (true :: ms) (aCons f h) :=
  ca_core (fun e1 e2 q r => .view (Vw.mono e1 e2 q) r) ha hr hs
theorem ca_g {e : Expr} {es : List Expr} {ms : List Bool} {f : ED} {h : AD} (ha : CE X W e f) (hr : CA X W es ms h) (hs : starEach (e :: es) X.env = (false, eval e X.env) :: starEach es X.env := by rfl) : CA X W (e :: es) (false :: ms) (aCons f h) :=
  ca_core (fun e1 e2 q r => .good (R.mono e2 q) r) ha hr hs
theorem AR.good_rs {g : Gm} {H G : Hp} {ms : List Bool} {vs : List V} {ds : List D} (h : AR g H G ms vs ds) (hm : ms.all (! ·) = true) : Rs g G vs ds := by
  induction h with
  | nil => exact .nil
  | view _ _ _ => simp at hm
  | good r _ ih => exact .cons r (ih (by simpa using hm))
theorem Rs.length {g : Gm} {G : Hp} : ∀ {vs : List V} {ds : List D}, Rs g G vs ds → vs.length = ds.length
  | _, _, .nil => rfl
  | _, _, .cons _ t => congrArg (· + 1) (Rs.length t)
theorem AR.length {g : Gm} {H G : Hp} {ms : List Bool} {vs : List V} {ds : List D} (h : AR g H G ms vs ds) : vs.length = ms.length ∧ ds.length = ms.length := by
  induction h with
  | nil => exact ⟨rfl, rfl⟩
  | view _ _ ih => exact ⟨congrArg (· + 1) ih.1, congrArg (· + 1) ih.2⟩
  | good _ _ ih => exact ⟨congrArg (· + 1) ih.1, congrArg (· + 1) ih.2⟩
def eTup (h : AD) : ED := fun env => (h env).bind fun ds => .ok (.tup ds)
def eLst (h : AD) : ED := fun env => (h env).bind fun ds => .ok (.lst ds)
theorem small_line {n : Nat} (h : n ≤ 1000) : n ≤ sizeLine := Nat.le_trans h (by decide)
theorem ce_tup {es : List Expr} {ms : List Bool} {h : AD} {j : Nat} {pos : Pos} (ha : CA X W es ms h) (hm : ms.all (! ·) = true := by rfl) (hl : ms.length ≤ 1000 := by decide) : CE X W (.Tuple es j pos) (eTup h) :=
  (pe_tup ha).imp fun σ H Q ⟨H0, G0, G, env, s, p⟩ => by
    refine ⟨H0, G0, G, env, s, ?_⟩
    unfold eTup at p
    cases e1 : h env with
    | ok ds =>
      rw [e1] at p
      intro vs G' H' gr q
      refine ⟨small_line (by rw [q.length.1]; exact hl), fun a na => ?_⟩
      have g2 := Gr.new (o := .tup vs) (s.grow gr).gh na
      exact p _ _ _ (gr.trans g2) (.tup upd_same ((q.good_rs hm).mono g2.g))
    | exc x => rw [e1] at p; exact p
    | stuck => rw [e1] at p; exact p
theorem cn_lst {es : List Expr} {ms : List Bool} {h : AD} {pos : Pos} (ha : CA X W es ms h) (hm : ms.all (! ·) = true := by rfl) (hl : ms.length ≤ 1000 := by decide) : CN X W (.List es pos) (eLst h) :=
  (pe_lst ha).imp fun σ H Q ⟨H0, G0, G, env, s, p⟩ => by
    refine ⟨H0, G0, G, env, s, ?_⟩
    unfold eLst at p
    cases e1 : h env with
    | ok ds =>
      rw [e1] at p
      intro vs G' H' gr q
      refine ⟨small_line (by rw [q.length.1]; exact hl), fun a na => ?_⟩
      have s1 := s.grow gr
      exact p _ _ _ (gr.trans (Gr.fresh s1.gh na)) (.inr ⟨a, rfl, gr.h.free na, s1.gh.free na, .lst upd_same (q.good_rs hm)⟩)
    | exc x => rw [e1] at p; exact p
    | stuck => rw [e1] at p; exact p
theorem cn_dK {pos : Pos} : CN X W (.Dict [] [] pos) (eC (.dct false [])) := pe_dnewK.imp fun σ H Q ⟨H0, G0, G, env, s, p⟩ => fun a na =>
  p _ _ _ (Gr.fresh s.gh na) (.inr ⟨a, rfl, na, s.gh.free na, .dk upd_same .nil⟩)
theorem cn_dT {pos : Pos} : CN X W (.Dict [] [] pos) (eC (.dct true [])) := pe_dnewT.imp fun σ H Q ⟨H0, G0, G, env, s, p⟩ => fun a na =>
  p _ _ _ (Gr.fresh s.gh na) (.inr ⟨a, rfl, na, s.gh.free na, .dt upd_same .nil⟩)

/-! ### a built-in function or type called -/
def eB (F : List D → Option D) (h : AD) : ED := fun env => (h env).bind fun ds => ofO (F ds)
def CallN (X : Cx) (f : Value) (F : List D → Option D) : Prop :=
  ∃ r, CallR X f r ∧ ∀ G H ms vs ds d Q, Same G H → AR X.gm H G ms vs ds → F ds = some d → (∀ v G' H', Gr G H G' H' → PN X.gm H G' H' v d → Q v H') → r vs H Q
def CallG (X : Cx) (f : Value) (F : List D → Option D) : Prop :=
  ∃ r, CallR X f r ∧ ∀ G H ms vs ds d Q, Same G H → AR X.gm H G ms vs ds → F ds = some d → (∀ v G' H', Gr G H G' H' → PR X.gm H G' H' v d → Q v H') → r vs H Q
theorem eB_imp {P : PP} (hP : ∀ H H1 G' H' v d, Same H H1 → P H1 G' H' v d → P H G' H' v d) {r : List V → Hp → VK → Prop} {F : List D → Option D} {ms : List Bool} {h : AD}
    (hr : ∀ G H ms vs ds d Q, Same G H → AR X.gm H G ms vs ds → F ds = some d → (∀ v G' H', Gr G H G' H' → P H G' H' v d → Q v H') → r vs H Q) (σ : L2.St) (H : Hp) (Q : VK)
    (q : tE X.gm W P (eB F h) σ H Q) : tCB r (tA X.gm W ms h) σ H Q := by
  obtain ⟨H0, G0, G, env, s, p⟩ := q
  refine ⟨H0, G0, G, env, s, ?_⟩
  unfold eB at p
  cases e1 : h env with
  | ok ds =>
    rw [e1] at p
    have p : Pst X.gm W σ P G H Q (ofO (F ds)) := p
    intro vs G' H' gr q
    cases e2 : F ds with
    | none => rw [e2] at p; exact p.elim
    | some d =>
      rw [e2] at p
      exact hr G' H' ms vs ds d Q (s.grow gr).gh q e2 fun v G2 H2 gr2 z => p v G2 H2 (gr.trans gr2) (hP _ _ _ _ _ _ gr.h z)
  | exc x => rw [e1] at p; exact p
  | stuck => rw [e1] at p; exact p
section
variable {F : List D → Option D} {x : Str} {p pos : Pos} {e : Expr} {es : List Expr} {ms : List Bool} {h : AD} {id T : String}
theorem ce_bf (hc : CallG X (.builtin id) F) (hm : X.mg x = none) (ha : CA X W (e :: es) ms h) (hv : bootBuiltins x = some (.builtin id) := by decide +kernel) (hg : Gl X x := by rfl) (hn : x ≠ "__name__" := by decide) (hdb : (x == ("__debug__" : Str)) = false := by decide)
    (he : starEach (e :: es) X.env = (false, eval e X.env) :: starEach es X.env := by rfl) (hpl : (backTo pos (starEach es X.env)).any (·.1) = false := by rfl) : CE X W (.Call (.Name x p) (e :: es) [] pos) (eB F h) := by
  obtain ⟨r, hr, k⟩ := hc
  exact (pe_callB hr hg hm hv ha hn hdb he hpl).imp fun σ H Q q => eB_imp PR.mono k σ H Q q
theorem cn_bf (hc : CallN X (.builtin id) F) (hm : X.mg x = none) (ha : CA X W (e :: es) ms h) (hv : bootBuiltins x = some (.builtin id) := by decide +kernel) (hg : Gl X x := by rfl) (hn : x ≠ "__name__" := by decide) (hdb : (x == ("__debug__" : Str)) = false := by decide)
    (he : starEach (e :: es) X.env = (false, eval e X.env) :: starEach es X.env := by rfl) (hpl : (backTo pos (starEach es X.env)).any (·.1) = false := by rfl) : CN X W (.Call (.Name x p) (e :: es) [] pos) (eB F h) := by
  obtain ⟨r, hr, k⟩ := hc
  exact (pe_callB hr hg hm hv ha hn hdb he hpl).imp fun σ H Q q => eB_imp PN.mono k σ H Q q
theorem ce_bt (hc : CallG X (.type T) F) (hm : X.mg x = none) (ha : CA X W (e :: es) ms h) (hv : bootBuiltins x = some (.type T) := by decide +kernel) (hg : Gl X x := by rfl) (hn : x ≠ "__name__" := by decide) (hdb : (x == ("__debug__" : Str)) = false := by decide)
    (he : starEach (e :: es) X.env = (false, eval e X.env) :: starEach es X.env := by rfl) (hpl : (backTo pos (starEach es X.env)).any (·.1) = false := by rfl) : CE X W (.Call (.Name x p) (e :: es) [] pos) (eB F h) := by
  obtain ⟨r, hr, k⟩ := hc
  exact (pe_callTy hr hg hm hv ha hn hdb he hpl).imp fun σ H Q q => eB_imp PR.mono k σ H Q q
theorem cn_bt (hc : CallN X (.type T) F) (hm : X.mg x = none) (ha : CA X W (e :: es) ms h) (hv : bootBuiltins x = some (.type T) := by decide +kernel) (hg : Gl X x := by rfl) (hn : x ≠ "__name__" := by decide) (hdb : (x == ("__debug__" : Str)) = false := by decide)
    (he : starEach (e :: es) X.env = (false, eval e X.env) :: starEach es X.env := by rfl) (hpl : (backTo pos (starEach es X.env)).any (·.1) = false := by rfl) : CN X W (.Call (.Name x p) (e :: es) [] pos) (eB F h) := by
  obtain ⟨r, hr, k⟩ := hc
  exact (pe_callTy hr hg hm hv ha hn hdb he hpl).imp fun σ H Q q => eB_imp PN.mono k σ H Q q
end
theorem CallN.g {f : Value} {F : List D → Option D} (h : CallN X f F) : CallG X f F := by
  obtain ⟨r, hr, k⟩ := h
  refine ⟨r, hr, fun G H ms vs ds d Q s a e c => k G H ms vs ds d Q s a e fun v G' H' gr n => ?_⟩
  obtain ⟨G'', g2, r2⟩ := PR.of_N gr n
  exact c v G'' H' g2 r2
end
end Ck

namespace Ck
open PySem PySem.Spec L2

/-! ### states changed -/
section
variable {g : Gm} {H0 G0 G H : Hp} {σ : L2.St} {env : EnvD}
theorem SR.gr0 (s : SR g H0 G0 G H σ env) : Gr G0 H0 G H := ⟨s.g0, s.h0, s.gh, s.sep⟩
theorem get_set {α : Type} {l : List α} {i j : Nat} {x y : α} (h : (l.set i x)[j]? = some y) : (j = i ∧ i < l.length ∧ y = x) ∨ (j ≠ i ∧ l[j]? = some y) := by
  by_cases e : i = j
  · subst e
    rw [List.getElem?_set] at h
    simp at h
    exact .inl ⟨rfl, h.1, h.2.symm⟩
  · rw [List.getElem?_set_ne e] at h
    exact .inr ⟨fun z => e z.symm, h⟩
theorem SR.set_slot (s : SR g H0 G0 G H σ env) (i : Nat) (v : V) (sl : Slot) (h : SlotR g H0 G H (some (some v)) sl) (hd : ∀ d, sl = .own d → ∀ j e a, v = .ref a → env[j]? = some (.own e) → σ[j]? = some (some (.ref a)) → j = i) :
    SR g H0 G0 G H (σ.set i (some v)) (env.set i sl) := by
  refine ⟨s.gh, s.g0, s.h0, s.sep, by rw [List.length_set, List.length_set]; exact s.len, fun j t e => ?_, fun j k d e a h1 h2 h3 h4 => ?_⟩
  · rcases get_set e with ⟨rfl, hl, rfl⟩ | ⟨hne, e⟩
    · rw [List.getElem?_set_self (by rw [s.len]; exact hl)]
      exact h
    · rw [List.getElem?_set_ne (fun z => hne z.symm)]
      exact s.slot j t e
  · rcases get_set h1 with ⟨rfl, hl, e1⟩ | ⟨n1, h1'⟩
    · rw [List.getElem?_set_self (by rw [s.len]; exact hl)] at h3
      have ev : v = .ref a := Option.some.inj (Option.some.inj h3)
      rcases get_set h2 with ⟨rfl, _, _⟩ | ⟨n2, h2'⟩
      · rfl
      · rw [List.getElem?_set_ne (fun z => n2 z.symm)] at h4
        exact absurd (hd d e1.symm k e a ev h2' h4) n2
    · rw [List.getElem?_set_ne (fun z => n1 z.symm)] at h3
      rcases get_set h2 with ⟨rfl, hl, e1⟩ | ⟨n2, h2'⟩
      · rw [List.getElem?_set_self (by rw [s.len]; exact hl)] at h4
        have ev : v = .ref a := Option.some.inj (Option.some.inj h4)
        exact absurd (hd e e1.symm j d a ev h1' h3) n1
      · rw [List.getElem?_set_ne (fun z => n2 z.symm)] at h4
        exact s.dist j k d e a h1' h2' h3 h4
theorem SR.set_val (s : SR g H0 G0 G H σ env) (i : Nat) {v : V} {d : D} (r : R g G v d) : SR g H0 G0 G H (σ.set i (some v)) (env.set i (.val d)) :=
  s.set_slot i v _ ⟨v, rfl, r⟩ fun _ z => by cases z
def newS (d : D) : Slot := if mutD d = true then .own d else .val d
theorem Ow.mut {T : Hp} {a : Addr} {d : D} (h : Ow g T G a d) : mutD d = true := by cases h <;> rfl
theorem SR.set_new {G1 H1 : Hp} (s : SR g H0 G0 G H σ env) (gr : Gr G H G1 H1) (i : Nat) {v : V} {d : D} (r : PN g H G1 H1 v d) : SR g H0 G0 G1 H1 (σ.set i (some v)) (env.set i (newS d)) := by
  have s1 := s.grow gr
  unfold newS
  rcases r with ⟨m, r⟩ | ⟨a, rfl, hn, hg, ow⟩
  · rw [m]
    exact s1.set_val i r
  · rw [ow.mut]
    refine s1.set_slot i _ _ ⟨a, rfl, hg, s.h0.free hn, ow⟩ fun _ _ j e b ev h1 h2 => ?_
    cases ev
    obtain ⟨b, e1, _, _, ow2⟩ := s.slot j _ h1
    rw [e1] at h2
    cases h2
    obtain ⟨o, eo⟩ := ow2.ex
    rw [hn] at eo
    cases eo
/-- one's own object is changed -/
theorem SR.mut (s : SR g H0 G0 G H σ env) {i : Nat} {a : Addr} {d d' : D} {o : HO} (he : env[i]? = some (.own d)) (hs : σ[i]? = some (some (.ref a))) (ow : Ow g (upd H a o) G a d') :
    SR g H0 G0 G (upd H a o) σ (env.set i (.own d')) := by
  obtain ⟨b, e1, hg, h0, _⟩ := s.slot i _ he
  rw [hs] at e1
  cases e1
  refine ⟨fun b x e => ?_, s.g0, fun b x e => ?_, s.sep, by rw [List.length_set]; exact s.len, fun j t e => ?_, fun j k x y b h1 h2 h3 h4 => ?_⟩
  · rw [upd_ne (ne_of_none e hg)]; exact s.gh b x e
  · rw [upd_ne (ne_of_none e h0)]; exact s.h0 b x e
  · rcases get_set e with ⟨rfl, hl, rfl⟩ | ⟨hne, e⟩
    · exact ⟨a, hs, hg, h0, ow⟩
    · have h := s.slot j t e
      cases t with
      | un => trivial
      | val d => exact h
      | bor d => exact h
      | own x =>
        obtain ⟨b, e1, e2, e3, e4⟩ := h
        have nb : b ≠ a := fun z => by
          subst z
          exact hne (s.dist j i x d b e he e1 hs)
        exact ⟨b, e1, e2, e3, e4.mono (fun o' q => by rw [upd_ne nb]; exact q) (.refl _)⟩
  · have h1' : ∃ z, env[j]? = some (.own z) := by
      rcases get_set h1 with ⟨rfl, _, _⟩ | ⟨_, h⟩
      · exact ⟨_, he⟩
      · exact ⟨_, h⟩
    have h2' : ∃ z, env[k]? = some (.own z) := by
      rcases get_set h2 with ⟨rfl, _, _⟩ | ⟨_, h⟩
      · exact ⟨_, he⟩
      · exact ⟨_, h⟩
    obtain ⟨z1, q1⟩ := h1'
    obtain ⟨z2, q2⟩ := h2'
    exact s.dist j k z1 z2 b q1 q2 h3 h4
/-- one's own object is one's own no more -/
def frz (i : Nat) (env : EnvD) : EnvD := match env[i]? with
  | some (.own d) => env.set i (.val d)
  | _ => env
theorem SR.frz (s : SR g H0 G0 G H σ env) (i : Nat) : ∃ G', Same G G' ∧ SR g H0 G0 G' H σ (frz i env) := by
  unfold Ck.frz
  cases he : env[i]? with
  | none => exact ⟨G, .refl _, s⟩
  | some sl =>
    cases sl with
    | un => exact ⟨G, .refl _, s⟩
    | val d => exact ⟨G, .refl _, s⟩
    | bor d => exact ⟨G, .refl _, s⟩
    | own d =>
      obtain ⟨a, e1, hg, h0, ow⟩ := s.slot i _ he
      obtain ⟨o, eo, r⟩ := ow.put hg
      have sg : Same G (upd G a o) := fun b x e => by rw [upd_ne (ne_of_none e hg)]; exact e
      refine ⟨upd G a o, sg, ?_, s.g0.trans sg, s.h0, fun b x e1 e2 => ?_, by rw [List.length_set]; exact s.len, fun j t e => ?_, fun j k x y b h1 h2 h3 h4 => ?_⟩
      · intro b x e
        by_cases hb : b = a
        · subst hb; rw [upd_same] at e; rw [eo]; exact e
        · rw [upd_ne hb] at e; exact s.gh b x e
      · rw [upd_ne (ne_of_none e2 h0)]; exact s.sep b x e1 e2
      · rcases get_set e with ⟨rfl, hl, rfl⟩ | ⟨hne, e⟩
        · exact ⟨_, e1, r⟩
        · have h := s.slot j t e
          cases t with
          | un => trivial
          | val d => obtain ⟨v, q1, q2⟩ := h; exact ⟨v, q1, q2.mono sg⟩
          | bor d => obtain ⟨v, q1, q2⟩ := h; exact ⟨v, q1, q2.mono (.refl _) sg⟩
          | own x =>
            obtain ⟨b, q1, q2, q3, q4⟩ := h
            have nb : b ≠ a := fun z => by
              subst z
              exact hne (s.dist j i x d b e he q1 e1)
            exact ⟨b, q1, by rw [upd_ne nb]; exact q2, q3, q4.mono (fun _ q => q) sg⟩
      · rcases get_set h1 with ⟨rfl, _, z⟩ | ⟨_, h1⟩
        · cases z
        · rcases get_set h2 with ⟨rfl, _, z⟩ | ⟨_, h2⟩
          · cases z
          · exact s.dist j k x y b h1 h2 h3 h4
/-- a block's own names forgotten -/
@[simp] def wipeD (env : EnvD) : List Nat → EnvD
  | [] => env
  | v :: vs => (wipeD env vs).set v .un
theorem SR.unset {j : Nat} (s : SR g H0 G0 G H σ env) : SR g H0 G0 G H (σ.set j none) (env.set j .un) := by
  refine ⟨s.gh, s.g0, s.h0, s.sep, by rw [List.length_set, List.length_set]; exact s.len, fun k t e => ?_, fun k l d e a h1 h2 h3 h4 => ?_⟩
  · rcases get_set e with ⟨rfl, hl, rfl⟩ | ⟨hne, e⟩
    · trivial
    · rw [List.getElem?_set_ne (fun z => hne z.symm)]
      exact s.slot k t e
  · rcases get_set h1 with ⟨_, _, z⟩ | ⟨n1, h1⟩
    · cases z
    · rcases get_set h2 with ⟨_, _, z⟩ | ⟨n2, h2⟩
      · cases z
      · rw [List.getElem?_set_ne (fun z => n1 z.symm)] at h3
        rw [List.getElem?_set_ne (fun z => n2 z.symm)] at h4
        exact s.dist k l d e a h1 h2 h3 h4
theorem SR.wipe (s : SR g H0 G0 G H σ env) : ∀ vs : List Nat, SR g H0 G0 G H (wipe σ vs) (wipeD env vs)
  | [] => s
  | _ :: vs => (SR.wipe s vs).unset
end

/-! ### statements -/
inductive Out where
  | nx (env : EnvD) | rt (d : D) | exc (x : Exn) (env : EnvD) | stuck
abbrev SD := EnvD → Out
section
variable (g : Gm) (W : WX) (P : PP)
def PstS (H0 G0 G : Hp) (D : Ends) : Out → Prop
  | .nx env => ∀ σ G' H', Same G G' → SR g H0 G0 G' H' σ env → D.nx σ H'
  | .rt d => ∀ v G' H', Gr G0 H0 G' H' → P H0 G' H' v d → D.rt v H'
  | .exc x env => ∀ σ c d G' H', Same G G' → SR g H0 G0 G' H' σ env → XR g H' c d x → W c d σ H'
  | .stuck => False
def tS (f : SD) : TS := fun D σ H => ∃ H0 G0 G env, SR g H0 G0 G H σ env ∧ PstS g W P H0 G0 G D (f env)
end
theorem PstS.grow {g : Gm} {W : WX} {P : PP} {H0 G0 G G1 : Hp} {D : Ends} {r : Out} (e : Same G G1) (p : PstS g W P H0 G0 G D r) : PstS g W P H0 G0 G1 D r := by
  cases r with
  | nx env => exact fun σ G' H' e' s => p σ G' H' (e.trans e') s
  | rt d => exact p
  | exc x env => exact fun σ c d G' H' e' s => p σ c d G' H' (e.trans e') s
  | stuck => exact p
section
variable {X : Cx} {W : WX} {P : PP}
abbrev CS (X : Cx) (W : WX) (P : PP) (st : Stmt) (f : SD) : Prop := PS X st (tS X.gm W P f)
abbrev CSs (X : Cx) (W : WX) (P : PP) (st : List Stmt) (f : SD) : Prop := PSs X st (tS X.gm W P f)
/-- an expression's end as a statement's -/
def outE {α : Type} (r : Res α) (env : EnvD) (k : α → Out) : Out := match r with
  | .ok a => k a
  | .exc x => .exc x env
  | .stuck => .stuck
theorem tE_out {g : Gm} {S : PP} {f : ED} {σ : L2.St} {H H0 G0 G : Hp} {env : EnvD} {Q' : VK} {k : D → Out} {D : Ends} (s : SR g H0 G0 G H σ env)
    (p : PstS g W P H0 G0 G D (outE (f env) env k))
    (c : ∀ d v G1 H1, Gr G H G1 H1 → SR g H0 G0 G1 H1 σ env → S H G1 H1 v d → PstS g W P H0 G0 G1 D (k d) → Q' v H1) : tE g W S f σ H Q' := by
  refine ⟨H0, G0, G, env, s, ?_⟩
  cases e : f env with
  | ok d => rw [e] at p; exact fun v G1 H1 gr q => c d v G1 H1 gr (s.grow gr) q (PstS.grow gr.g p)
  | exc x => rw [e] at p; exact fun c d G1 H1 gr q => p σ c d G1 H1 gr.g (s.grow gr) q
  | stuck => rw [e] at p; exact p
theorem tT_out {g : Gm} {f : TD} {σ : L2.St} {H H0 G0 G : Hp} {env : EnvD} {Q' : Bool → Hp → Prop} {k : Bool → Out} {D : Ends} (s : SR g H0 G0 G H σ env)
    (p : PstS g W P H0 G0 G D (outE (f env) env k))
    (c : ∀ b G1 H1, Gr G H G1 H1 → SR g H0 G0 G1 H1 σ env → PstS g W P H0 G0 G1 D (k b) → Q' b H1) : tT g W f σ H Q' := by
  refine ⟨H0, G0, G, env, s, ?_⟩
  cases e : f env with
  | ok d => rw [e] at p; exact fun G1 H1 gr => c d G1 H1 gr (s.grow gr) (PstS.grow gr.g p)
  | exc x => rw [e] at p; exact fun c d G1 H1 gr q => p σ c d G1 H1 gr.g (s.grow gr) q
  | stuck => rw [e] at p; exact p
theorem tA_out {g : Gm} {ms : List Bool} {f : AD} {σ : L2.St} {H H0 G0 G : Hp} {env : EnvD} {Q' : List V → Hp → Prop} {k : List D → Out} {D : Ends} (s : SR g H0 G0 G H σ env)
    (p : PstS g W P H0 G0 G D (outE (f env) env k))
    (c : ∀ ds vs G1 H1, Gr G H G1 H1 → SR g H0 G0 G1 H1 σ env → AR g H1 G1 ms vs ds → PstS g W P H0 G0 G1 D (k ds) → Q' vs H1) : tA g W ms f σ H Q' := by
  refine ⟨H0, G0, G, env, s, ?_⟩
  cases e : f env with
  | ok d => rw [e] at p; exact fun v G1 H1 gr q => c d v G1 H1 gr (s.grow gr) q (PstS.grow gr.g p)
  | exc x => rw [e] at p; exact fun c d G1 H1 gr q => p σ c d G1 H1 gr.g (s.grow gr) q
  | stuck => rw [e] at p; exact p

def sNil : SD := fun env => .nx env
def sSeq (f h : SD) : SD := fun env => match f env with
  | .nx e => h e
  | o => o
def sIf (t : TD) (f h : SD) : SD := fun env => outE (t env) env fun b => if b = true then f env else h env
def sFrz (i : Nat) (f : SD) : SD := fun env => f (frz i env)
def sSet (i : Nat) (f : ED) : SD := fun env => outE (f env) env fun d => .nx (env.set i (.val d))
def sNew (i : Nat) (f : ED) : SD := fun env => outE (f env) env fun d => .nx (env.set i (newS d))
def sRet (f : ED) : SD := fun env => outE (f env) env fun d => .rt d
def sRetN : SD := fun _ => .rt .non
def sDrop (f : ED) : SD := fun env => outE (f env) env fun _ => .nx env
theorem css_nil : CSs X W P [] sNil := pss_nil.imp fun D σ H ⟨H0, G0, G, env, s, p⟩ => p σ G H (.refl _) s
theorem css_cons {st : Stmt} {r : List Stmt} {f h : SD} (h1 : CS X W P st f) (h2 : CSs X W P r h) : CSs X W P (st :: r) (sSeq f h) :=
  (pss_cons h1 h2).imp fun D σ H ⟨H0, G0, G, env, s, p⟩ => by
    refine ⟨H0, G0, G, env, s, ?_⟩
    unfold sSeq at p
    cases e : f env with
    | nx env' =>
      rw [e] at p
      exact fun σ' G' H' gr s' => ⟨H0, G0, G', env', s', p.grow gr⟩
    | rt d => rw [e] at p; exact p
    | exc x env' => rw [e] at p; exact p
    | stuck => rw [e] at p; exact p
theorem css_one {st : Stmt} {f : SD} (h1 : CS X W P st f) : CSs X W P [st] f := pss_one h1
theorem cs_frz (i : Nat) {st : Stmt} {f : SD} (h : CS X W P st f) : CS X W P st (sFrz i f) := h.imp fun D σ H ⟨H0, G0, G, env, s, p⟩ => by
  obtain ⟨G', e, s'⟩ := s.frz i
  exact ⟨H0, G0, G', _, s', p.grow e⟩
theorem cs_pass {pos : Pos} : CS X W P (.Pass pos) sNil := ps_pass.imp fun D σ H ⟨H0, G0, G, env, s, p⟩ => p σ G H (.refl _) s
theorem cs_if {c : Expr} {a b : List Stmt} {t : TD} {f h : SD} {pos : Pos} (hc : CT X W c t) (ha : CSs X W P a f) (hb : CSs X W P b h) : CS X W P (.If c a b pos) (sIf t f h) :=
  (ps_if hc ha hb).imp fun D σ H ⟨H0, G0, G, env, s, p⟩ => tT_out s p fun k G1 H1 gr s1 p1 => by
    cases k with
    | true => exact ⟨H0, G0, G1, env, s1, p1⟩
    | false => exact ⟨H0, G0, G1, env, s1, p1⟩
theorem cs_set (i : Nat) {x : Str} {e : Expr} {f : ED} {pos pos' : Pos} (hN : X.N.Nodup) (he : CE X W e f) (hi : X.N[i]? = some x := by rfl) (hx : Loc X.env.scope x := by first | exact .inl rfl | exact .inr rfl)
    (hs : swapsWith e (some (.Name x pos')) pos.line X.env = pure false := by rfl) (hf : X.fn x = true ∨ X.env.scope.names.lookup x = some .local := by first | exact .inl rfl | exact .inr rfl) : CS X W P (.Assign [.Name x pos'] e pos) (sSet i f) :=
  (ps_set hN hi hx he hs hf).imp fun D σ H ⟨H0, G0, G, env, s, p⟩ => tE_out s p fun d v G1 H1 gr s1 q p1 => p1 _ G1 H1 (.refl _) (s1.set_val i q)
theorem cs_new (i : Nat) {x : Str} {e : Expr} {f : ED} {pos pos' : Pos} (hN : X.N.Nodup) (he : CN X W e f) (hi : X.N[i]? = some x := by rfl) (hx : Loc X.env.scope x := by first | exact .inl rfl | exact .inr rfl)
    (hs : swapsWith e (some (.Name x pos')) pos.line X.env = pure false := by rfl) (hf : X.fn x = true ∨ X.env.scope.names.lookup x = some .local := by first | exact .inl rfl | exact .inr rfl) : CS X W P (.Assign [.Name x pos'] e pos) (sNew i f) :=
  (ps_set hN hi hx he hs hf).imp fun D σ H ⟨H0, G0, G, env, s, p⟩ => tE_out s p fun d v G1 H1 gr s1 q p1 => p1 _ G1 H1 (.refl _) (s.set_new gr i q)
theorem cs_ret {e : Expr} {f : ED} {pos : Pos} (he : CE X W e f) : CS X W (PR X.gm) (.Return (some e) pos) (sRet f) :=
  (ps_ret he).imp fun D σ H ⟨H0, G0, G, env, s, p⟩ => tE_out s p fun d v G1 H1 gr s1 q p1 => p1 v G1 H1 s1.gr0 q
theorem cs_retN {e : Expr} {f : ED} {pos : Pos} (he : CN X W e f) : CS X W (PN X.gm) (.Return (some e) pos) (sRet f) :=
  (ps_ret he).imp fun D σ H ⟨H0, G0, G, env, s, p⟩ => tE_out s p fun d v G1 H1 gr s1 q p1 => p1 v G1 H1 s1.gr0 (PN.mono _ _ _ _ _ _ s.h0 q)
/-- return x, x one's own or no list | dict -/
def sRetV (i : Nat) : SD := fun env => match env[i]? with
  | some (.own d) => .rt d
  | some (.val d) => if mutD d = true then .stuck else .rt d
  | _ => .stuck
theorem cs_retV (i : Nat) {x : Str} {pos pos' : Pos} (hN : X.N[i]? = some x := by rfl) (hv : Vis X.env.scope x := by first | exact Or.inl rfl | exact Or.inr (Or.inl rfl) | exact Or.inr (Or.inr rfl)) (hd : (x == ("__debug__" : Str)) = false := by decide)
    (hcd : (x == ("__classdict__" : Str)) = false := by decide) : CS X W (PN X.gm) (.Return (some (.Name x pos')) pos) (sRetV i) :=
  (ps_ret (pe_var hN hv hd hcd)).imp fun D σ H ⟨H0, G0, G, env, s, p⟩ => by
    unfold sRetV at p
    cases e : env[i]? with
    | none => rw [e] at p; exact p.elim
    | some sl =>
      rw [e] at p
      have h := s.slot i sl e
      cases sl with
      | un => exact p.elim
      | bor d => exact p.elim
      | val d =>
        obtain ⟨v, e1, e2⟩ := h
        refine ⟨v, e1, ?_⟩
        cases m : mutD d with
        | true =>
          have p : PstS X.gm W (PN X.gm) H0 G0 G D (if mutD d = true then .stuck else .rt d) := p
          rw [m] at p; exact p.elim
        | false =>
          have p : PstS X.gm W (PN X.gm) H0 G0 G D (if mutD d = true then .stuck else .rt d) := p
          rw [m] at p
          exact p v G H s.gr0 (.inl ⟨m, e2⟩)
      | own d =>
        obtain ⟨a, e1, e2, e3, e4⟩ := h
        exact ⟨_, e1, p _ G H s.gr0 (.inr ⟨a, rfl, e3, e2, e4⟩)⟩
theorem cs_retNone {pos : Pos} (hP : ∀ H G H', P H G H' .non .non) : CS X W P (.Return none pos) sRetN := ps_retN.imp fun D σ H ⟨H0, G0, G, env, s, p⟩ => p _ G H s.gr0 (hP _ _ _)
theorem PR.nn {g : Gm} : ∀ H G H', PR g H G H' .non .non := fun _ _ _ => .non
theorem PN.nn {g : Gm} : ∀ H G H', PN g H G H' .non .non := fun _ _ _ => .inl ⟨rfl, .non⟩
theorem cs_drop {e : Expr} {f : ED} {pos : Pos} (he : CE X W e f) (hs : swapsWith e none pos.line X.env = pure false := by rfl) : CS X W P (.Expr e pos) (sDrop f) :=
  (ps_expr he hs).imp fun D σ H ⟨H0, G0, G, env, s, p⟩ => tE_out s p fun d v G1 H1 gr s1 q p1 => p1 _ G1 H1 (.refl _) s1

/-! ### targets -/
abbrev GD := D → EnvD → Option EnvD
abbrev GsD := List D → EnvD → Option EnvD
def tG (g : Gm) (set : GD) : TG := fun v σ H Q => ∃ H0 G0 G env d env', SR g H0 G0 G H σ env ∧ R g G v d ∧ set d env = some env' ∧ ∀ σ', SR g H0 G0 G H σ' env' → Q σ' H
def tGs (g : Gm) (set : GsD) : TGs := fun vs σ H Q => ∃ H0 G0 G env ds env', SR g H0 G0 G H σ env ∧ Rs g G vs ds ∧ set ds env = some env' ∧ ∀ σ', SR g H0 G0 G H σ' env' → Q σ' H
abbrev CG (X : Cx) (e : Expr) (set : GD) : Prop := PG X e (tG X.gm set)
abbrev CGs (X : Cx) (e : List Expr) (set : GsD) : Prop := PGs X e (tGs X.gm set)
theorem _root_.L2.PG.imp {e : Expr} {t t' : TG} (h : PG X e t) (k : ∀ v σ H Q, t' v σ H Q → t v σ H Q) : PG X e t' :=
  ⟨fun pins s σ H v u Q I r q => h.run pins s σ H v u Q I r (k _ _ _ _ q)⟩
theorem _root_.L2.PGs.imp {e : List Expr} {t t' : TGs} (h : PGs X e t) (k : ∀ v σ H Q, t' v σ H Q → t v σ H Q) : PGs X e t' :=
  ⟨fun pins s σ H v u Q I r q => h.run pins s σ H v u Q I r (k _ _ _ _ q)⟩
def gVar (i : Nat) : GD := fun d env => some (env.set i (.val d))
def gNilD : GsD := fun ds env => match ds with
  | [] => some env
  | _ => none
def gConsD (a : GD) (b : GsD) : GsD := fun ds env => match ds with
  | d :: r => (a d env).bind (b r)
  | _ => none
def gTupD (b : GsD) : GD := fun d env => match d with
  | .tup ds => b ds env
  | .ctp ds => b ds env
  | _ => none
theorem cg_var (i : Nat) {x : Str} {pos : Pos} (hN : X.N.Nodup) (hi : X.N[i]? = some x := by rfl) (hx : Loc X.env.scope x := by first | exact .inl rfl | exact .inr rfl) (hf : X.fn x = true ∨ X.env.scope.names.lookup x = some .local := by first | exact .inl rfl | exact .inr rfl) :
    CG X (.Name x pos) (gVar i) := (pg_name hN hi hx hf).imp fun v σ H Q ⟨H0, G0, G, env, d, env', s, r, e, k⟩ => by
  cases e
  exact k _ (s.set_val i r)
theorem cgs_nil : CGs X [] gNilD := pgs_nil.imp fun v σ H Q ⟨H0, G0, G, env, d, env', s, r, e, k⟩ => by
  cases r with
  | nil => cases e; exact ⟨rfl, k _ s⟩
  | cons _ _ => cases e
theorem cgs_cons {e : Expr} {es : List Expr} {a : GD} {b : GsD} (h1 : CG X e a) (h2 : CGs X es b) (hs : (assignEach (e :: es) X.env).map (·.2) = assign e X.env :: (assignEach es X.env).map (·.2) := by rfl) : CGs X (e :: es) (gConsD a b) :=
  (pgs_cons h1 h2 hs).imp fun v σ H Q ⟨H0, G0, G, env, d, env', s, r, e, k⟩ => by
    cases r with
    | nil => cases e
    | cons r1 r2 =>
      unfold gConsD at e
      obtain ⟨env1, e1, e2⟩ := Option.bind_eq_some_iff.mp e
      exact ⟨_, _, rfl, H0, G0, G, env, _, env1, s, r1, e1, fun σ' s' => ⟨H0, G0, G, env1, _, env', s', r2, e2, k⟩⟩
theorem R.tup_inv {g : Gm} {G : Hp} {v : V} {ds : List D} (r : R g G v (.tup ds)) : ∃ a xs, v = .ref a ∧ SqT g.K G a xs ∧ Rs g G xs ds := by
  cases r with
  | tup h t => exact ⟨_, _, rfl, .of h, t⟩
theorem R.tup_ex {g : Gm} {G : Hp} {v : V} {ds : List D} (r : R g G v (.tup ds)) : ∃ a xs, v = .ref a ∧ G a = some (.tup xs) ∧ Rs g G xs ds := by
  cases r with
  | tup h t => exact ⟨_, _, rfl, h, t⟩
theorem sqT_k {K : PySem.W.Frag} {G : Hp} {a : Addr} {xs : List V} (h : SqT K (fun _ => none) a xs) : SqT K G a xs := by
  rcases h with (h | ⟨o, h⟩) | h
  · cases h
  · cases h
  · exact .inr h
theorem R.ctp_inv {g : Gm} {G : Hp} {v : V} {ds : List D} (r : R g G v (.ctp ds)) : ∃ a xs, v = .ref a ∧ SqT g.K G a xs ∧ Rs g G xs ds := by
  cases r with
  | ctp h t => exact ⟨_, _, rfl, sqT_k h, t⟩
theorem cg_tup {es : List Expr} {k : Nat} {b : GsD} {pos : Pos} (hc : X.calm = true) (h : CGs X es b) (hb : ∀ ds env env', b ds env = some env' → ds.length = es.length) (hp : PG X (.Tuple es k pos) (gTup X.K es.length (tGs X.gm b)) := by first | exact pg_tup (by assumption) (by assumption) | exact pg_tup (by rfl) (by assumption)) :
    CG X (.Tuple es k pos) (gTupD b) := hp.imp fun v σ H Q ⟨H0, G0, G, env, d, env', s, r, e, k⟩ => by
  cases d with
  | tup ds =>
    obtain ⟨a, xs, rfl, h1, h2⟩ := r.tup_inv
    exact ⟨a, xs, rfl, sqT_mono s.gh h1, h2.length.trans (hb _ _ _ e), H0, G0, G, env, ds, env', s, h2, e, k⟩
  | ctp ds =>
    obtain ⟨a, xs, rfl, h1, h2⟩ := r.ctp_inv
    exact ⟨a, xs, rfl, sqT_mono s.gh h1, h2.length.trans (hb _ _ _ e), H0, G0, G, env, ds, env', s, h2, e, k⟩
  | _ => cases e
def sAsg (f : ED) (b : GD) : SD := fun env => outE (f env) env fun d => match b d env with
  | some e => .nx e
  | none => .stuck
theorem cs_asg {tg e : Expr} {f : ED} {b : GD} {pos : Pos} (he : CE X W e f) (hg : CG X tg b) (hs : swapsWithSole [tg] e pos.line X.env = pure false := by rfl) (hw : swappedStores [tg] e X.env = pure none := by rfl)
    (h1 : (assignEach [tg] X.env).map (·.2) = [assign tg X.env] := by rfl) : CS X W P (.Assign [tg] e pos) (sAsg f b) :=
  (ps_asg he hg hs hw h1).imp fun D σ H ⟨H0, G0, G, env, s, p⟩ => tE_out s p fun d v G1 H1 gr s1 q p1 => by
    cases e1 : b d env with
    | none => rw [e1] at p1; exact p1.elim
    | some env' =>
      rw [e1] at p1
      exact ⟨H0, G0, G1, env, d, env', s1, q, e1, fun σ' s' => p1 σ' G1 H1 (.refl _) s'⟩
end
end Ck

namespace Ck
open PySem PySem.Spec L2 RZ

/-! ### what is walked -/
structure Wk (g : Gm) (B : Hp) (J : It) (G1 : Hp) (ds : List D) : Prop where
  go : ∀ (i : Nat) (G H : Hp), Same G1 G → Same G H → Same B H → i < ds.length → J.go i H
  stop : ∀ (i : Nat) (G H : Hp), Same G1 G → Same G H → Same B H → ds.length ≤ i → J.stop i H
  yld : ∀ (i : Nat) (d : D) (x : V) (G H H' : Hp), Same G1 G → Same G H → Same B H → ds[i]? = some d → J.yld i H x H' → ∃ G', Gr G H G' H' ∧ R g G' x d
theorem Rs.get {g : Gm} {G : Hp} : ∀ {xs : List V} {ds : List D} {i : Nat} {d : D}, Rs g G xs ds → ds[i]? = some d → ∃ x, xs[i]? = some x ∧ R g G x d
  | _, _, i, d, .nil, h => by simp at h
  | _, _, 0, d, .cons r t, h => by simp at h; subst h; exact ⟨_, rfl, r⟩
  | _, _, i + 1, d, .cons r t, h => by
    obtain ⟨x, h1, h2⟩ := Rs.get (i := i) (d := d) t (by simpa using h)
    exact ⟨x, by simpa using h1, h2⟩
theorem Rs.append {g : Gm} {G : Hp} : ∀ {xs ys : List V} {ds es : List D}, Rs g G xs ds → Rs g G ys es → Rs g G (xs ++ ys) (ds ++ es)
  | _, _, _, _, .nil, s => s
  | _, _, _, _, .cons r t, s => .cons r (Rs.append t s)
section
variable {g : Gm} {B G1 : Hp}
theorem wk_list {a : Addr} {xs : List V} {ds : List D} (hq : ∀ G H, Same G1 G → Same G H → Same B H → SqL g.K H a xs) (r : Rs g G1 xs ds) : Wk g B (Itl g.K a) G1 ds := by
  have hl := r.length
  refine ⟨fun i G H h1 h2 h3 hi => ?_, fun i G H h1 h2 h3 hi => ⟨xs, hq G H h1 h2 h3, by omega⟩, fun i d x G H H' h1 h2 h3 e y => ?_⟩
  · exact ⟨xs, xs[i], hq G H h1 h2 h3, List.getElem?_eq_getElem (by omega)⟩
  · obtain ⟨rfl, y⟩ := y
    obtain ⟨x', e1, r1⟩ := r.get e
    have := y xs (hq G _ h1 h2 h3)
    rw [e1] at this
    cases this
    exact ⟨G, .refl h2, r1.mono h1⟩
theorem wk_tup {a : Addr} {xs : List V} {ds : List D} (hq : ∀ G H, Same G1 G → Same G H → Same B H → SqT g.K H a xs) (r : Rs g G1 xs ds) : Wk g B (Itt g.K a) G1 ds := by
  have hl := r.length
  refine ⟨fun i G H h1 h2 h3 hi => ?_, fun i G H h1 h2 h3 hi => ⟨xs, hq G H h1 h2 h3, by omega⟩, fun i d x G H H' h1 h2 h3 e y => ?_⟩
  · exact ⟨xs, xs[i], hq G H h1 h2 h3, List.getElem?_eq_getElem (by omega)⟩
  · obtain ⟨rfl, y⟩ := y
    obtain ⟨x', e1, r1⟩ := r.get e
    have := y xs (hq G _ h1 h2 h3)
    rw [e1] at this
    cases this
    exact ⟨G, .refl h2, r1.mono h1⟩
theorem wk_str {s : Str} : Wk g B (Its s) G1 (s.cps.toList.map fun c => D.str ⟨#[c]⟩) := by
  refine ⟨fun i G H h1 h2 h3 hi => ?_, fun i G H h1 h2 h3 hi => ?_, fun i d x G H H' h1 h2 h3 e y => ?_⟩
  · simp at hi; exact hi
  · simp at hi; exact hi
  · obtain ⟨rfl, c, e1, rfl⟩ := y
    simp [e1] at e
    subst e
    exact ⟨G, .refl h2, .str _⟩
def rangeD (lo : Int) (n : Nat) : List D := (List.range n).map fun k => .int (lo + (k : Nat))
theorem wk_rng {lo : Int} {n : Nat} : Wk g B (Itr lo n) G1 (rangeD lo n) := by
  refine ⟨fun i G H h1 h2 h3 hi => ?_, fun i G H h1 h2 h3 hi => ?_, fun i d x G H H' h1 h2 h3 e y => ?_⟩
  · simp [rangeD] at hi; exact hi
  · simp [rangeD] at hi; exact hi
  · obtain ⟨rfl, rfl⟩ := y
    unfold rangeD at e
    rw [List.getElem?_map] at e
    cases e5 : (List.range n)[i]? with
    | none => rw [e5] at e; cases e
    | some k =>
      rw [e5] at e
      have hk : k = i := by
        have h5 := (List.getElem?_eq_some_iff.mp e5)
        obtain ⟨h6, h7⟩ := h5
        rw [List.getElem_range] at h7
        exact h7.symm
      subst hk
      cases e
      exact ⟨G, .refl h2, .int _⟩
def enumD (ds : List D) : List D := ds.zipIdx.map fun p => .tup [.int (p.2 : Nat), p.1]
theorem enumD_get {ds : List D} {i : Nat} {d : D} (h : (enumD ds)[i]? = some d) : ∃ e, ds[i]? = some e ∧ d = .tup [.int (i : Nat), e] := by
  unfold enumD at h
  rw [List.getElem?_map, List.getElem?_zipIdx] at h
  cases e : ds[i]? with
  | none => rw [e] at h; simp at h
  | some y => rw [e] at h; simp at h; exact ⟨y, rfl, h.symm⟩
theorem wk_enum {a : Addr} {xs : List V} {ds : List D} (hq : ∀ G H, Same G1 G → Same G H → Same B H → SqL g.K H a xs) (r : Rs g G1 xs ds) : Wk g B (Ite g.K a) G1 (enumD ds) := by
  have hl := r.length
  have hz : (enumD ds).length = ds.length := by simp [enumD]
  refine ⟨fun i G H h1 h2 h3 hi => ?_, fun i G H h1 h2 h3 hi => ⟨xs, hq G H h1 h2 h3, by omega⟩, fun i d x G H H' h1 h2 h3 e y => ?_⟩
  · exact ⟨xs, xs[i], hq G H h1 h2 h3, List.getElem?_eq_getElem (by omega)⟩
  · obtain ⟨T, x1, rfl, nT, rfl, y⟩ := y
    obtain ⟨e0, e2, rfl⟩ := enumD_get e
    obtain ⟨x', e1, r1⟩ := r.get e2
    have := y xs (hq G _ h1 h2 h3)
    rw [e1] at this
    cases this
    have gr := Gr.new (o := .tup [.int (i : Nat), x1]) h2 nT
    exact ⟨_, gr, .tup upd_same (.cons (.int _) (.cons ((r1.mono h1).mono gr.g) .nil))⟩
def zipD (ds es : List D) : List D := (ds.zip es).map fun p => .tup [p.1, p.2]
theorem zipD_get {ds es : List D} {i : Nat} {d : D} (h : (zipD ds es)[i]? = some d) : ∃ a b, ds[i]? = some a ∧ es[i]? = some b ∧ d = .tup [a, b] := by
  unfold zipD at h
  rw [List.getElem?_map] at h
  cases e : (ds.zip es)[i]? with
  | none => rw [e] at h; simp at h
  | some y =>
    rw [e] at h
    simp at h
    rw [List.getElem?_zip_eq_some] at e
    exact ⟨y.1, y.2, e.1, e.2, h.symm⟩
theorem wk_zipL {a b : Addr} {xs ys : List V} {ds es : List D} (hq : ∀ G H, Same G1 G → Same G H → Same B H → SqL g.K H a xs ∧ SqL g.K H b ys) (r : Rs g G1 xs ds) (r' : Rs g G1 ys es) : Wk g B (Itz g.K a b) G1 (zipD ds es) := by
  have hl := r.length
  have hl' := r'.length
  have hz : (zipD ds es).length = min ds.length es.length := by simp [zipD]
  refine ⟨fun i G H h1 h2 h3 hi => ?_, fun i G H h1 h2 h3 hi => ?_, fun i d x G H H' h1 h2 h3 e y => ?_⟩
  · exact ⟨xs, ys, xs[i], ys[i], (hq G H h1 h2 h3).1, (hq G H h1 h2 h3).2, List.getElem?_eq_getElem (by omega), List.getElem?_eq_getElem (by omega)⟩
  · exact ⟨xs, ys, (hq G H h1 h2 h3).1, (hq G H h1 h2 h3).2, by omega⟩
  · obtain ⟨T, x1, y1, rfl, nT, rfl, y, y'⟩ := y
    obtain ⟨e0, e0', e2, e2', rfl⟩ := zipD_get e
    obtain ⟨x', q1, r1⟩ := r.get e2
    obtain ⟨x'', q2, r2⟩ := r'.get e2'
    have z1 := y xs (hq G _ h1 h2 h3).1
    have z2 := y' ys (hq G _ h1 h2 h3).2
    rw [q1] at z1
    rw [q2] at z2
    cases z1
    cases z2
    have gr := Gr.new (o := .tup [x1, y1]) h2 nT
    exact ⟨_, gr, .tup upd_same (.cons ((r1.mono h1).mono gr.g) (.cons ((r2.mono h1).mono gr.g) .nil))⟩
theorem wk_zipT {a b : Addr} {xs ys : List V} {ds es : List D} (hq : ∀ G H, Same G1 G → Same G H → Same B H → SqT g.K H a xs ∧ SqT g.K H b ys) (r : Rs g G1 xs ds) (r' : Rs g G1 ys es) : Wk g B (ItzT g.K a b) G1 (zipD ds es) := by
  have hl := r.length
  have hl' := r'.length
  have hz : (zipD ds es).length = min ds.length es.length := by simp [zipD]
  refine ⟨fun i G H h1 h2 h3 hi => ?_, fun i G H h1 h2 h3 hi => ?_, fun i d x G H H' h1 h2 h3 e y => ?_⟩
  · exact ⟨xs, ys, xs[i], ys[i], (hq G H h1 h2 h3).1, (hq G H h1 h2 h3).2, List.getElem?_eq_getElem (by omega), List.getElem?_eq_getElem (by omega)⟩
  · exact ⟨xs, ys, (hq G H h1 h2 h3).1, (hq G H h1 h2 h3).2, by omega⟩
  · obtain ⟨T, x1, y1, rfl, nT, rfl, y, y'⟩ := y
    obtain ⟨e0, e0', e2, e2', rfl⟩ := zipD_get e
    obtain ⟨x', q1, r1⟩ := r.get e2
    obtain ⟨x'', q2, r2⟩ := r'.get e2'
    have z1 := y xs (hq G _ h1 h2 h3).1
    have z2 := y' ys (hq G _ h1 h2 h3).2
    rw [q1] at z1
    rw [q2] at z2
    cases z1
    cases z2
    have gr := Gr.new (o := .tup [x1, y1]) h2 nT
    exact ⟨_, gr, .tup upd_same (.cons ((r1.mono h1).mono gr.g) (.cons ((r2.mono h1).mono gr.g) .nil))⟩
theorem rs_rev {ds : List D} {i : Nat} {d : D} (h : ds.reverse[i]? = some d) : ds[ds.length - 1 - i]? = some d := by
  have hi : i < ds.length := by
    have := (List.getElem?_eq_some_iff.mp h).1
    simpa using this
  rw [List.getElem?_reverse hi] at h
  exact h
theorem wk_revL {a : Addr} {xs : List V} {ds : List D} (hq : ∀ G H, Same G1 G → Same G H → Same B H → SqL g.K H a xs) (r : Rs g G1 xs ds) : Wk g B (Itv g.K a xs.length) G1 ds.reverse := by
  have hl := r.length
  refine ⟨fun i G H h1 h2 h3 hi => ?_, fun i G H h1 h2 h3 hi => ?_, fun i d x G H H' h1 h2 h3 e y => ?_⟩
  · rw [List.length_reverse] at hi
    exact ⟨by omega, xs, xs[xs.length - 1 - i], hq G H h1 h2 h3, List.getElem?_eq_getElem (by omega)⟩
  · rw [List.length_reverse] at hi
    show xs.length ≤ i
    omega
  · obtain ⟨rfl, y⟩ := y
    obtain ⟨x', e1, r1⟩ := r.get (rs_rev e)
    have := y xs (hq G _ h1 h2 h3)
    rw [hl, e1] at this
    cases this
    exact ⟨G, .refl h2, r1.mono h1⟩
theorem wk_revT {a : Addr} {xs : List V} {ds : List D} (hq : ∀ G H, Same G1 G → Same G H → Same B H → SqT g.K H a xs) (r : Rs g G1 xs ds) : Wk g B (_root_.RT.ItvT g.K a xs.length) G1 ds.reverse := by
  have hl := r.length
  refine ⟨fun i G H h1 h2 h3 hi => ?_, fun i G H h1 h2 h3 hi => ?_, fun i d x G H H' h1 h2 h3 e y => ?_⟩
  · rw [List.length_reverse] at hi
    exact ⟨by omega, xs, xs[xs.length - 1 - i], hq G H h1 h2 h3, List.getElem?_eq_getElem (by omega)⟩
  · rw [List.length_reverse] at hi
    show xs.length ≤ i
    omega
  · obtain ⟨rfl, y⟩ := y
    obtain ⟨x', e1, r1⟩ := r.get (rs_rev e)
    have := y xs (hq G _ h1 h2 h3)
    rw [hl, e1] at this
    cases this
    exact ⟨G, .refl h2, r1.mono h1⟩
end

/-- b: true: what is walked must stand where the walk begins (a comprehension); false: at the def's entry, or for good -/
def tI (g : Gm) (W : WX) (b : Bool) (f : AD) : TI := fun σ H R => ∃ H0 G0 G env, SR g H0 G0 G H σ env ∧ match f env with
  | .ok ds => ∀ J G' H', Gr G H G' H' → Wk g (if b = true then H' else H0) J G' ds → R J H'
  | .exc x => ∀ c d G' H', Gr G H G' H' → XR g H' c d x → W c d σ H'
  | .stuck => False
section
variable {X : Cx} {W : WX} {P : PP}
abbrev CI (X : Cx) (W : WX) (b : Bool) (tg e : Expr) (f : AD) : Prop := PI X tg e (tI X.gm W b f)
theorem _root_.L2.PI.imp {tg e : Expr} {t t' : TI} (h : PI X tg e t) (k : ∀ σ H R, t' σ H R → t σ H R) : PI X tg e t' :=
  ⟨fun pins s σ H R I q => h.run pins s σ H R I (k _ _ _ q)⟩
theorem _root_.L2.PI.or {tg e : Expr} {t t' : TI} (h : PI X tg e t) (h' : PI X tg e t') : PI X tg e (fun σ H R => t σ H R ∨ t' σ H R) :=
  ⟨fun pins s σ H R I q => q.elim (h.run pins s σ H R I) (h'.run pins s σ H R I)⟩
def items : D → Option (List D)
  | .lst ds => some ds
  | .tup ds => some ds
  | .ctp ds => some ds
  | .str s => some (s.cps.toList.map fun c => .str ⟨#[c]⟩)
  | _ => none
def iAny (f : ED) : AD := fun env => (f env).bind fun d => ofO (items d)
theorem tE_ok {g : Gm} {S : PP} {f : ED} {σ : L2.St} {H H0 G0 G : Hp} {env : EnvD} {Q' : VK} {d : D} (s : SR g H0 G0 G H σ env) (e : f env = .ok d)
    (c : ∀ v G1 H1, Gr G H G1 H1 → SR g H0 G0 G1 H1 σ env → S H G1 H1 v d → Q' v H1) : tE g W S f σ H Q' :=
  ⟨H0, G0, G, env, s, by rw [e]; exact fun v G1 H1 gr q => c v G1 H1 gr (s.grow gr) q⟩
theorem tA_ok {g : Gm} {ms : List Bool} {f : AD} {σ : L2.St} {H H0 G0 G : Hp} {env : EnvD} {Q' : List V → Hp → Prop} {ds : List D} (s : SR g H0 G0 G H σ env) (e : f env = .ok ds)
    (c : ∀ vs G1 H1, Gr G H G1 H1 → SR g H0 G0 G1 H1 σ env → AR g H1 G1 ms vs ds → Q' vs H1) : tA g W ms f σ H Q' :=
  ⟨H0, G0, G, env, s, by rw [e]; exact fun v G1 H1 gr q => c v G1 H1 gr (s.grow gr) q⟩
/-- cases of an iterator's reading: h is the end of f's walk -/
theorem tI_cases {α : Type} {b : Bool} {f : EnvD → Res α} {F : α → Option (List D)} {σ : L2.St} {H : Hp} {R : It → Hp → Prop} {Z : Prop}
    (h : tI X.gm W b (fun env => (f env).bind fun d => ofO (F d)) σ H R)
    (c1 : ∀ H0 G0 G env d ds, SR X.gm H0 G0 G H σ env → f env = .ok d → F d = some ds → (∀ J G' H', Gr G H G' H' → Wk X.gm (if b = true then H' else H0) J G' ds → R J H') → Z)
    (c2 : ∀ H0 G0 G env x, SR X.gm H0 G0 G H σ env → f env = .exc x → (∀ c d G' H', Gr G H G' H' → XR X.gm H' c d x → W c d σ H') → Z) : Z := by
  obtain ⟨H0, G0, G, env, s, p⟩ := h
  dsimp only at p
  cases e : f env with
  | ok d =>
    rw [e] at p
    have p : (match ofO (F d) with
      | .ok ds => ∀ J G' H', Gr G H G' H' → Wk X.gm (if b = true then H' else H0) J G' ds → R J H'
      | .exc x => ∀ c d G' H', Gr G H G' H' → XR X.gm H' c d x → W c d σ H'
      | .stuck => False) := p
    cases e2 : F d with
    | none => rw [e2] at p; exact p.elim
    | some ds => rw [e2] at p; exact c1 H0 G0 G env d ds s e e2 p
  | exc x => rw [e] at p; exact c2 H0 G0 G env x s e p
  | stuck => rw [e] at p; exact p.elim
theorem ci_core {tg e : Expr} {f : ED} {b : Bool} {S : PP} (h : PE X e (tE X.gm W S f))
    (hL : ∀ {H H0 G0 G1 H1 : Hp} {σ : L2.St} {env : EnvD} {v : V} {ds : List D}, SR X.gm H0 G0 G1 H1 σ env → S H G1 H1 v (.lst ds) →
      ∃ a xs, v = .ref a ∧ (∃ ys, SqL X.K H1 a ys) ∧ (∀ G H, Same G1 G → Same G H → Same (if b = true then H1 else H0) H → SqL X.K H a xs) ∧ Rs X.gm G1 xs ds)
    (hT : ∀ {H G1 H1 : Hp} {v : V} {ds : List D}, S H G1 H1 v (.tup ds) → R X.gm G1 v (.tup ds)) (hC : ∀ {H G1 H1 : Hp} {v : V} {ds : List D}, S H G1 H1 v (.ctp ds) → R X.gm G1 v (.ctp ds)) (hs : ∀ {H G1 H1 : Hp} {v : V} {s : Str}, S H G1 H1 v (.str s) → v = .str s) : CI X W b tg e (iAny f) := by
  refine ((pi_list h).or ((pi_tup h).or (pi_str h))).imp fun σ H R q => tI_cases q (fun H0 G0 G env d ds s e1 e2 k => ?_) fun H0 G0 G env x s e1 k => .inl ⟨H0, G0, G, env, s, by rw [e1]; exact k⟩
  cases d with
  | lst l =>
    cases e2
    refine .inl (tE_ok s e1 fun v G1 H1 gr s1 q => ?_)
    obtain ⟨a, xs, rfl, h1, h2, h3⟩ := hL s1 q
    exact ⟨a, rfl, h1, k _ G1 H1 gr (wk_list h2 h3)⟩
  | tup l =>
    cases e2
    refine .inr (.inl (tE_ok s e1 fun v G1 H1 gr s1 q => ?_))
    obtain ⟨a, xs, rfl, h1, h2⟩ := (hT q).tup_inv
    exact ⟨a, rfl, ⟨xs, sqT_mono s1.gh h1⟩, k _ G1 H1 gr (wk_tup (fun G H q1 q2 _ => sqT_mono (q1.trans q2) h1) h2)⟩
  | ctp l =>
    cases e2
    refine .inr (.inl (tE_ok s e1 fun v G1 H1 gr s1 q => ?_))
    obtain ⟨a, xs, rfl, h1, h2⟩ := (hC q).ctp_inv
    exact ⟨a, rfl, ⟨xs, sqT_mono s1.gh h1⟩, k _ G1 H1 gr (wk_tup (fun G H q1 q2 _ => sqT_mono (q1.trans q2) h1) h2)⟩
  | str x =>
    cases e2
    refine .inr (.inr (tE_ok s e1 fun v G1 H1 gr s1 q => ?_))
    exact ⟨x, hs q, k _ G1 H1 gr wk_str⟩
  | _ => cases e2
theorem R.lst_inv {g : Gm} {G : Hp} {v : V} {ds : List D} (r : R g G v (.lst ds)) : ∃ a xs, v = .ref a ∧ Rd G a (.lst xs) ∧ Rs g G xs ds := by
  cases r with
  | lst h t => exact ⟨_, _, rfl, h, t⟩
theorem R.str_inv {g : Gm} {G : Hp} {v : V} {s : Str} (r : R g G v (.str s)) : v = .str s := by
  cases r; rfl
theorem R.int_inv {g : Gm} {G : Hp} {v : V} {s : Int} (r : R g G v (.int s)) : v = .int s := by
  cases r; rfl
theorem R.bl_inv {g : Gm} {G : Hp} {v : V} {s : Bool} (r : R g G v (.bl s)) : v = .bl s := by
  cases r; rfl
theorem Vw.lst_inv {g : Gm} {T G : Hp} (e : Same G T) {v : V} {ds : List D} (r : Vw g T G v (.lst ds)) : ∃ a xs, v = .ref a ∧ SqL g.K T a xs ∧ Rs g G xs ds := by
  cases r with
  | val h => obtain ⟨a, xs, rfl, h1, h2⟩ := h.lst_inv; exact ⟨a, xs, rfl, .inl (rd_mono e h1), h2⟩
  | lst h t => exact ⟨_, _, rfl, .inl h, t⟩
  | sq h t => exact ⟨_, _, rfl, h, t⟩
theorem Vw.tup_inv {g : Gm} {T G : Hp} {v : V} {ds : List D} (r : Vw g T G v (.tup ds)) : R g G v (.tup ds) := by
  cases r with
  | val h => exact h
theorem Vw.ctp_inv {g : Gm} {T G : Hp} {v : V} {ds : List D} (r : Vw g T G v (.ctp ds)) : R g G v (.ctp ds) := by
  cases r with
  | val h => exact h
theorem Vw.str_inv {g : Gm} {T G : Hp} {v : V} {s : Str} (r : Vw g T G v (.str s)) : v = .str s := by
  cases r with
  | val h => exact h.str_inv
theorem Vw.int_inv {g : Gm} {T G : Hp} {v : V} {s : Int} (r : Vw g T G v (.int s)) : v = .int s := by
  cases r with
  | val h => exact h.int_inv
theorem Vw.bl_inv {g : Gm} {T G : Hp} {v : V} {s : Bool} (r : Vw g T G v (.bl s)) : v = .bl s := by
  cases r with
  | val h => exact h.bl_inv
/-- walked: what stands for good; what is viewed, in a comprehension; a borrowed name -/
theorem ci_e {tg e : Expr} {f : ED} {b : Bool} (h : CE X W e f) : CI X W b tg e (iAny f) := ci_core h
  (fun s q => by
    obtain ⟨a, xs, rfl, h1, h2⟩ := Ck.R.lst_inv q
    exact ⟨a, xs, rfl, ⟨xs, .inl (rd_mono s.gh h1)⟩, fun G H q1 q2 _ => .inl (rd_mono (q1.trans q2) h1), h2⟩) (fun q => q) (fun q => q) fun q => R.str_inv q
theorem ci_v {tg e : Expr} {f : ED} (h : CV X W e f) : CI X W true tg e (iAny f) := ci_core h
  (fun s q => by
    obtain ⟨a, xs, rfl, h1, h2⟩ := Vw.lst_inv s.gh q
    exact ⟨a, xs, rfl, ⟨xs, h1⟩, fun G H q1 q2 q3 => q3.seq h1, h2⟩) (fun q => Vw.tup_inv q) (fun q => Vw.ctp_inv q) fun q => Vw.str_inv q
theorem e62 : (2 : Int) ^ 62 = 4611686018427387904 := by decide
/-- range(n), range(a, b) -/
def rng1 : List D → Option (List D)
  | [.int j] => if j.natAbs < 4611686018427387904 then some (rangeD 0 j.toNat) else none
  | _ => none
def rng2 : List D → Option (List D)
  | [.int i, .int j] => if i.natAbs < 4611686018427387904 ∧ j.natAbs < 4611686018427387904 then some (rangeD i (j - i).toNat) else none
  | _ => none
def iB (F : List D → Option (List D)) (f : AD) : AD := fun env => (f env).bind fun d => ofO (F d)
theorem AR.nil_inv {g : Gm} {H G : Hp} {ms : List Bool} {vs : List V} (r : AR g H G ms vs []) : vs = [] := by
  cases r; rfl
theorem AR.cons_inv {g : Gm} {H G : Hp} {ms : List Bool} {vs : List V} {d : D} {ds : List D} (r : AR g H G ms vs (d :: ds)) : ∃ m v ws, ms = m :: ms.tail ∧ vs = v :: ws ∧ Vw g H G v d ∧ AR g H G ms.tail ws ds := by
  cases r with
  | view h t => exact ⟨_, _, _, rfl, rfl, h, t⟩
  | good h t => exact ⟨_, _, _, rfl, rfl, .val h, t⟩
theorem AR.one {g : Gm} {H G : Hp} {ms : List Bool} {vs : List V} {d : D} (r : AR g H G ms vs [d]) : ∃ v, vs = [v] ∧ Vw g H G v d := by
  obtain ⟨m, v, ws, _, rfl, h, t⟩ := r.cons_inv
  rw [t.nil_inv]
  exact ⟨v, rfl, h⟩
theorem AR.two {g : Gm} {H G : Hp} {ms : List Bool} {vs : List V} {d e : D} (r : AR g H G ms vs [d, e]) : ∃ v w, vs = [v, w] ∧ Vw g H G v d ∧ Vw g H G w e := by
  obtain ⟨m, v, ws, _, rfl, h, t⟩ := r.cons_inv
  obtain ⟨w, rfl, h2⟩ := t.one
  exact ⟨v, w, rfl, h, h2⟩
theorem AR.three {g : Gm} {H G : Hp} {ms : List Bool} {vs : List V} {d e k : D} (r : AR g H G ms vs [d, e, k]) : ∃ v w u, vs = [v, w, u] ∧ Vw g H G v d ∧ Vw g H G w e ∧ Vw g H G u k := by
  obtain ⟨m, v, ws, _, rfl, h, t⟩ := r.cons_inv
  obtain ⟨w, u, rfl, h2, h3⟩ := t.two
  exact ⟨v, w, u, rfl, h, h2, h3⟩
theorem ci_r1 {tg a : Expr} {f : AD} {b : Bool} {ms : List Bool} {p pos : Pos} (hm : X.mg "range" = none) (ha : CA X W [a] ms f) (hg : Gl X "range" := by rfl) (hs : starEach [a] X.env = [(false, eval a X.env)] := by rfl) :
    CI X W b tg (.Call (.Name "range" p) [a] [] pos) (iB rng1 f) := (pi_range1 hg hm ha hs).imp fun σ H R q => tI_cases q
  (fun H0 G0 G env d ds s e1 e2 k => tA_ok s e1 fun vs G1 H1 gr s1 q => by
    unfold rng1 at e2
    split at e2
    · rename_i j
      obtain ⟨v, rfl, hv⟩ := q.one
      rw [hv.int_inv]
      split at e2
      · rename_i hj
        cases e2
        exact ⟨j, rfl, by rw [e62]; omega, by rw [e62]; omega, k _ G1 H1 gr wk_rng⟩
      · cases e2
    · cases e2) fun H0 G0 G env x s e1 k => ⟨H0, G0, G, env, s, by rw [e1]; exact k⟩
theorem ci_r2 {tg a c : Expr} {f : AD} {b : Bool} {ms : List Bool} {p pos : Pos} (hm : X.mg "range" = none) (ha : CA X W [a, c] ms f) (hg : Gl X "range" := by rfl) (hs : starEach [a, c] X.env = [(false, eval a X.env), (false, eval c X.env)] := by rfl) (hs2 : starEach [c] X.env = [(false, eval c X.env)] := by rfl) :
    CI X W b tg (.Call (.Name "range" p) [a, c] [] pos) (iB rng2 f) := (pi_range2 hg hm ha hs hs2).imp fun σ H R q => tI_cases q
  (fun H0 G0 G env d ds s e1 e2 k => tA_ok s e1 fun vs G1 H1 gr s1 q => by
    unfold rng2 at e2
    split at e2
    · rename_i i j
      obtain ⟨v, w, rfl, hv, hw⟩ := q.two
      rw [hv.int_inv, hw.int_inv]
      split at e2
      · rename_i hj
        cases e2
        exact ⟨i, j, rfl, by rw [e62]; omega, k _ G1 H1 gr wk_rng⟩
      · cases e2
    · cases e2) fun H0 G0 G env x s e1 k => ⟨H0, G0, G, env, s, by rw [e1]; exact k⟩
/-- enumerate(list), zip(list, list), zip(tuple, tuple), reversed(list), reversed(tuple) of what stands for good -/
def enm1 : List D → Option (List D)
  | [.lst ds] => some (enumD ds)
  | _ => none
def zip2 : List D → Option (List D)
  | [.lst ds, .lst es] => some (zipD ds es)
  | [.tup ds, .tup es] => some (zipD ds es)
  | _ => none
theorem AR.good1 {g : Gm} {H G : Hp} {vs : List V} {d : D} (r : AR g H G [false] vs [d]) : ∃ v, vs = [v] ∧ R g G v d := by
  cases r with
  | good h t => rw [t.nil_inv]; exact ⟨_, rfl, h⟩
theorem AR.good2 {g : Gm} {H G : Hp} {vs : List V} {d e : D} (r : AR g H G [false, false] vs [d, e]) : ∃ v w, vs = [v, w] ∧ R g G v d ∧ R g G w e := by
  cases r with
  | good h t => obtain ⟨w, rfl, h2⟩ := t.good1; exact ⟨_, _, rfl, h, h2⟩
theorem ci_enum {a : Expr} {elts : List Expr} {kk : Nat} {tpos : Pos} {f : AD} {b : Bool} {p pos : Pos} (hm : X.mg "enumerate" = none) (ha : CA X W [a] [false] f) (hg : Gl X "enumerate" := by rfl) (hs : starEach [a] X.env = [(false, eval a X.env)] := by rfl) :
    CI X W b (.Tuple elts kk tpos) (.Call (.Name "enumerate" p) [a] [] pos) (iB enm1 f) := (pi_enum hg hm ha hs).imp fun σ H R q => tI_cases q
  (fun H0 G0 G env d ds s e1 e2 k => tA_ok s e1 fun vs G1 H1 gr s1 q => by
    unfold enm1 at e2
    split at e2
    · rename_i l
      cases e2
      obtain ⟨v, rfl, hv⟩ := q.good1
      obtain ⟨a, xs, rfl, h1, h2⟩ := hv.lst_inv
      exact ⟨a, xs, rfl, .inl (rd_mono s1.gh h1), k _ G1 H1 gr (wk_enum (fun G H q1 q2 _ => .inl (rd_mono (q1.trans q2) h1)) h2)⟩
    · cases e2) fun H0 G0 G env x s e1 k => ⟨H0, G0, G, env, s, by rw [e1]; exact k⟩
theorem ci_zip {a c : Expr} {elts : List Expr} {kk : Nat} {tpos : Pos} {f : AD} {b : Bool} {p pos : Pos} (hm : X.mg "zip" = none) (ha : CA X W [a, c] [false, false] f) (hg : Gl X "zip" := by rfl) (hs : starEach [a, c] X.env = (false, eval a X.env) :: starEach [c] X.env := by rfl) (hpl : (backTo pos (starEach [c] X.env)).any (·.1) = false := by rfl) :
    CI X W b (.Tuple elts kk tpos) (.Call (.Name "zip" p) [a, c] [] pos) (iB zip2 f) := (pi_zipA hg hm ha hs hpl).imp fun σ H R q => tI_cases q
  (fun H0 G0 G env d ds s e1 e2 k => tA_ok s e1 fun vs G1 H1 gr s1 q => by
    unfold zip2 at e2
    split at e2
    · rename_i l m
      cases e2
      obtain ⟨v, w, rfl, hv, hw⟩ := q.good2
      obtain ⟨a, xs, rfl, h1, h2⟩ := hv.lst_inv
      obtain ⟨c, ys, rfl, h3, h4⟩ := hw.lst_inv
      exact ⟨a, c, xs, ys, rfl, .inl ⟨.inl (rd_mono s1.gh h1), .inl (rd_mono s1.gh h3), k _ G1 H1 gr (wk_zipL (fun G H q1 q2 _ => ⟨.inl (rd_mono (q1.trans q2) h1), .inl (rd_mono (q1.trans q2) h3)⟩) h2 h4)⟩⟩
    · rename_i l m
      cases e2
      obtain ⟨v, w, rfl, hv, hw⟩ := q.good2
      obtain ⟨a, xs, rfl, h1, h2⟩ := hv.tup_inv
      obtain ⟨c, ys, rfl, h3, h4⟩ := hw.tup_inv
      exact ⟨a, c, xs, ys, rfl, .inr ⟨sqT_mono s1.gh h1, sqT_mono s1.gh h3, k _ G1 H1 gr (wk_zipT (fun G H q1 q2 _ => ⟨sqT_mono (q1.trans q2) h1, sqT_mono (q1.trans q2) h3⟩) h2 h4)⟩⟩
    · cases e2) fun H0 G0 G env x s e1 k => ⟨H0, G0, G, env, s, by rw [e1]; exact k⟩
def rev1 : D → Option (List D)
  | .lst ds => some ds.reverse
  | .tup ds => some ds.reverse
  | _ => none
def iRevD (f : ED) : AD := fun env => (f env).bind fun d => ofO (rev1 d)
theorem ci_rev {tg a : Expr} {f : ED} {b : Bool} {p pos : Pos} (hm : X.mg "reversed" = none) (ha : CE X W a f) (hg : Gl X "reversed" := by rfl) (hs : starEach [a] X.env = (false, eval a X.env) :: starEach [] X.env := by rfl) :
    CI X W b tg (.Call (.Name "reversed" p) [a] [] pos) (iRevD f) := (_root_.RT.pi_revA hg hm ha hs).imp fun σ H R q => tI_cases q
  (fun H0 G0 G env d ds s e1 e2 k => tE_ok s e1 fun v G1 H1 gr s1 q => by
    unfold rev1 at e2
    split at e2
    · cases e2
      obtain ⟨a, xs, rfl, h1, h2⟩ := Ck.R.lst_inv q
      exact ⟨a, xs, rfl, .inl ⟨.inl (rd_mono s1.gh h1), k _ G1 H1 gr (wk_revL (fun G H q1 q2 _ => .inl (rd_mono (q1.trans q2) h1)) h2)⟩⟩
    · cases e2
      obtain ⟨a, xs, rfl, h1, h2⟩ := Ck.R.tup_inv q
      exact ⟨a, xs, rfl, .inr ⟨sqT_mono s1.gh h1, k _ G1 H1 gr (wk_revT (fun G H q1 q2 _ => sqT_mono (q1.trans q2) h1) h2)⟩⟩
    · cases e2) fun H0 G0 G env x s e1 k => ⟨H0, G0, G, env, s, by rw [e1]; exact k⟩

/-! ### for, while -/
def forD (set : GD) (f : SD) : List D → SD
  | [] => fun env => .nx env
  | d :: ds => fun env => match set d env with
    | none => .stuck
    | some e => match f e with
      | .nx e' => forD set f ds e'
      | o => o
def sFor (it : AD) (set : GD) (f : SD) : SD := fun env => outE (it env) env fun ds => forD set f ds env
theorem cs_for {tg iter : Expr} {body : List Stmt} {it : AD} {set : GD} {f : SD} {pos : Pos} (hp : PassesOwn (model X.prog X.w) X.A X.env X.xe) (hi : CI X W false tg iter it) (hg : CG X tg set) (hb : CSs X W P body f)
    (hc : X.calm = true := by rfl) (hs : ∀ x, foldedSetIterable iter X.env x = pure x := by intro _; rfl) : CS X W P (.For tg iter body [] pos) (sFor it set f) :=
  (ps_for hp hc hi hg hb hs).imp fun D σ H ⟨H0, G0, G, env, s, p⟩ => by
    refine ⟨H0, G0, G, env, s, ?_⟩
    unfold sFor at p
    cases e : it env with
    | exc x => rw [e] at p; exact fun c d G1 H1 gr q => p σ c d G1 H1 gr.g (s.grow gr) q
    | stuck => rw [e] at p; exact p
    | ok ds =>
      rw [e] at p
      intro J G1 H1 gr wk
      have p : PstS X.gm W P H0 G0 G D (forD set f ds env) := p
      have p1 := PstS.grow gr.g p
      refine ⟨fun i m σ H => ∃ G env, Same G1 G ∧ SR X.gm H0 G0 G H σ env ∧ m = ds.length - i ∧ PstS X.gm W P H0 G0 G D (forD set f (ds.drop i) env), ⟨ds.length, G1, env, .refl _, s.grow gr, rfl, p1⟩, ?_⟩
      rintro i m σ2 H2 ⟨G2, env2, sg, s2, rfl, p2⟩
      by_cases hi : i < ds.length
      · refine .inr ⟨wk.go i G2 H2 sg s2.gh s2.h0 hi, fun σ' H' => ∃ G env, Same G1 G ∧ SR X.gm H0 G0 G H' σ' env ∧ PstS X.gm W P H0 G0 G D (forD set f (ds.drop (i + 1)) env), ?_, ?_⟩
        · rintro σ' H' ⟨G', env', h1, h2, h3⟩
          exact ⟨ds.length - (i + 1), by omega, G', env', h1, h2, rfl, h3⟩
        · intro x H' y
          obtain ⟨G', gr', r⟩ := wk.yld i ds[i] x G2 H2 H' sg s2.gh s2.h0 (List.getElem?_eq_getElem hi) y
          have s3 := s2.grow gr'
          have p3 := PstS.grow gr'.g p2
          rw [List.drop_eq_getElem_cons hi] at p3
          unfold forD at p3
          cases e4 : set ds[i] env2 with
          | none => rw [e4] at p3; exact p3.elim
          | some env3 =>
            rw [e4] at p3
            refine ⟨H0, G0, G', env2, ds[i], env3, s3, r, e4, fun σ' s4 => ⟨H0, G0, G', env3, s4, ?_⟩⟩
            dsimp only at p3
            cases e5 : f env3 with
            | nx env4 =>
              rw [e5] at p3
              exact fun σ5 G5 H5 g5 s5 => ⟨G5, env4, (sg.trans gr'.g).trans g5, s5, PstS.grow g5 p3⟩
            | rt d => rw [e5] at p3; exact p3
            | exc x env4 => rw [e5] at p3; exact p3
            | stuck => rw [e5] at p3; exact p3
      · refine .inl ⟨wk.stop i G2 H2 sg s2.gh s2.h0 (by omega), ?_⟩
        rw [List.drop_eq_nil_of_le (by omega)] at p2
        exact p2 σ2 G2 H2 (.refl _) s2
def whileD (t : TD) (f : SD) : Nat → SD
  | 0 => fun _ => .stuck
  | n + 1 => fun env => outE (t env) env fun b => if b = true then (match f env with
    | .nx e => whileD t f n e
    | o => o) else .nx env
theorem cs_while (n : Nat) {c : Expr} {body : List Stmt} {t : TD} {f : SD} {pos : Pos} (hp : PassesOwn (model X.prog X.w) X.A X.env X.xe) (hc : CT X W c t) (hb : CSs X W P body f) : CS X W P (.While c body [] pos) (whileD t f n) :=
  (ps_while hp hc hb).imp fun D σ H ⟨H0, G0, G, env, s, p⟩ => by
    refine ⟨fun m σ H => ∃ G env, SR X.gm H0 G0 G H σ env ∧ PstS X.gm W P H0 G0 G D (whileD t f m env), ⟨n, G, env, s, p⟩, ?_⟩
    rintro m σ H ⟨G, env, s, p⟩
    cases m with
    | zero => exact p.elim
    | succ m =>
      refine tT_out (D := D) (P := P) s p fun b G1 H1 gr s1 p1 => ?_
      cases b with
      | false => exact p1 σ G1 H1 (.refl _) s1
      | true =>
        refine ⟨fun σ' H' => ∃ G env, SR X.gm H0 G0 G H' σ' env ∧ PstS X.gm W P H0 G0 G D (whileD t f m env), fun σ' H' ⟨G', env', h1, h2⟩ => ⟨m, Nat.lt_succ_self m, G', env', h1, h2⟩, H0, G0, G1, env, s1, ?_⟩
        rw [if_pos rfl] at p1
        cases e5 : f env with
        | nx env4 =>
          rw [e5] at p1
          exact fun σ5 G5 H5 g5 s5 => ⟨G5, env4, s5, PstS.grow g5 p1⟩
        | rt d => rw [e5] at p1; exact p1
        | exc x env4 => rw [e5] at p1; exact p1
        | stuck => rw [e5] at p1; exact p1
end
end Ck

namespace Ck
open PySem PySem.Spec L2 RZ

/-! ### comprehensions -/
@[simp] def Res.opt {α : Type} : Res α → Option α
  | .ok a => some a
  | _ => none
def lcD (set : GD) (t : TD) (f : ED) (env : EnvD) : List D → Option (List D)
  | [] => some []
  | d :: ds => (set d env).bind fun e => (t e).opt.bind fun b => if b = true then (f e).opt.bind fun y => (lcD set t f env ds).map (y :: ·) else lcD set t f env ds
def eLc (it : AD) (vs : List Nat) (set : GD) (t : TD) (f : ED) : ED := fun env => (it env).bind fun ds => ofO (if ds.length ≤ 1000000 then (lcD set t f (wipeD env vs) ds).map .lst else none)
def tTrue : TD := fun _ => .ok true
abbrev W0 : WX := fun _ _ _ _ => False
theorem wipe_get (σ : L2.St) : ∀ (vs : List Nat) (j : Nat), (wipe σ vs)[j]? = if j ∈ vs then (if j < σ.length then some none else none) else σ[j]?
  | [], j => by simp [wipe]
  | v :: vs, j => by
    unfold wipe
    by_cases e : v = j
    · subst e
      rw [List.getElem?_set]
      simp [wipe_length]
    · rw [List.getElem?_set_ne e, wipe_get σ vs j]
      have h : j ∈ v :: vs ↔ j ∈ vs := by
        rw [List.mem_cons]
        exact ⟨fun h => h.resolve_left fun z => e z.symm, .inr⟩
      simp only [h]
/-- only the slots in vs are touched -/
def Touch (vs : List Nat) (σ σ' : L2.St) : Prop := σ'.length = σ.length ∧ ∀ j, j ∉ vs → σ'[j]? = σ[j]?
theorem Touch.wipe {vs : List Nat} {σ σ' : L2.St} (h : Touch vs (wipe σ vs) σ') : L2.wipe σ' vs = L2.wipe σ vs := by
  apply List.ext_getElem?
  intro j
  rw [wipe_get, wipe_get]
  have hl := h.1
  rw [wipe_length] at hl
  by_cases hj : j ∈ vs
  · rw [if_pos hj, if_pos hj, hl]
  · rw [if_neg hj, if_neg hj, h.2 j hj, wipe_get, if_neg hj]
/-- targets of a comprehension -/
def tGT (g : Gm) (vs : List Nat) (set : GD) : TG := fun v σ H Q => ∃ H0 G0 G env d env', SR g H0 G0 G H σ env ∧ R g G v d ∧ set d env = some env' ∧ ∀ σ', SR g H0 G0 G H σ' env' → Touch vs σ σ' → Q σ' H
def tGTs (g : Gm) (vs : List Nat) (set : GsD) : TGs := fun v σ H Q => ∃ H0 G0 G env ds env', SR g H0 G0 G H σ env ∧ Rs g G v ds ∧ set ds env = some env' ∧ ∀ σ', SR g H0 G0 G H σ' env' → Touch vs σ σ' → Q σ' H
theorem Touch.refl {vs : List Nat} (σ : L2.St) : Touch vs σ σ := ⟨rfl, fun _ _ => rfl⟩
theorem Touch.trans {vs : List Nat} {a b c : L2.St} (h : Touch vs a b) (k : Touch vs b c) : Touch vs a c := ⟨k.1.trans h.1, fun j hj => (k.2 j hj).trans (h.2 j hj)⟩
section
variable {X : Cx} {W : WX} {P : PP}
abbrev CGT (X : Cx) (vs : List Nat) (e : Expr) (set : GD) : Prop := PG X e (tGT X.gm vs set)
abbrev CGTs (X : Cx) (vs : List Nat) (e : List Expr) (set : GsD) : Prop := PGs X e (tGTs X.gm vs set)
theorem ct_var (i : Nat) {vs : List Nat} {x : Str} {pos : Pos} (hN : X.N.Nodup) (hv : i ∈ vs := by decide) (hi : X.N[i]? = some x := by rfl) (hx : Loc X.env.scope x := by first | exact .inl rfl | exact .inr rfl) (hf : X.fn x = true ∨ X.env.scope.names.lookup x = some .local := by first | exact .inl rfl | exact .inr rfl) :
    CGT X vs (.Name x pos) (gVar i) := (pg_name hN hi hx hf).imp fun v σ H Q ⟨H0, G0, G, env, d, env', s, r, e, k⟩ => by
  cases e
  exact k _ (s.set_val i r) ⟨List.length_set .., fun j hj => List.getElem?_set_ne (fun z => hj (by rw [← z]; exact hv))⟩
theorem cts_nil {vs : List Nat} : CGTs X vs [] gNilD := pgs_nil.imp fun v σ H Q ⟨H0, G0, G, env, d, env', s, r, e, k⟩ => by
  cases r with
  | nil => cases e; exact ⟨rfl, k _ s (.refl _)⟩
  | cons _ _ => cases e
theorem cts_cons {vs : List Nat} {e : Expr} {es : List Expr} {a : GD} {b : GsD} (h1 : CGT X vs e a) (h2 : CGTs X vs es b) (hs : (assignEach (e :: es) X.env).map (·.2) = assign e X.env :: (assignEach es X.env).map (·.2) := by rfl) : CGTs X vs (e :: es) (gConsD a b) :=
  (pgs_cons h1 h2 hs).imp fun v σ H Q ⟨H0, G0, G, env, d, env', s, r, e, k⟩ => by
    cases r with
    | nil => cases e
    | cons r1 r2 =>
      unfold gConsD at e
      obtain ⟨env1, e1, e2⟩ := Option.bind_eq_some_iff.mp e
      exact ⟨_, _, rfl, H0, G0, G, env, _, env1, s, r1, e1, fun σ' s' t => ⟨H0, G0, G, env1, _, env', s', r2, e2, fun σ2 s2 t2 => k σ2 s2 (t.trans t2)⟩⟩
theorem ct_tup {vs : List Nat} {es : List Expr} {n k : Nat} {b : GsD} {pos : Pos} (h : CGTs X vs es b) (hb : ∀ ds env env', b ds env = some env' → ds.length = n) (hp : PG X (.Tuple es k pos) (gTup X.K n (tGTs X.gm vs b))) :
    CGT X vs (.Tuple es k pos) (gTupD b) := hp.imp fun v σ H Q ⟨H0, G0, G, env, d, env', s, r, e, k⟩ => by
  cases d with
  | tup ds =>
    obtain ⟨a, xs, rfl, h1, h2⟩ := Ck.R.tup_inv r
    exact ⟨a, xs, rfl, sqT_mono s.gh h1, h2.length.trans (hb _ _ _ e), H0, G0, G, env, ds, env', s, h2, e, k⟩
  | ctp ds =>
    obtain ⟨a, xs, rfl, h1, h2⟩ := Ck.R.ctp_inv r
    exact ⟨a, xs, rfl, sqT_mono s.gh h1, h2.length.trans (hb _ _ _ e), H0, G0, G, env, ds, env', s, h2, e, k⟩
  | _ => cases e
theorem Gr.own {G H G1 H1 : Hp} {D : Addr} {o : HO} (r : Gr G H G1 H1) (n : H D = none) (n1 : G1 D = none) : Gr G H G1 (upd H1 D o) := by
  refine ⟨r.g, fun b x e => ?_, fun b x e => ?_, r.sep⟩
  · rw [upd_ne (ne_of_none e n)]; exact r.h b x e
  · rw [upd_ne (ne_of_none e n1)]; exact r.gh b x e
theorem SR.wipes {g : Gm} {H0 G0 G H : Hp} {σ : L2.St} {env : EnvD} (s : SR g H0 G0 G H σ env) (vs : List Nat) : SR g H0 G0 G H (L2.wipe σ vs) (wipeD env vs) := s.wipe vs
theorem lc_read {it : AD} {vs : List Nat} {set : GD} {t : TD} {f : ED} (σ : L2.St) (H : Hp) (Q : VK) (h : tE X.gm W (PN X.gm) (eLc it vs set t f) σ H Q) :
    tLc (tI X.gm W true it) (tGT X.gm vs set) (tT X.gm W0 t) (tE X.gm W0 (PR X.gm) f) vs σ H Q := by
  obtain ⟨H0, G0, G, env, s, p⟩ := h
  refine ⟨H0, G0, G, env, s, ?_⟩
  unfold eLc at p
  cases e : it env with
  | exc x => rw [e] at p; exact p
  | stuck => rw [e] at p; exact p
  | ok ds =>
    rw [e] at p
    have p : Pst X.gm W σ (PN X.gm) G H Q (ofO (if ds.length ≤ 1000000 then (lcD set t f (wipeD env vs) ds).map .lst else none)) := p
    intro J G1 H1 gr wk D nD
    by_cases hsz : ds.length ≤ 1000000
    case neg => rw [if_neg hsz] at p; exact p.elim
    rw [if_pos hsz] at p
    cases e2 : lcD set t f (wipeD env vs) ds with
    | none => rw [e2] at p; exact p.elim
    | some tot =>
      rw [e2] at p
      have p : ∀ v G' H', Gr G H G' H' → PN X.gm H G' H' v (.lst tot) → Q v H' := p
      have nH : H D = none := gr.h.free nD
      have s1 := s.grow gr
      rw [if_pos rfl] at wk
      have hln : 1000000 < sizeLine := by decide
      refine ⟨fun i m H2 => m = ds.length - i ∧ i ≤ ds.length ∧ ∃ G2 acc out rest, Gr G1 H1 G2 H2 ∧ G2 D = none ∧ H2 D = some (.lst acc) ∧ Rs X.gm G2 acc out ∧ acc.length ≤ i ∧ lcD set t f (wipeD env vs) (ds.drop i) = some rest ∧ out ++ rest = tot,
        ⟨ds.length, rfl, Nat.zero_le _, G1, [], [], tot, Gr.fresh s1.gh nD, s1.gh.free nD, upd_same, .nil, Nat.le_refl _, e2, rfl⟩, ?_⟩
      rintro i m H2 ⟨rfl, hle, G2, acc, out, rest, g2, nG, hD, ra, hacc, er, etot⟩
      by_cases hi : i < ds.length
      · refine .inr ⟨wk.go i G2 H2 g2.g g2.gh g2.h hi, fun H' => ∃ G2 acc out rest, Gr G1 H1 G2 H' ∧ G2 D = none ∧ H' D = some (.lst acc) ∧ Rs X.gm G2 acc out ∧ acc.length ≤ i + 1 ∧ lcD set t f (wipeD env vs) (ds.drop (i + 1)) = some rest ∧ out ++ rest = tot, ?_, ?_⟩
        · intro H' hN
          exact ⟨ds.length - (i + 1), by omega, rfl, hi, hN⟩
        · intro x H' y
          obtain ⟨G3, g3, r3⟩ := wk.yld i ds[i] x G2 H2 H' g2.g g2.gh g2.h (List.getElem?_eq_getElem hi) y
          have g13 := g2.trans g3
          have n3 : G3 D = none := g3.sep D _ nG hD
          have h3 : H' D = some (.lst acc) := g3.h D _ hD
          rw [List.drop_eq_getElem_cons hi] at er
          unfold lcD at er
          obtain ⟨env2, es, er⟩ := Option.bind_eq_some_iff.mp er
          obtain ⟨b, eb, er⟩ := Option.bind_eq_some_iff.mp er
          have sw := (s1.grow g13).wipes vs
          refine ⟨H0, G0, G3, wipeD env vs, ds[i], env2, sw, r3, es, fun σ2 s2 tc => ⟨tc.wipe, H0, G0, G3, env2, s2, ?_⟩⟩
          cases e4 : t env2 with
          | exc x => rw [e4] at eb; cases eb
          | stuck => rw [e4] at eb; cases eb
          | ok b' =>
            rw [e4] at eb
            have eb : b' = b := Option.some.inj eb
            subst eb
            intro G4 H4 g4
            have s4 := s2.grow g4
            have g14 := g13.trans g4
            have n4 : G4 D = none := g4.sep D _ n3 h3
            have h4 : H4 D = some (.lst acc) := g4.h D _ h3
            cases b' with
            | false => exact ⟨G4, acc, out, rest, g14, n4, h4, (ra.mono g3.g).mono g4.g, by omega, er, etot⟩
            | true =>
              rw [if_pos rfl] at er ⊢
              obtain ⟨y', ey, er⟩ := Option.bind_eq_some_iff.mp er
              refine ⟨H0, G0, G4, env2, s4, ?_⟩
              cases e5 : f env2 with
              | exc x => rw [e5] at ey; cases ey
              | stuck => rw [e5] at ey; cases ey
              | ok d5 =>
                rw [e5] at ey
                have ey : d5 = y' := Option.some.inj ey
                subst ey
                intro v5 G5 H5 g5 r5
                have h5 : H5 D = some (.lst acc) := g5.h D _ h4
                have n5 : G5 D = none := g5.sep D _ n4 h4
                cases e6 : lcD set t f (wipeD env vs) (ds.drop (i + 1)) with
                | none => rw [e6] at er; cases er
                | some rest' =>
                  rw [e6] at er
                  cases er
                  refine ⟨acc, h5, by omega, G5, acc ++ [v5], out ++ [d5], rest', (g14.trans g5).own nD n5, n5, upd_same, (((ra.mono g3.g).mono g4.g).mono g5.g).append (.cons r5 .nil), by simp; omega, rfl, ?_⟩
                  rw [List.append_assoc]; exact etot
      · refine .inl ⟨wk.stop i G2 H2 g2.g g2.gh g2.h (by omega), ?_⟩
        rw [List.drop_eq_nil_of_le (by omega)] at er
        unfold lcD at er
        cases er
        rw [List.append_nil] at etot
        subst etot
        exact p _ G2 H2 (gr.trans g2) (.inr ⟨D, rfl, nH, nG, .lst hD ra⟩)
theorem pts_true : PTs X [] (tT X.gm W0 tTrue) := ⟨fun pins s σ H Q I ⟨H0, G0, G, env, sr, p⟩ => pts_nil.run pins s σ H Q I (p G H (.refl sr.gh))⟩
theorem cn_lc {elt tg iter : Expr} {ifs : List Expr} {scope : Scope} (own : List (Str × Nat)) {pos : Pos} {it : AD} {set : GD} {t : TD} {f : ED} (hN : X.N.Nodup) (hi : CI X W true tg iter it) (ok : BlkOk X.N X.env.scope scope own)
    (hg : ∀ (s : Shared) (H : Hp) (C : Addr) (cl : List (Str × Addr)) (fp : List Addr), CGT (X.blk s H scope (compEnvC scope cl C X.env) fp) (own.map (·.2)) tg set)
    (ht : ∀ (s : Shared) (H : Hp) (C : Addr) (cl : List (Str × Addr)) (fp : List Addr), PTs (X.blk s H scope (compEnvC scope cl C X.env) fp) ifs (tT X.gm W0 t))
    (he : ∀ (s : Shared) (H : Hp) (C : Addr) (cl : List (Str × Addr)) (fp : List Addr), CE (X.blk s H scope (compEnvC scope cl C X.env) fp) W0 elt f) (hc : X.calm = true := by rfl) (hs : ∀ x, foldedSetIterable iter X.env x = pure x := by intro _; rfl) :
    CN X W (.ListComp elt [⟨tg, iter, ifs, 0⟩] scope pos) (eLc it (own.map (·.2)) set t f) := (pe_lc hc hN hi ok hg ht he hs).imp fun σ H Q h => lc_read σ H Q h
theorem cs_newLc (i : Nat) {y : Str} {py : Pos} {elt tg iter : Expr} {ifs : List Expr} {scope : Scope} (own : List (Str × Nat)) {pos spos : Pos} {it : AD} {set : GD} {t : TD} {f : ED} (hN : X.N.Nodup) (hi : CI X W true tg iter it) (ok : BlkOk X.N X.env.scope scope own)
    (hg : ∀ (s : Shared) (H : Hp) (C : Addr) (cl : List (Str × Addr)) (fp : List Addr), CGT (X.blk s H scope (compEnvC scope cl C X.env) fp) (own.map (·.2)) tg set)
    (ht : ∀ (s : Shared) (H : Hp) (C : Addr) (cl : List (Str × Addr)) (fp : List Addr), PTs (X.blk s H scope (compEnvC scope cl C X.env) fp) ifs (tT X.gm W0 t))
    (he : ∀ (s : Shared) (H : Hp) (C : Addr) (cl : List (Str × Addr)) (fp : List Addr), CE (X.blk s H scope (compEnvC scope cl C X.env) fp) W0 elt f) (hsw : swapsWith (.ListComp elt [⟨tg, iter, ifs, 0⟩] scope pos) (some (.Name y py)) spos.line X.env = pure true)
    (hy : X.N[i]? = some y := by rfl) (hyl : X.env.scope.names.lookup y = some .local := by rfl) (hc : X.calm = true := by rfl) (hs : ∀ x, foldedSetIterable iter X.env x = pure x := by intro _; rfl) :
    CS X W P (.Assign [.Name y py] (.ListComp elt [⟨tg, iter, ifs, 0⟩] scope pos) spos) (sNew i (eLc it (own.map (·.2)) set t f)) := (ps_setLc hc hN hy hyl hsw hi ok hg ht he hs).imp fun D σ H ⟨H0, G0, G, env, s, p⟩ =>
  lc_read σ H _ (tE_out s p fun d v G1 H1 gr s1 q p1 => p1 _ G1 H1 (.refl _) (s.set_new gr i q))
theorem pts_test {c : Expr} {t : TD} (h : CT X W0 c t) : PTs X [c] (tT X.gm W0 t) := pts_one h
end

/-! ### defs -/
/-- a def's promise: as the function F on data says; true: the argument is viewed -/
def spD (g : Gm) (ms : List Bool) (P : PP) (F : List D → Res D) : Sp := fun vs H Q E => ∃ G ds, Same G H ∧ AR g H G ms vs ds ∧ match F ds with
  | .ok d => ∀ v G' H', Gr G H G' H' → P H G' H' v d → Q v H'
  | .exc x => ∀ c d G' H', Gr G H G' H' → XR g H' c d x → E c d H'
  | .stuck => False
@[simp] def envOf : List Bool → List D → Nat → EnvD
  | m :: ms, d :: ds, n + 1 => (if m = true then .bor d else .val d) :: envOf ms ds n
  | _, _, n => List.replicate n .un
def runD (F : SD) (ms : List Bool) (n : Nat) : List D → Res D := fun ds => match F (envOf ms ds n) with
  | .nx _ => .ok .non
  | .rt d => .ok d
  | .exc x _ => .exc x
  | .stuck => .stuck
theorem envOf_len : ∀ (ms : List Bool) (ds : List D) (n : Nat), (envOf ms ds n).length = n
  | [], [], n => by simp [envOf]
  | [], _ :: _, n => by simp [envOf]
  | _ :: _, [], n => by simp [envOf]
  | _ :: _, _ :: _, 0 => by simp [envOf]
  | _ :: ms, _ :: ds, n + 1 => by simp [envOf, envOf_len ms ds n]
theorem un_slot {g : Gm} {H0 G H : Hp} {n i : Nat} {o : Option (Option V)} {s : Slot} (h : (List.replicate n Slot.un)[i]? = some s) : SlotR g H0 G H o s := by
  have e := (List.getElem?_eq_some_iff.mp h).2
  rw [List.getElem_replicate] at e
  subst e
  trivial
theorem envOf_slot {g : Gm} {G H : Hp} : ∀ {ms : List Bool} {vs : List V} {ds : List D} {n : Nat}, AR g H G ms vs ds → ∀ (i : Nat) (s : Slot) (rest : L2.St), (envOf ms ds n)[i]? = some s → SlotR g H G H ((vs.map some ++ rest)[i]?) s
  | _, _, _, n, .nil, i, s, rest, e => un_slot e
  | _, _, _, 0, .view h t, i, s, rest, e => by unfold envOf at e; exact un_slot e
  | _, _, _, 0, .good h t, i, s, rest, e => by unfold envOf at e; exact un_slot e
  | _, _, _, n + 1, .view h t, 0, s, rest, e => by
    unfold envOf at e
    have e : Slot.bor _ = s := Option.some.inj e
    subst e
    exact ⟨_, rfl, h⟩
  | _, _, _, n + 1, .good h t, 0, s, rest, e => by
    unfold envOf at e
    have e : Slot.val _ = s := Option.some.inj e
    subst e
    exact ⟨_, rfl, h⟩
  | _, _, _, n + 1, .view h t, i + 1, s, rest, e => by
    unfold envOf at e
    exact envOf_slot t i s rest e
  | _, _, _, n + 1, .good h t, i + 1, s, rest, e => by
    unfold envOf at e
    exact envOf_slot t i s rest e
theorem envOf_own : ∀ {ms : List Bool} {ds : List D} {n i : Nat} {d : D}, (envOf ms ds n)[i]? ≠ some (.own d)
  | [], [], n, i, d => fun e => by unfold envOf at e; have := (List.getElem?_eq_some_iff.mp e).2; rw [List.getElem_replicate] at this; cases this
  | [], _ :: _, n, i, d => fun e => by unfold envOf at e; have := (List.getElem?_eq_some_iff.mp e).2; rw [List.getElem_replicate] at this; cases this
  | _ :: _, [], n, i, d => fun e => by unfold envOf at e; have := (List.getElem?_eq_some_iff.mp e).2; rw [List.getElem_replicate] at this; cases this
  | _ :: _, _ :: _, 0, i, d => fun e => by unfold envOf at e; have := (List.getElem?_eq_some_iff.mp e).2; rw [List.getElem_replicate] at this; cases this
  | m :: ms, _ :: ds, n + 1, 0, d => fun e => by
    unfold envOf at e
    have e : (if m = true then Slot.bor _ else Slot.val _) = Slot.own d := Option.some.inj e
    cases m <;> cases e
  | m :: ms, _ :: ds, n + 1, i + 1, d => fun e => by
    unfold envOf at e
    exact envOf_own (ms := ms) (ds := ds) (n := n) (i := i) e
section
variable {Pg : Program} {w : World} {K : PySem.W.Frag} {mg : Str → Option Value} {base : Heap}
abbrev WE0 (E : XK) : WX := fun cls d _ H => E cls d H
abbrev cxD (Pg : Program) (w : World) (K : PySem.W.Frag) (mg : Str → Option Value) (base : Heap) (N : List Str) (qual : Str) (scope : Scope) (f : Addr) (cdv : Value) (A : Around) (outer : List Env) (s : Shared) (H : Hp) (E : XK) : Cx :=
  cxOf (L2N.CX Pg w) Pg w K mg base N qual scope f cdv A outer s H E
theorem fun_ok {x qual : Str} {st : Stmt} {f : Addr} {fd : FuncData} {N ps : List Str} {k : Nat} (ms : List Bool) (P : PP) (hP : ∀ H G H', P H G H' .non .non) {B : SD} (F : Fun K x qual st f fd) (S : FnScope N ps (defScope st)) (hm : ms.length = ps.length)
    (hn : ps.length ≤ N.length)
    (hbody : ∀ (cdv : Value) (A : Around) (outer : List Env) (s : Shared) (H : Hp) (E : XK), Room k (A.deeper (PyProof.Rows.envOfC qual (defScope st) s.heap.objs.size f cdv)) →
      CSs (cxD Pg w K mg base N qual (defScope st) f cdv A outer s H E) (WE0 E) P (defBody st) B) : FnOk Pg w K mg base (L2N.CX Pg w) (k + 1) f fd ps (spD ⟨K, mg⟩ ms P (runD B ms N.length)) := by
  obtain ⟨oc, od, kV, doc, pm, an, cdv, ct, osl, rfl, lk, hcd⟩ := F.ex
  refine fn_of lk hcd S (fun vs H Q E h => ?_) fun A outer s H vs Q E hr hsp => ?_
  · obtain ⟨G, ds, _, r, _⟩ := h
    exact r.length.1.trans hm
  · obtain ⟨G, ds, sg, r, p⟩ := hsp
    refine ⟨_, hbody cdv A outer s H E hr, H, G, G, envOf ms ds N.length, ?_, ?_⟩
    · have hl := r.length
      refine ⟨sg, .refl _, .refl _, fun a o e _ => e, ?_, fun i sl e => envOf_slot r i sl _ e, fun i j d e a h1 _ _ _ => absurd h1 envOf_own⟩
      rw [envOf_len]
      unfold L2.start
      rw [List.length_append, List.length_map, List.length_replicate, hl.1, hm]
      omega
    · unfold runD at p
      cases e : B (envOf ms ds N.length) with
      | nx env => rw [e] at p; exact fun σ' G' H' sg s' => p .non G' H' s'.gr0 (hP _ _ _)
      | rt d => rw [e] at p; exact fun v G' H' gr q => p v G' H' gr q
      | exc x env => rw [e] at p; exact fun σ c d G' H' _ s' q => p c d G' H' s'.gr0 q
      | stuck => rw [e] at p; exact p.elim
end
section
variable {X : Cx} {W : WX}
def eCall (F : List D → Res D) (h : AD) : ED := fun env => (h env).bind F
theorem call_read {P : PP} (hP : ∀ H H1 G' H' v d, Same H H1 → P H1 G' H' v d → P H G' H' v d) {F : List D → Res D} {ms : List Bool} {h : AD} (σ : L2.St) (H : Hp) (Q : VK) (q : tE X.gm W P (eCall F h) σ H Q) :
    tCallS (spD X.gm ms P F) (L2.WE W) (tA X.gm W ms h) σ H Q := by
  obtain ⟨H0, G0, G, env, s, p⟩ := q
  refine ⟨H0, G0, G, env, s, ?_⟩
  unfold eCall at p
  cases e : h env with
  | exc x => rw [e] at p; exact p
  | stuck => rw [e] at p; exact p
  | ok ds =>
    rw [e] at p
    have p : Pst X.gm W σ P G H Q (F ds) := p
    intro vs G1 H1 gr r
    refine ⟨G1, ds, (s.grow gr).gh, r, ?_⟩
    cases e2 : F ds with
    | ok d => rw [e2] at p; exact fun v G' H' g2 q => p v G' H' (gr.trans g2) (hP _ _ _ _ _ _ gr.h q)
    | exc x => rw [e2] at p; exact fun c d G' H' g2 q => p c d G' H' (gr.trans g2) q
    | stuck => rw [e2] at p; exact p
variable {k : Nat} {f : Addr} {fd : FuncData} {ps : List Str} {x : Str} {p pos : Pos} {e : Expr} {es : List Expr} {ms : List Bool} {h : AD} {F : List D → Res D}
theorem ce_call (tk : L2N.Takes X W) (FO : FnOk X.prog X.w X.K X.mg X.base (L2N.CX X.prog X.w) k f fd ps (spD X.gm ms (PR X.gm) F)) (hr : Room k X.A) (hm : X.mg x = some (.ref f)) (hk : PySem.W.keepIn X.K (.ref f) = true) (hb : Binds X.K fd ps []) (ha : CA X W (e :: es) ms h)
    (hg : Gl X x := by rfl) (hdb : (x == ("__debug__" : Str)) = false := by decide) (he : starEach (e :: es) X.env = (false, eval e X.env) :: starEach es X.env := by rfl) (hpl : (backTo pos (starEach es X.env)).any (·.1) = false := by rfl) :
    CE X W (.Call (.Name x p) (e :: es) [] pos) (eCall F h) :=
  (pe_callS FO hr hg hm hk hb (fun σ => L2N.passAt tk σ) ha hdb he hpl).imp fun σ H Q q => call_read PR.mono σ H Q q
theorem cn_call (tk : L2N.Takes X W) (FO : FnOk X.prog X.w X.K X.mg X.base (L2N.CX X.prog X.w) k f fd ps (spD X.gm ms (PN X.gm) F)) (hr : Room k X.A) (hm : X.mg x = some (.ref f)) (hk : PySem.W.keepIn X.K (.ref f) = true) (hb : Binds X.K fd ps []) (ha : CA X W (e :: es) ms h)
    (hg : Gl X x := by rfl) (hdb : (x == ("__debug__" : Str)) = false := by decide) (he : starEach (e :: es) X.env = (false, eval e X.env) :: starEach es X.env := by rfl) (hpl : (backTo pos (starEach es X.env)).any (·.1) = false := by rfl) :
    CN X W (.Call (.Name x p) (e :: es) [] pos) (eCall F h) :=
  (pe_callS FO hr hg hm hk hb (fun σ => L2N.passAt tk σ) ha hdb he hpl).imp fun σ H Q q => call_read PN.mono σ H Q q
/-- in a comprehension's block (nothing may leave it) -/
theorem tk0 {X : Cx} : L2N.Takes X W0 := fun _ _ x => by
  obtain ⟨_, _, _, _, _, _, _, _, _, _, _, _, _, _, _, _, z⟩ := x
  exact z.elim
end
end Ck

namespace Ck
open PySem PySem.Spec L2 RZ

/-! ### equality of data is decided -/
mutual
def D.dec : (a b : D) → Decidable (a = b)
  | .non, .non => .isTrue rfl
  | .bl a, .bl b => if h : a = b then .isTrue (by rw [h]) else .isFalse fun e => h (D.bl.inj e)
  | .int a, .int b => if h : a = b then .isTrue (by rw [h]) else .isFalse fun e => h (D.int.inj e)
  | .str a, .str b => if h : a = b then .isTrue (by rw [h]) else .isFalse fun e => h (D.str.inj e)
  | .tup a, .tup b => match D.decs a b with
    | .isTrue h => .isTrue (by rw [h])
    | .isFalse h => .isFalse fun e => h (D.tup.inj e)
  | .ctp a, .ctp b => match D.decs a b with
    | .isTrue h => .isTrue (by rw [h])
    | .isFalse h => .isFalse fun e => h (D.ctp.inj e)
  | .lst a, .lst b => match D.decs a b with
    | .isTrue h => .isTrue (by rw [h])
    | .isFalse h => .isFalse fun e => h (D.lst.inj e)
  | .dct t a, .dct u b => if h1 : t = u then (match D.deck a b with
    | .isTrue h => .isTrue (by rw [h, h1])
    | .isFalse h => .isFalse fun e => h (D.dct.inj e).2) else .isFalse fun e => h1 (D.dct.inj e).1
  | .obj c a, .obj d b => if h1 : c = d then (match D.decf a b with
    | .isTrue h => .isTrue (by rw [h, h1])
    | .isFalse h => .isFalse fun e => h (D.obj.inj e).2) else .isFalse fun e => h1 (D.obj.inj e).1
  | .non, .bl _ | .non, .int _ | .non, .str _ | .non, .tup _ | .non, .ctp _ | .non, .lst _ | .non, .dct _ _ | .non, .obj _ _ => .isFalse (fun e => nomatch e)
  | .bl _, .non | .bl _, .int _ | .bl _, .str _ | .bl _, .tup _ | .bl _, .ctp _ | .bl _, .lst _ | .bl _, .dct _ _ | .bl _, .obj _ _ => .isFalse (fun e => nomatch e)
  | .int _, .non | .int _, .bl _ | .int _, .str _ | .int _, .tup _ | .int _, .ctp _ | .int _, .lst _ | .int _, .dct _ _ | .int _, .obj _ _ => .isFalse (fun e => nomatch e)
  | .str _, .non | .str _, .bl _ | .str _, .int _ | .str _, .tup _ | .str _, .ctp _ | .str _, .lst _ | .str _, .dct _ _ | .str _, .obj _ _ => .isFalse (fun e => nomatch e)
  | .tup _, .non | .tup _, .bl _ | .tup _, .int _ | .tup _, .str _ | .tup _, .ctp _ | .tup _, .lst _ | .tup _, .dct _ _ | .tup _, .obj _ _ => .isFalse (fun e => nomatch e)
  | .ctp _, .non | .ctp _, .bl _ | .ctp _, .int _ | .ctp _, .str _ | .ctp _, .tup _ | .ctp _, .lst _ | .ctp _, .dct _ _ | .ctp _, .obj _ _ => .isFalse (fun e => nomatch e)
  | .lst _, .non | .lst _, .bl _ | .lst _, .int _ | .lst _, .str _ | .lst _, .tup _ | .lst _, .ctp _ | .lst _, .dct _ _ | .lst _, .obj _ _ => .isFalse (fun e => nomatch e)
  | .dct _ _, .non | .dct _ _, .bl _ | .dct _ _, .int _ | .dct _ _, .str _ | .dct _ _, .tup _ | .dct _ _, .ctp _ | .dct _ _, .lst _ | .dct _ _, .obj _ _ => .isFalse (fun e => nomatch e)
  | .obj _ _, .non | .obj _ _, .bl _ | .obj _ _, .int _ | .obj _ _, .str _ | .obj _ _, .tup _ | .obj _ _, .ctp _ | .obj _ _, .lst _ | .obj _ _, .dct _ _ => .isFalse (fun e => nomatch e)
def D.decs : (a b : List D) → Decidable (a = b)
  | [], [] => .isTrue rfl
  | x :: xs, y :: ys => match D.dec x y with
    | .isTrue h => (match D.decs xs ys with
      | .isTrue h' => .isTrue (by rw [h, h'])
      | .isFalse h' => .isFalse fun e => h' (List.cons.inj e).2)
    | .isFalse h => .isFalse fun e => h (List.cons.inj e).1
  | [], _ :: _ => .isFalse (fun e => nomatch e)
  | _ :: _, [] => .isFalse (fun e => nomatch e)
def D.deck : (a b : List (D × D)) → Decidable (a = b)
  | [], [] => .isTrue rfl
  | (x, u) :: xs, (y, v) :: ys => match D.dec x y with
    | .isTrue h => (match D.dec u v with
      | .isTrue h1 => (match D.deck xs ys with
        | .isTrue h' => .isTrue (by rw [h, h1, h'])
        | .isFalse h' => .isFalse fun e => h' (List.cons.inj e).2)
      | .isFalse h1 => .isFalse fun e => h1 (Prod.mk.inj (List.cons.inj e).1).2)
    | .isFalse h => .isFalse fun e => h (Prod.mk.inj (List.cons.inj e).1).1
  | [], _ :: _ => .isFalse (fun e => nomatch e)
  | _ :: _, [] => .isFalse (fun e => nomatch e)
def D.decf : (a b : List (Str × D)) → Decidable (a = b)
  | [], [] => .isTrue rfl
  | (x, u) :: xs, (y, v) :: ys => if h : x = y then (match D.dec u v with
      | .isTrue h1 => (match D.decf xs ys with
        | .isTrue h' => .isTrue (by rw [h, h1, h'])
        | .isFalse h' => .isFalse fun e => h' (List.cons.inj e).2)
      | .isFalse h1 => .isFalse fun e => h1 (Prod.mk.inj (List.cons.inj e).1).2) else .isFalse fun e => h (Prod.mk.inj (List.cons.inj e).1).1
  | [], _ :: _ => .isFalse (fun e => nomatch e)
  | _ :: _, [] => .isFalse (fun e => nomatch e)
end
instance : DecidableEq D := D.dec

/-! ### data as the model's plain data -/
mutual
def py : D → PyData
  | .non => .none
  | .bl b => .bool b
  | .int i => .int i
  | .str s => .str s
  | .tup l => .tuple (pys l)
  | .ctp _ => .dict []
  | .lst l => .list (pys l)
  | .dct _ _ => .dict []
  | .obj _ _ => .dict []
def pys : List D → List PyData
  | [] => []
  | d :: ds => py d :: pys ds
end
/-! no dict, no object; every sign a code point; nested at most n times -/
mutual
def okN : Nat → D → Bool
  | _, .non => true
  | _, .bl _ => true
  | _, .int _ => true
  | _, .str s => PyData.strOk s
  | n + 1, .tup l => okNs n l
  | n + 1, .lst l => okNs n l
  | _, _ => false
def okNs : Nat → List D → Bool
  | _, [] => true
  | n, d :: ds => okN n d && okNs n ds
end
/-! no bool (b: no int) within -/
mutual
def noB (b : Bool) : D → Bool
  | .bl _ => b
  | .int _ => !b
  | .tup l => noBs b l
  | .lst l => noBs b l
  | _ => true
def noBs (b : Bool) : List D → Bool
  | [] => true
  | d :: ds => noB b d && noBs b ds
end
def eqOk (a b : D) : Bool := okN 60 a && okN 60 b && (noB false a && noB false b || noB true a && noB true b)
def scalD : D → D → Bool
  | .non, .non => true | .non, .int _ => true | .int _, .non => true | .non, .bl _ => true | .bl _, .non => true | .non, .str _ => true | .str _, .non => true
  | .int _, .int _ => true | .bl _, .bl _ => true | .str _, .str _ => true
  | .int _, .str _ => true | .str _, .int _ => true | .bl _, .str _ => true | .str _, .bl _ => true
  | _, _ => false
/-- two dicts of the same size, texts and numbers, each pair of the one in the other -/
def flatD : D → Bool
  | .int _ => true
  | .str _ => true
  | _ => false
def lookD (kvs : List (D × D)) (k : D) : Option D := (kvs.find? fun p => decide (p.1 = k)).map (·.2)
def eqDD : D → D → Option Bool
  | .dct _ a, .dct _ b => if a.length = b.length ∧ (∀ p ∈ a, lookD b p.1 = some p.2 ∧ flatD p.2 = true) then some true else none
  | _, _ => none
def untop : D → D
  | .ctp l => .tup l
  | d => d
def eqD0 (a b : D) : Option Bool := if scalD a b = true then some (decide (a = b)) else if eqOk a b = true then some (decide (a = b)) else none
def eqD (a b : D) : Option Bool := eqD0 (untop a) (untop b)
def neD (a b : D) : Option Bool := (eqD a b).map (! ·)
mutual
theorem py_dp {K : PySem.W.Frag} {mg : Str → Option Value} {G H : Hp} (e : Same G H) : ∀ (d : D) (n : Nat) (v : V), okN n d = true → R ⟨K, mg⟩ G v d → Dp K H v (py d)
  | .non, _, _, _, r => by cases r; exact .non
  | .bl b, _, _, _, r => by cases r; exact .bl b
  | .int i, _, _, _, r => by cases r; exact .int i
  | .str s, _, _, _, r => by cases r; exact .str s
  | .tup l, n, _, h, r => by
    cases n with
    | zero => unfold okN at h; cases h
    | succ n => cases r with
      | tup h1 h2 => exact .tup (.of (e _ _ h1)) (py_dps e l n _ (by unfold okN at h; exact h) h2)
  | .lst l, n, _, h, r => by
    cases n with
    | zero => unfold okN at h; cases h
    | succ n => cases r with
      | lst h1 h2 => exact .lst (.inl (rd_mono e h1)) (py_dps e l n _ (by unfold okN at h; exact h) h2)
  | .ctp _, n, _, h, _ => by cases n <;> (unfold okN at h; cases h)
  | .dct _ _, n, _, h, _ => by cases n <;> (unfold okN at h; cases h)
  | .obj _ _, n, _, h, _ => by cases n <;> (unfold okN at h; cases h)
theorem py_dps {K : PySem.W.Frag} {mg : Str → Option Value} {G H : Hp} (e : Same G H) : ∀ (l : List D) (n : Nat) (vs : List V), okNs n l = true → Rs ⟨K, mg⟩ G vs l → DpAll K H vs (pys l)
  | [], _, _, _, r => by cases r; exact .nil
  | d :: ds, n, _, h, r => by
    cases r with
    | cons r1 r2 =>
      unfold okNs at h
      rw [Bool.and_eq_true] at h
      exact .cons (py_dp e d n _ h.1 r1) (py_dps e ds n _ h.2 r2)
end
mutual
theorem py_ok : ∀ (d : D) (n : Nat), okN n d = true → (py d).canLay0 = true ∧ (py d).depth ≤ n
  | .non, _, _ => ⟨rfl, Nat.zero_le _⟩
  | .bl b, _, _ => ⟨rfl, Nat.zero_le _⟩
  | .int i, _, _ => ⟨rfl, Nat.zero_le _⟩
  | .str s, n, h => by
    have h' : PyData.strOk s = true := by cases n <;> (unfold okN at h; exact h)
    exact ⟨by unfold py PyData.canLay0; exact h', by unfold py PyData.depth; exact Nat.zero_le _⟩
  | .tup l, n, h => by
    cases n with
    | zero => unfold okN at h; cases h
    | succ n =>
      obtain ⟨a, b⟩ := pys_ok l n (by unfold okN at h; exact h)
      exact ⟨by unfold py PyData.canLay0; exact a, by unfold py PyData.depth; omega⟩
  | .lst l, n, h => by
    cases n with
    | zero => unfold okN at h; cases h
    | succ n =>
      obtain ⟨a, b⟩ := pys_ok l n (by unfold okN at h; exact h)
      exact ⟨by unfold py PyData.canLay0; exact a, by unfold py PyData.depth; omega⟩
  | .ctp _, n, h => by cases n <;> (unfold okN at h; cases h)
  | .dct _ _, n, h => by cases n <;> (unfold okN at h; cases h)
  | .obj _ _, n, h => by cases n <;> (unfold okN at h; cases h)
theorem pys_ok : ∀ (l : List D) (n : Nat), okNs n l = true → PyData.canLayAll0 (pys l) = true ∧ PyData.depthAll (pys l) ≤ n
  | [], _, _ => ⟨rfl, Nat.zero_le _⟩
  | d :: ds, n, h => by
    unfold okNs at h
    rw [Bool.and_eq_true] at h
    obtain ⟨a, b⟩ := py_ok d n h.1
    obtain ⟨a', b'⟩ := pys_ok ds n h.2
    exact ⟨by unfold pys PyData.canLayAll0; rw [a, a']; rfl, by unfold pys PyData.depthAll; omega⟩
end
theorem py_shaped {d : D} (h : okN 60 d = true) : SeqAt.shaped (py d) = true := by
  obtain ⟨a, b⟩ := py_ok d 60 h
  unfold SeqAt.shaped
  rw [a, Bool.true_and]
  exact decide_eq_true (by omega)
theorem dec_and {a b c d : Prop} [Decidable a] [Decidable b] [Decidable c] (h : c ↔ a ∧ b) : (decide a && decide b) = decide c := by
  by_cases ha : a <;> by_cases hb : b <;> simp [ha, hb, h]
mutual
theorem eqv_eq : ∀ (a b : D) (n m : Nat) (k : Bool), okN n a = true → okN m b = true → noB k a = true → noB k b = true → PyData.eqv (py a) (py b) = decide (a = b)
  | .non, b, n, m, k, h1, h2, h3, h4 => by
    cases b with
    | non => unfold py PyData.eqv; simp
    | ctp _ => cases m <;> (unfold okN at h2; cases h2)
    | dct _ _ => cases m <;> (unfold okN at h2; cases h2)
    | obj _ _ => cases m <;> (unfold okN at h2; cases h2)
    | _ => unfold py PyData.eqv; simp
  | .bl x, b, n, m, k, h1, h2, h3, h4 => by
    have hk : k = true := h3
    subst hk
    cases b with
    | bl y => unfold py PyData.eqv; rw [Bool.eq_iff_iff]; simp
    | int i => cases h4
    | ctp _ => cases m <;> (unfold okN at h2; cases h2)
    | dct _ _ => cases m <;> (unfold okN at h2; cases h2)
    | obj _ _ => cases m <;> (unfold okN at h2; cases h2)
    | _ => unfold py PyData.eqv; simp
  | .int x, b, n, m, k, h1, h2, h3, h4 => by
    have hk : k = false := by
      have h3 : (!k) = true := h3
      simpa using h3
    subst hk
    cases b with
    | int y => unfold py PyData.eqv; rw [Bool.eq_iff_iff]; simp
    | bl i => cases h4
    | ctp _ => cases m <;> (unfold okN at h2; cases h2)
    | dct _ _ => cases m <;> (unfold okN at h2; cases h2)
    | obj _ _ => cases m <;> (unfold okN at h2; cases h2)
    | _ => unfold py PyData.eqv; simp
  | .str x, b, n, m, k, h1, h2, h3, h4 => by
    cases b with
    | str y => unfold py PyData.eqv; rw [Bool.eq_iff_iff]; simp
    | ctp _ => cases m <;> (unfold okN at h2; cases h2)
    | dct _ _ => cases m <;> (unfold okN at h2; cases h2)
    | obj _ _ => cases m <;> (unfold okN at h2; cases h2)
    | _ => unfold py PyData.eqv; simp
  | .tup x, b, n, m, k, h1, h2, h3, h4 => by
    cases b with
    | tup y =>
      cases n with
      | zero => unfold okN at h1; cases h1
      | succ n => cases m with
        | zero => unfold okN at h2; cases h2
        | succ m =>
          unfold okN at h1 h2
          unfold noB at h3 h4
          unfold py PyData.eqv
          rw [eqvs_eq x y n m k h1 h2 h3 h4]
          simp
    | ctp _ => cases m <;> (unfold okN at h2; cases h2)
    | dct _ _ => cases m <;> (unfold okN at h2; cases h2)
    | obj _ _ => cases m <;> (unfold okN at h2; cases h2)
    | _ => unfold py PyData.eqv; simp
  | .lst x, b, n, m, k, h1, h2, h3, h4 => by
    cases b with
    | lst y =>
      cases n with
      | zero => unfold okN at h1; cases h1
      | succ n => cases m with
        | zero => unfold okN at h2; cases h2
        | succ m =>
          unfold okN at h1 h2
          unfold noB at h3 h4
          unfold py PyData.eqv
          rw [eqvs_eq x y n m k h1 h2 h3 h4]
          simp
    | ctp _ => cases m <;> (unfold okN at h2; cases h2)
    | dct _ _ => cases m <;> (unfold okN at h2; cases h2)
    | obj _ _ => cases m <;> (unfold okN at h2; cases h2)
    | _ => unfold py PyData.eqv; simp
  | .ctp _, b, n, m, k, h1, h2, h3, h4 => by cases n <;> (unfold okN at h1; cases h1)
  | .dct _ _, b, n, m, k, h1, h2, h3, h4 => by cases n <;> (unfold okN at h1; cases h1)
  | .obj _ _, b, n, m, k, h1, h2, h3, h4 => by cases n <;> (unfold okN at h1; cases h1)
theorem eqvs_eq : ∀ (a b : List D) (n m : Nat) (k : Bool), okNs n a = true → okNs m b = true → noBs k a = true → noBs k b = true → PyData.eqvAll (pys a) (pys b) = decide (a = b)
  | [], [], n, m, k, h1, h2, h3, h4 => rfl
  | [], _ :: _, n, m, k, h1, h2, h3, h4 => by unfold pys PyData.eqvAll; simp
  | _ :: _, [], n, m, k, h1, h2, h3, h4 => by unfold pys PyData.eqvAll; simp
  | x :: xs, y :: ys, n, m, k, h1, h2, h3, h4 => by
    unfold okNs at h1 h2
    unfold noBs at h3 h4
    rw [Bool.and_eq_true] at h1 h2 h3 h4
    unfold pys PyData.eqvAll
    rw [eqv_eq x y n m k h1.1 h2.1 h3.1 h4.1, eqvs_eq xs ys n m k h1.2 h2.2 h3.2 h4.2]
    by_cases e1 : x = y <;> by_cases e2 : xs = ys <;> simp [e1, e2]
end
theorem eqOk_eqv {a b : D} (h : eqOk a b = true) : PyData.eqv (py a) (py b) = decide (a = b) := by
  unfold eqOk at h
  rw [Bool.and_eq_true, Bool.and_eq_true, Bool.or_eq_true, Bool.and_eq_true, Bool.and_eq_true] at h
  obtain ⟨⟨h1, h2⟩, h3⟩ := h
  rcases h3 with ⟨a1, a2⟩ | ⟨a1, a2⟩
  · exact eqv_eq a b _ _ _ h1 h2 a1 a2
  · exact eqv_eq a b _ _ _ h1 h2 a1 a2
end Ck

namespace Ck
open PySem PySem.Spec L2 RZ
section
variable {X : Cx} {W : WX} {P : PP}
theorem line_of {n : Nat} (h : n ≤ 1000000) : n ≤ sizeLine := Nat.le_trans h (by decide)
theorem line_lt {n : Nat} (h : n ≤ 1000000) : n < sizeLine := Nat.lt_of_le_of_lt h (by decide)
/-- an end without a new object -/
theorem q_same {g : Gm} {G H : Hp} {Q : VK} {v : V} {d : D} (e : Same G H) (h : ∀ v G' H', Gr G H G' H' → PN g H G' H' v d → Q v H') (m : mutD d = false) (r : R g G v d) : Q v H := h v G H (.refl e) (.inl ⟨m, r⟩)
theorem q_tup {g : Gm} {G H : Hp} {Q : VK} {xs : List V} {ds : List D} (e : Same G H) (h : ∀ v G' H', Gr G H G' H' → PN g H G' H' v (.tup ds) → Q v H') (r : Rs g G xs ds) : ∀ p, H p = none → Q (.ref p) (upd H p (.tup xs)) := fun p n =>
  h _ _ _ (Gr.new e n) (.inl ⟨rfl, .tup upd_same (r.mono (Gr.new e n).g)⟩)
theorem q_lst {g : Gm} {G H : Hp} {Q : VK} {xs : List V} {ds : List D} (e : Same G H) (h : ∀ v G' H', Gr G H G' H' → PN g H G' H' v (.lst ds) → Q v H') (r : Rs g G xs ds) : ∀ p, H p = none → Q (.ref p) (upd H p (.lst xs)) := fun p n =>
  h _ _ _ (Gr.fresh e n) (.inr ⟨p, rfl, n, e.free n, .lst upd_same r⟩)

/-! ### + - * // % ** -/
def rCatR : R2 := fun x y H Q => ∃ l b xs zs, x = .ref l ∧ y = .ref b ∧ Rd H l (.lst xs) ∧ Rd H b (.lst zs) ∧ xs.length + zs.length ≤ sizeLine ∧ ∀ p, H p = none → Q (.ref p) (upd H p (.lst (xs ++ zs)))
theorem op_catR : OpR X (binaryOp .Add) rCatR := by
  intro pins s σ H x y v u Q I rx ry h
  obtain ⟨l, b, xs, zs, rfl, rfl, hH, hB, hz, q⟩ := h
  cases rx
  cases ry
  obtain ⟨z, its, n, r, e⟩ := hH.ok I.hok
  obtain ⟨z2, its2, n2, r2, e2⟩ := hB.ok I.hok
  have h1 := r.length
  have h2 := r2.length
  refine PySem.P.add_list e e2 ?_ (by rw [List.size_toArray, List.size_toArray]; omega)
  have ea : its.toArray ++ its2.toArray = (its ++ its2).toArray := by simp
  rw [ea]
  exact ⟨.ref _, _, I.lnew (t' := s.toks) (r.append r2) (by rw [List.length_append]; omega), rfl, q _ I.fresh⟩
def addD : D → D → Option D
  | .int i, .int j => some (.int (i + j))
  | .str s, .str t => if s.length + t.length ≤ 1000000 then some (.str (s ++ t)) else none
  | .tup a, .tup b => if a.length + b.length ≤ 1000000 then some (.tup (a ++ b)) else none
  | .lst a, .lst b => if a.length + b.length ≤ 1000000 then some (.lst (a ++ b)) else none
  | _, _ => none
theorem og_add : OpG X (binaryOp .Add) addD := by
  refine ⟨_, op_add.or (op_add_str.or (op_catA.or op_catR)), fun G H x y a b d Q e ra rb ho q => ?_⟩
  unfold addD at ho
  split at ho
  · cases ho; rw [ra.int_inv, rb.int_inv]; exact .inl ⟨_, _, rfl, rfl, q_same e q rfl (.int _)⟩
  · split at ho
    · rename_i hl
      cases ho; rw [ra.str_inv, rb.str_inv]; exact .inr (.inl ⟨_, _, rfl, rfl, line_of hl, q_same e q rfl (.str _)⟩)
    · cases ho
  · split at ho
    · rename_i hl
      cases ho
      obtain ⟨p, xs, rfl, h1, h2⟩ := Ck.R.tup_ex ra
      obtain ⟨r, ys, rfl, h3, h4⟩ := Ck.R.tup_ex rb
      have l1 := h2.length
      have l2 := h4.length
      refine .inr (.inr (.inl ⟨p, r, xs, ys, rfl, rfl, .of (e _ _ h1), .of (e _ _ h3), line_of (by omega), fun z => ?_, fun _ z => ?_, fun _ _ => q_tup e q (h2.append h4)⟩))
      · subst z
        cases h2
        exact q_same e q rfl (.tup h3 h4)
      · subst z
        cases h4
        rw [List.append_nil] at q
        exact q_same e q rfl (.tup h1 h2)
    · cases ho
  · split at ho
    · rename_i hl
      cases ho
      obtain ⟨p, xs, rfl, h1, h2⟩ := Ck.R.lst_inv ra
      obtain ⟨r, ys, rfl, h3, h4⟩ := Ck.R.lst_inv rb
      have l1 := h2.length
      have l2 := h4.length
      exact .inr (.inr (.inr ⟨p, r, xs, ys, rfl, rfl, rd_mono e h1, rd_mono e h3, line_of (by omega), q_lst e q (h2.append h4)⟩))
    · cases ho
  · cases ho
def subD : D → D → Option D
  | .int i, .int j => some (.int (i - j))
  | _, _ => none
theorem og_sub : OpG X (binaryOp .Sub) subD := by
  refine ⟨_, op_sub, fun G H x y a b d Q e ra rb ho q => ?_⟩
  unfold subD at ho
  split at ho
  · cases ho; rw [ra.int_inv, rb.int_inv]; exact ⟨_, _, rfl, rfl, q_same e q rfl (.int _)⟩
  · cases ho
theorem e64 : (2 : Int) ^ 64 = 18446744073709551616 := by decide
def mulB (i j : Int) : Bool := decide (i.natAbs < 18446744073709551616 ∨ j.natAbs < 18446744073709551616)
def mulD : D → D → Option D
  | .int i, .int j => if mulB i j = true then some (.int (i * j)) else none
  | _, _ => none
theorem og_mul : OpG X (binaryOp .Mult) mulD := by
  refine ⟨_, op_mul, fun G H x y a b d Q e ra rb ho q => ?_⟩
  unfold mulD at ho
  split at ho
  · split at ho
    · rename_i hb
      cases ho; rw [ra.int_inv, rb.int_inv]; exact ⟨_, _, rfl, rfl, by unfold CMul; rw [e64]; have := of_decide_eq_true hb; omega, q_same e q rfl (.int _)⟩
    · cases ho
  · cases ho
def modD : D → D → Option D
  | .int i, .int j => if 0 < j then some (.int (i % j)) else none
  | _, _ => none
theorem og_mod : OpG X (binaryOp .Mod) modD := by
  refine ⟨_, op_mod, fun G H x y a b d Q e ra rb ho q => ?_⟩
  unfold modD at ho
  split at ho
  · split at ho
    · rename_i hb
      cases ho; rw [ra.int_inv, rb.int_inv]; exact ⟨_, _, rfl, rfl, hb, q_same e q rfl (.int _)⟩
    · cases ho
  · cases ho
def divD : D → D → Option D
  | .int i, .int j => if 0 < j ∧ j.natAbs < 1073741824 then some (.int (i / j)) else none
  | _, _ => none
theorem og_div : OpG X (binaryOp .FloorDiv) divD := by
  refine ⟨_, op_fdiv, fun G H x y a b d Q e ra rb ho q => ?_⟩
  unfold divD at ho
  split at ho
  · split at ho
    · rename_i hb
      cases ho; rw [ra.int_inv, rb.int_inv]; exact ⟨_, _, rfl, rfl, (by have h := hb; exact ⟨by omega, by omega⟩), q_same e q rfl (.int _)⟩
    · cases ho
  · cases ho
def powD : D → D → Option D
  | .int i, .int j => if 0 ≤ j ∧ j ≤ 1000000 ∧ i.natAbs < 18446744073709551616 then some (.int (i ^ j.toNat)) else none
  | _, _ => none
theorem og_pow : OpG X (binaryOp .Pow) powD := by
  refine ⟨_, op_pow, fun G H x y a b d Q e ra rb ho q => ?_⟩
  unfold powD at ho
  split at ho
  · split at ho
    · rename_i hb
      cases ho; rw [ra.int_inv, rb.int_inv]; exact ⟨_, _, rfl, rfl, hb, q_same e q rfl (.int _)⟩
    · cases ho
  · cases ho
def negD : D → Option D
  | .int i => some (.int (-i))
  | _ => none
theorem ce_neg {a : Expr} {f : ED} {pos : Pos} (ha : CE X W a f) : CE X W (.UnaryOp .USub a pos) (e1 negD f) := (pe_un un_neg ha).imp fun σ H Q ⟨H0, G0, G, env, s, p⟩ => by
  refine tE_bind s p fun d v G1 H1 ed gr s1 q1 => ?_
  unfold e1 at p
  rw [ed] at p
  have p : Pst X.gm W σ (PR X.gm) G H Q (ofO (negD d)) := p
  unfold negD at p
  split at p
  · rw [Ck.R.int_inv q1]
    exact ⟨_, rfl, p _ G1 H1 gr (.int _)⟩
  · exact p.elim

/-! ### comparisons -/
def bo : Option Bool → Option D
  | some b => some (.bl b)
  | none => none
theorem bo_some {o : Option Bool} {d : D} (h : bo o = some d) : ∃ b, o = some b ∧ d = .bl b := by
  cases o with
  | none => cases h
  | some b => cases h; exact ⟨b, rfl, rfl⟩
theorem vw_norm {K : PySem.W.Frag} {mg : Str → Option Value} {G H : Hp} (e : Same G H) {v : V} {d : D} (h : okN 60 (untop d) = true) (r : Vw ⟨K, mg⟩ H G v d) : Dp K H v (py (untop d)) := by
  cases d with
  | lst l =>
    obtain ⟨a, xs, rfl, h1, h2⟩ := Vw.lst_inv e r
    exact .lst h1 (py_dps e l 59 _ h h2)
  | ctp l =>
    obtain ⟨a, xs, rfl, h1, h2⟩ := Ck.R.ctp_inv (Vw.ctp_inv r)
    exact .tup (sqT_mono e h1) (py_dps e l 59 _ h h2)
  | dct _ _ => cases h
  | obj _ _ => cases h
  | _ => cases r with | val r => exact py_dp e _ 60 _ h r
theorem scal_vw {g : Gm} {G H : Hp} {x y : V} {a b : D} (h : scalD a b = true) (ra : Vw g H G x a) (rb : Vw g H G y b) : scal x y = true ∧ decide (x = y) = decide (a = b) := by
  cases ra with
  | val ra =>
    cases rb with
    | val rb =>
      cases ra <;> cases rb <;> first | (cases h; done) | (refine ⟨rfl, ?_⟩; first | rfl | (rw [Bool.eq_iff_iff]; simp))
    | _ => cases a <;> cases h
  | _ => cases b <;> cases h
theorem lookD_cons {k k' : D} {v : D} {r : List (D × D)} : lookD ((k, v) :: r) k' = if k = k' then some v else lookD r k' := by
  unfold lookD
  rw [List.find?_cons]
  by_cases h : k = k'
  · rw [decide_eq_true h, if_pos h]; rfl
  · rw [decide_eq_false h, if_neg h]
theorem valV_cons' {κ : Type} [DecidableEq κ] {k k' : κ} {v : V} {r : List (κ × V)} : valV ((k, v) :: r) k' = if k = k' then some v else valV r k' := by
  unfold valV
  rw [List.find?_cons]
  by_cases h : k = k'
  · rw [decide_eq_true h, if_pos h]; rfl
  · rw [decide_eq_false h, if_neg h]
theorem keyD_inj {a b : Key} (h : keyD a = keyD b) : a = b := by
  cases a <;> cases b <;> cases h <;> rfl
theorem keysD_inj : ∀ {a b : List Key}, a.map keyD = b.map keyD → a = b
  | [], [], _ => rfl
  | [], _ :: _, h => by cases h
  | _ :: _, [], h => by cases h
  | x :: xs, y :: ys, h => by
    rw [List.map_cons, List.map_cons] at h
    obtain ⟨h1, h2⟩ := List.cons.inj h
    rw [keyD_inj h1, keysD_inj h2]
theorem RK.look {g : Gm} {G : Hp} {k : Key} : ∀ {kvs : List (Key × V)} {ds : List (D × D)}, RK g G kvs ds →
    (∀ d, lookD ds (keyD k) = some d → ∃ v, valV kvs k = some v ∧ R g G v d) ∧ (lookD ds (keyD k) = none → valV kvs k = none)
  | _, _, .nil => ⟨fun d h => (by cases h), fun _ => rfl⟩
  | _, _, .cons (k := k0) r t => by
    obtain ⟨h1, h2⟩ := RK.look (k := k) t
    rw [lookD_cons, valV_cons']
    by_cases e : k0 = k
    · subst e
      rw [if_pos rfl, if_pos rfl]
      exact ⟨fun d h => by cases h; exact ⟨_, rfl, r⟩, fun h => by cases h⟩
    · rw [if_neg fun z => e (keyD_inj z), if_neg e]
      exact ⟨h1, h2⟩
theorem RT.look {g : Gm} {G : Hp} {k : List Key} : ∀ {kvs : List (List Key × V)} {ds : List (D × D)}, RT g G kvs ds →
    (∀ d, lookD ds (.tup (k.map keyD)) = some d → ∃ v, valV kvs k = some v ∧ R g G v d) ∧ (lookD ds (.tup (k.map keyD)) = none → valV kvs k = none)
  | _, _, .nil => ⟨fun d h => (by cases h), fun _ => rfl⟩
  | _, _, .cons (k := k0) r t => by
    obtain ⟨h1, h2⟩ := RT.look (k := k) t
    rw [lookD_cons, valV_cons']
    by_cases e : k0 = k
    · subst e
      rw [if_pos rfl, if_pos rfl]
      exact ⟨fun d h => by cases h; exact ⟨_, rfl, r⟩, fun h => by cases h⟩
    · rw [if_neg fun z => e (keysD_inj (D.tup.inj z)), if_neg e]
      exact ⟨h1, h2⟩
theorem od_eq' {b : Bool} {f : Value → Value → Sem Value} (h1 : OpR X f fun x y H Q => scal x y = true ∧ Q (.bl (xor b (decide (x = y)))) H)
    (h2 : OpR X f fun x y H Q => ∃ d e, Dp X.K H x d ∧ Dp X.K H y e ∧ SeqAt.shaped d = true ∧ SeqAt.shaped e = true ∧ Q (.bl (xor b (PyData.eqv d e))) H) :
    OpD X f fun x y => bo ((eqD x y).map (xor b)) := by
  refine ⟨_, h1.or h2, fun G H x y a c d Q e ra rb ho q => ?_⟩
  dsimp only at ho
  obtain ⟨k, ho2, ed⟩ := bo_some ho
  clear ho
  subst ed
  have ho := ho2
  clear ho2
  have q : Q (.bl k) H := q_same e q rfl (.bl k)
  unfold eqD eqD0 at ho
  split at ho
  · rename_i hs
    have ho : some (xor b (decide (untop a = untop c))) = some k := ho
    cases ho
    have ea : untop a = a := by cases a <;> first | rfl | (cases c <;> cases hs)
    have ec : untop c = c := by cases c <;> first | rfl | (cases a <;> cases hs)
    rw [ea, ec] at hs q
    obtain ⟨s1, s2⟩ := scal_vw hs ra rb
    refine .inl ⟨s1, ?_⟩
    rw [s2]; exact q
  · split at ho
    · rename_i _ hk
      have ho : some (xor b (decide (untop a = untop c))) = some k := ho
      cases ho
      have hk' := hk
      unfold eqOk at hk'
      rw [Bool.and_eq_true, Bool.and_eq_true] at hk'
      refine .inr ⟨_, _, vw_norm e hk'.1.1 ra, vw_norm e hk'.1.2 rb, py_shaped hk'.1.1, py_shaped hk'.1.2, ?_⟩
      rw [eqOk_eqv hk]; exact q
    · cases ho
theorem OpR.imp {f : Value → Value → Sem Value} {r r' : R2} (h : OpR X f r) (k : ∀ x y H Q, r' x y H Q → r x y H Q) : OpR X f r' := fun pins s σ H x y v u Q I rx ry q => h pins s σ H x y v u Q I rx ry (k _ _ _ _ q)
def eqW (x y : D) : Option D := bo ((eqD x y).map (xor false))
def neW (x y : D) : Option D := bo ((eqD x y).map (xor true))
theorem od_eq {k : Nat} (hr : Room k X.A) : OpD X (compareOp .Eq) eqW := od_eq' (b := false) (OpR.imp op_eq fun x y H Q h => by rw [Bool.false_xor] at h; exact h)
  (OpR.imp (op_eqD hr.units) fun x y H Q ⟨d, e, h1, h2, h3, h4, h5⟩ => ⟨d, e, h1, h2, h3, h4, by rw [Bool.false_xor] at h5; exact h5⟩)
theorem od_ne {k : Nat} (hr : Room k X.A) : OpD X (compareOp .NotEq) neW := od_eq' (b := true) (OpR.imp op_ne fun x y H Q h => by rw [Bool.true_xor] at h; exact h)
  (OpR.imp (op_neD hr.units) fun x y H Q ⟨d, e, h1, h2, h3, h4, h5⟩ => ⟨d, e, h1, h2, h3, h4, by rw [Bool.true_xor] at h5; exact h5⟩)
def ltD : D → D → Option D
  | .int i, .int j => some (.bl (decide (i < j)))
  | .str s, .str t => some (.bl (decide (s.cps.toList < t.cps.toList)))
  | _, _ => none
theorem od_lt : OpD X (compareOp .Lt) ltD := by
  refine ⟨_, op_lt.or op_lt_str, fun G H x y a b d Q e ra rb ho q => ?_⟩
  unfold ltD at ho
  split at ho
  · cases ho; rw [ra.int_inv, rb.int_inv]; exact .inl ⟨_, _, rfl, rfl, q_same e q rfl (.bl _)⟩
  · cases ho; rw [ra.str_inv, rb.str_inv]; exact .inr ⟨_, _, rfl, rfl, q_same e q rfl (.bl _)⟩
  · cases ho
def leD : D → D → Option D
  | .int i, .int j => some (.bl (decide (i ≤ j)))
  | _, _ => none
def gtD : D → D → Option D
  | .int i, .int j => some (.bl (decide (j < i)))
  | _, _ => none
def geD : D → D → Option D
  | .int i, .int j => some (.bl (decide (j ≤ i)))
  | _, _ => none
theorem od_le : OpD X (compareOp .LtE) leD := by
  refine ⟨_, op_le, fun G H x y a b d Q e ra rb ho q => ?_⟩
  unfold leD at ho
  split at ho
  · cases ho; rw [ra.int_inv, rb.int_inv]; exact ⟨_, _, rfl, rfl, q_same e q rfl (.bl _)⟩
  · cases ho
theorem od_gt : OpD X (compareOp .Gt) gtD := by
  refine ⟨_, op_gt, fun G H x y a b d Q e ra rb ho q => ?_⟩
  unfold gtD at ho
  split at ho
  · cases ho; rw [ra.int_inv, rb.int_inv]; exact ⟨_, _, rfl, rfl, q_same e q rfl (.bl _)⟩
  · cases ho
theorem od_ge : OpD X (compareOp .GtE) geD := by
  refine ⟨_, op_ge, fun G H x y a b d Q e ra rb ho q => ?_⟩
  unfold geD at ho
  split at ho
  · cases ho; rw [ra.int_inv, rb.int_inv]; exact ⟨_, _, rfl, rfl, q_same e q rfl (.bl _)⟩
  · cases ho
/-- is None -/
def isNonD : D → D → Option D
  | a, .non => some (.bl (decide (a = .non)))
  | _, _ => none
def notNonD : D → D → Option D
  | a, .non => some (.bl (!decide (a = .non)))
  | _, _ => none
theorem vw_non {g : Gm} {H G : Hp} {v : V} {d : D} (r : Vw g H G v d) : decide (v = .non) = decide (d = .non) := by
  cases r with
  | val r => cases r <;> simp
  | _ => simp
theorem od_is : OpD X (compareOp .Is) isNonD := by
  refine ⟨_, op_isN, fun G H x y a b d Q e ra rb ho q => ?_⟩
  unfold isNonD at ho
  split at ho
  · cases ho
    have hy : y = .non := by cases rb with | val r => cases r; rfl
    refine ⟨hy, ?_⟩
    rw [vw_non ra]; exact q_same e q rfl (.bl _)
  · cases ho
theorem od_isnot : OpD X (compareOp .IsNot) notNonD := by
  refine ⟨_, op_notN, fun G H x y a b d Q e ra rb ho q => ?_⟩
  unfold notNonD at ho
  split at ho
  · cases ho
    have hy : y = .non := by cases rb with | val r => cases r; rfl
    refine ⟨hy, ?_⟩
    rw [vw_non ra]; exact q_same e q rfl (.bl _)
  · cases ho
end
end Ck

namespace Ck
open PySem PySem.Spec L2 RZ
section
variable {X : Cx} {W : WX} {P : PP}
theorem _root_.L2.PE.or {e : Expr} {t t' : TE} (h : PE X e t) (h' : PE X e t') : PE X e (fun σ H Q => t σ H Q ∨ t' σ H Q) :=
  ⟨fun pins s σ H Q I q => q.elim (h.run pins s σ H Q I) (h'.run pins s σ H Q I)⟩
/-! ### keys of dicts -/
@[simp] def key0 : D → Bool
  | .int _ => true
  | .str _ => true
  | _ => false
def keyOk (t : Bool) (k : D) : Bool := if t = true then (match k with
  | .tup l => l.all key0
  | _ => false) else key0 k
theorem key_k {g : Gm} {G : Hp} {v : V} {d : D} (h : key0 d = true) (r : R g G v d) : ∃ k, d = keyD k ∧ v = kV k := by
  cases r with
  | int i => exact ⟨.inl i, rfl, rfl⟩
  | str s => exact ⟨.inr s, rfl, rfl⟩
  | _ => cases h
theorem key_ks {g : Gm} {G : Hp} : ∀ {vs : List V} {ds : List D}, ds.all key0 = true → Rs g G vs ds → ∃ ks : List Key, ds = ks.map keyD ∧ vs = ks.map kV
  | _, _, _, .nil => ⟨[], rfl, rfl⟩
  | _, _, h, .cons r t => by
    rw [List.all_cons, Bool.and_eq_true] at h
    obtain ⟨k, rfl, rfl⟩ := key_k h.1 r
    obtain ⟨ks, rfl, rfl⟩ := key_ks h.2 t
    exact ⟨k :: ks, rfl, rfl⟩
theorem key_t {g : Gm} {G : Hp} {v : V} {d : D} (h : keyOk true d = true) (r : R g G v d) : ∃ (ks : List Key) (b : Addr), d = .tup (ks.map keyD) ∧ v = .ref b ∧ G b = some (.tup (ks.map kV)) := by
  cases d with
  | tup l =>
    obtain ⟨b, xs, rfl, h1, h2⟩ := Ck.R.tup_ex r
    obtain ⟨ks, rfl, rfl⟩ := key_ks h h2
    exact ⟨ks, b, rfl, rfl, h1⟩
  | _ => cases h
theorem Vw.dct_inv {g : Gm} {T G : Hp} (e : Same G T) {v : V} {t : Bool} {ds : List (D × D)} (r : Vw g T G v (.dct t ds)) :
    ∃ a, v = .ref a ∧ ((t = false ∧ ∃ kvs, Rd T a (.dK kvs) ∧ RK g G kvs ds) ∨ (t = true ∧ ∃ kvs, Rd T a (.dT kvs) ∧ RT g G kvs ds)) := by
  cases r with
  | val h => cases h with
    | dk h1 h2 => exact ⟨_, rfl, .inl ⟨rfl, _, rd_mono e h1, h2⟩⟩
    | dt h1 h2 => exact ⟨_, rfl, .inr ⟨rfl, _, rd_mono e h1, h2⟩⟩
  | dk h1 h2 => exact ⟨_, rfl, .inl ⟨rfl, _, h1, h2⟩⟩
  | dt h1 h2 => exact ⟨_, rfl, .inr ⟨rfl, _, h1, h2⟩⟩
theorem dget {g : Gm} {G H : Hp} (e : Same G H) {x y : V} {t : Bool} {ds : List (D × D)} {k : D} (hk : keyOk t k = true) (rx : Vw g H G x (.dct t ds)) (ry : R g G y k) :
    ∃ a o, x = .ref a ∧ DGet H a y o ∧ IsD H a ∧ (∀ d, lookD ds k = some d → ∃ v, o = some v ∧ R g G v d) ∧ (lookD ds k = none → o = none) := by
  obtain ⟨a, rfl, ⟨rfl, kvs, h1, h2⟩ | ⟨rfl, kvs, h1, h2⟩⟩ := Vw.dct_inv e rx
  · obtain ⟨kk, rfl, rfl⟩ := key_k hk ry
    obtain ⟨q1, q2⟩ := RK.look (k := kk) h2
    exact ⟨a, valV kvs kk, rfl, .inl ⟨kvs, kk, h1, rfl, rfl⟩, .inl ⟨kvs, h1⟩, q1, q2⟩
  · obtain ⟨ks, b, rfl, rfl, hb⟩ := key_t hk ry
    obtain ⟨q1, q2⟩ := RT.look (k := ks) h2
    exact ⟨a, valV kvs ks, rfl, .inr ⟨kvs, ks, b, h1, rfl, e _ _ hb, rfl⟩, .inr ⟨kvs, h1⟩, q1, q2⟩

/-! ### x in y -/
def flatD0 : D → Bool
  | .non => true | .bl _ => true | .int _ => true | .str _ => true
  | _ => false
/-- no bool beside ints -/
def inFlat (x : D) (l : List D) : Bool := flatD0 x && l.all flatD0 && (noB false x && noBs false l || noB true x && noBs true l)
def inDeep (x : D) (l : List D) : Bool := okN 60 x && okNs 59 l && (noB false x && noBs false l || noB true x && noBs true l)
def inL (x : D) (l : List D) : Option Bool := if inFlat x l = true then some (decide (x ∈ l)) else none
def inD0 : D → D → Option Bool
  | .str s, .str t => if s.cps.size = 1 then some (decide (s.cps.toList.head! ∈ t.cps.toList)) else none
  | x, .lst l => if inFlat x l = true then some (decide (x ∈ l)) else if inDeep x l = true then some (decide (x ∈ l)) else none
  | x, .tup l => inL x l
  | x, .ctp l => inL x l
  | _, _ => none
def inDK : D → D → Option Bool
  | x, .dct t kvs => if keyOk t x = true then some (lookD kvs x).isSome else none
  | x, y => inD0 x y
theorem flat_eq {g : Gm} {G : Hp} {v w : V} {a b : D} (k : Bool) (h1 : flatD0 a = true) (h2 : flatD0 b = true) (n1 : noB k a = true) (n2 : noB k b = true) (ra : R g G v a) (rb : R g G w b) : eqV v w = decide (a = b) := by
  cases ra <;> first | (cases h1; done) | (cases rb <;> first | (cases h2; done) | (cases k <;> first | (cases n1; done) | (cases n2; done) | (unfold eqV; first | (rw [Bool.eq_iff_iff]; simp; done) | simp)))
theorem flat_v {g : Gm} {G : Hp} {v : V} {a : D} (h1 : flatD0 a = true) (ra : R g G v a) : flatV v = true := by
  cases ra <;> first | rfl | cases h1
theorem in_flat {g : Gm} {G : Hp} {v : V} {x : D} (k : Bool) (hx : flatD0 x = true) (nx : noB k x = true) (rx : R g G v x) : ∀ {vs : List V} {l : List D}, l.all flatD0 = true → noBs k l = true → Rs g G vs l → vs.all flatV = true ∧ inV v vs = decide (x ∈ l)
  | _, [], _, _, r => by cases r; exact ⟨rfl, by simp [inV]⟩
  | _, y :: l, h, n, r => by
    cases r with
    | cons r t =>
    rw [List.all_cons, Bool.and_eq_true] at h
    unfold noBs at n
    rw [Bool.and_eq_true] at n
    obtain ⟨q1, q2⟩ := in_flat k hx nx rx h.2 n.2 t
    refine ⟨by rw [List.all_cons, flat_v h.1 r, q1]; rfl, ?_⟩
    unfold inV at q2 ⊢
    rw [List.any_cons, q2, flat_eq k h.1 hx n.1 nx r rx]
    by_cases e1 : y = x
    · subst e1; simp
    · have e2 : ¬ x = y := fun z => e1 z.symm
      simp [e1, e2]
theorem in_deep {k : Bool} {x : D} {n m : Nat} (h : okN n x = true) (nx : noB k x = true) : ∀ {l : List D}, okNs m l = true → noBs k l = true → (pys l).any (fun z => PyData.eqv z (py x)) = decide (x ∈ l)
  | [], _, _ => by simp [pys]
  | y :: l, h2, n2 => by
    unfold okNs at h2
    unfold noBs at n2
    rw [Bool.and_eq_true] at h2 n2
    unfold pys
    rw [List.any_cons, in_deep h nx h2.2 n2.2, eqv_eq y x m n k h2.1 h n2.1 nx]
    by_cases e1 : y = x
    · subst e1; simp
    · have e2 : ¬ x = y := fun z => e1 z.symm
      simp [e1, e2]
theorem vw_r {g : Gm} {H G : Hp} {v : V} {d : D} (h : mutD d = false) (r : Vw g H G v d) : R g G v d := by
  cases r with
  | val r => exact r
  | _ => cases h
theorem flat_mut {d : D} (h : flatD0 d = true) : mutD d = false := by cases d <;> first | rfl | cases h
theorem od_in' {b : Bool} {f : Value → Value → Sem Value} {k : Nat} (hr : Room k X.A)
    (h1 : OpR X f fun x y H Q => ∃ (c : Nat) (z : Str), x = .str ⟨#[c]⟩ ∧ y = .str z ∧ Q (.bl (xor b (decide (c ∈ z.cps.toList)))) H)
    (h2 : OpR X f fun x y H Q => ∃ p xs, y = .ref p ∧ (SqL X.K H p xs ∨ SqT X.K H p xs) ∧ flatV x = true ∧ xs.all flatV = true ∧ Q (.bl (xor b (inV x xs))) H)
    (h3 : OpR X f fun x y H Q => ∃ d ds, Dp X.K H x d ∧ Dp X.K H y (.list ds) ∧ SeqAt.shaped d = true ∧ SeqAt.shaped (.list ds) = true ∧ Q (.bl (xor b (ds.any fun z => PyData.eqv z d))) H) :
    OpD X f fun x y => bo ((inD0 x y).map (xor b)) := by
  refine ⟨_, h1.or (h2.or h3), fun G H x y a c d Q e ra rb ho q => ?_⟩
  dsimp only at ho
  obtain ⟨k, ho2, ed⟩ := bo_some ho
  clear ho
  subst ed
  have q : Q (.bl k) H := q_same e q rfl (.bl k)
  have flat : ∀ {l : List D} {p : Addr} {xs : List V}, inFlat a l = true → y = .ref p → (SqL X.K H p xs ∨ SqT X.K H p xs) → Rs X.gm G xs l → k = xor b (decide (a ∈ l)) →
      ∃ p xs, y = .ref p ∧ (SqL X.K H p xs ∨ SqT X.K H p xs) ∧ flatV x = true ∧ xs.all flatV = true ∧ Q (.bl (xor b (inV x xs))) H := fun {l p xs} hf ey hs rs ek => by
    unfold inFlat at hf
    rw [Bool.and_eq_true, Bool.and_eq_true, Bool.or_eq_true, Bool.and_eq_true, Bool.and_eq_true] at hf
    obtain ⟨⟨f1, f2⟩, f3⟩ := hf
    have rx := vw_r (flat_mut f1) ra
    have : ∃ k, noB k a = true ∧ noBs k l = true := by
      rcases f3 with f3 | f3
      · exact ⟨_, f3⟩
      · exact ⟨_, f3⟩
    obtain ⟨kk, n1, n2⟩ := this
    obtain ⟨z1, z2⟩ := in_flat kk f1 n1 rx f2 n2 rs
    refine ⟨p, xs, ey, hs, flat_v f1 rx, z1, ?_⟩
    rw [z2, ← ek]; exact q
  cases c with
  | str t =>
    cases a with
    | str s =>
      have ho2 : ((if s.cps.size = 1 then some (decide (s.cps.toList.head! ∈ t.cps.toList)) else none) : Option Bool).map (xor b) = some k := ho2
      split at ho2
      · rename_i hs
        have es : s = ⟨#[s.cps.toList.head!]⟩ := by
          obtain ⟨⟨l⟩⟩ := s
          match l, hs with
          | [c], _ => rfl
        rw [ra.str_inv, rb.str_inv]
        have ho2 : xor b (decide (s.cps.toList.head! ∈ t.cps.toList)) = k := Option.some.inj ho2
        refine .inl ⟨s.cps.toList.head!, t, by rw [← es], rfl, ?_⟩
        rw [ho2]; exact q
      · cases ho2
    | _ => cases ho2
  | lst l =>
    obtain ⟨p, xs, rfl, h4, h5⟩ := Vw.lst_inv e rb
    have ho2 : ((if inFlat a l = true then some (decide (a ∈ l)) else if inDeep a l = true then some (decide (a ∈ l)) else none) : Option Bool).map (xor b) = some k := by cases a <;> exact ho2
    split at ho2
    · rename_i hf
      exact .inr (.inl (flat hf rfl (.inl h4) h5 (Option.some.inj ho2).symm))
    · split at ho2
      · rename_i hf
        have ek : xor b (decide (a ∈ l)) = k := Option.some.inj ho2
        unfold inDeep at hf
        rw [Bool.and_eq_true, Bool.and_eq_true, Bool.or_eq_true, Bool.and_eq_true, Bool.and_eq_true] at hf
        obtain ⟨⟨f1, f2⟩, f3⟩ := hf
        have fl : okN 60 (.lst l) = true := f2
        have f1' : untop a = a := by
          cases a <;> first | rfl | cases f1
        have dx := vw_norm e (by rw [f1']; exact f1) ra
        rw [f1'] at dx
        have dy := vw_norm e (d := .lst l) fl rb
        have : ∃ k, noB k a = true ∧ noBs k l = true := by
          rcases f3 with f3 | f3
          · exact ⟨_, f3⟩
          · exact ⟨_, f3⟩
        obtain ⟨kk, n1, n2⟩ := this
        refine .inr (.inr ⟨_, _, dx, dy, py_shaped f1, py_shaped fl, ?_⟩)
        rw [in_deep f1 n1 f2 n2, ek]; exact q
      · cases ho2
  | tup l =>
    obtain ⟨p, xs, rfl, h4, h5⟩ := Ck.R.tup_inv (Vw.tup_inv rb)
    have ho2 : (inL a l).map (xor b) = some k := by cases a <;> exact ho2
    unfold inL at ho2
    split at ho2
    · rename_i hf
      exact .inr (.inl (flat hf rfl (.inr (sqT_mono e h4)) h5 (Option.some.inj ho2).symm))
    · cases ho2
  | ctp l =>
    obtain ⟨p, xs, rfl, h4, h5⟩ := Ck.R.ctp_inv (Vw.ctp_inv rb)
    have ho2 : (inL a l).map (xor b) = some k := by cases a <;> exact ho2
    unfold inL at ho2
    split at ho2
    · rename_i hf
      exact .inr (.inl (flat hf rfl (.inr (sqT_mono e h4)) h5 (Option.some.inj ho2).symm))
    · cases ho2
  | _ => cases a <;> cases ho2
theorem od_in {k : Nat} (hr : Room k X.A) : OpD X (compareOp .In) fun x y => bo ((inD0 x y).map (xor false)) :=
  od_in' (b := false) hr (OpR.imp op_in_sign fun x y H Q ⟨c, z, h1, h2, h3⟩ => ⟨c, z, h1, h2, by rw [Bool.false_xor] at h3; exact h3⟩)
    (OpR.imp op_in_seq fun x y H Q ⟨p, xs, h1, h2, h3, h4, h5⟩ => ⟨p, xs, h1, h2, h3, h4, by rw [Bool.false_xor] at h5; exact h5⟩)
    (OpR.imp (op_inD (by have := hr.un; omega)) fun x y H Q ⟨d, ds, h1, h2, h3, h4, h5⟩ => ⟨d, ds, h1, h2, h3, h4, by rw [Bool.false_xor] at h5; exact h5⟩)
theorem od_nin {k : Nat} (hr : Room k X.A) : OpD X (compareOp .NotIn) fun x y => bo ((inD0 x y).map (xor true)) :=
  od_in' (b := true) hr (OpR.imp op_notIn_sign fun x y H Q ⟨c, z, h1, h2, h3⟩ => ⟨c, z, h1, h2, by rw [Bool.true_xor] at h3; exact h3⟩)
    (OpR.imp op_notIn_seq fun x y H Q ⟨p, xs, h1, h2, h3, h4, h5⟩ => ⟨p, xs, h1, h2, h3, h4, by rw [Bool.true_xor] at h5; exact h5⟩)
    (OpR.imp (op_notInD (by have := hr.un; omega)) fun x y H Q ⟨d, ds, h1, h2, h3, h4, h5⟩ => ⟨d, ds, h1, h2, h3, h4, by rw [Bool.true_xor] at h5; exact h5⟩)
def inV2 (x y : D) : Option D := bo ((inDK x y).map (xor false))
def ninV2 (x y : D) : Option D := bo ((inDK x y).map (xor true))
theorem in_read {b : Bool} {fa fb : ED} {rr : R2}
    (hr : ∀ G H x y a c d Q, Same G H → Vw X.gm H G x a → Vw X.gm H G y c → bo ((inD0 a c).map (xor b)) = some d → (∀ v G' H', Gr G H G' H' → PN X.gm H G' H' v d → Q v H') → rr x y H Q) (σ : L2.St) (H : Hp) (Q : VK)
    (q : tE X.gm W (PR X.gm) (e2 (fun x y => bo ((inDK x y).map (xor b))) fa fb) σ H Q) :
    tOp rr (tE X.gm W (PV X.gm) fa) (tE X.gm W (PV X.gm) fb) σ H Q ∨ tE X.gm W (PR X.gm) fa σ H fun y H1 => tE X.gm W (PV X.gm) fb σ H1 fun x H2 => ∃ a o, x = .ref a ∧ DGet H2 a y o ∧ Q (.bl (xor b o.isSome)) H2 := by
  obtain ⟨H0, G0, G, env, s, p⟩ := id q
  by_cases hdc : ∃ t kvs, fb env = .ok (.dct t kvs)
  · obtain ⟨t', kvs, eb⟩ := hdc
    refine .inr (tE_bind s p fun d v G1 H1 ed gr s1 q1 => ?_)
    unfold e2 at p
    rw [ed] at p
    have p := p.grow PR.mono gr
    refine tE_ok s1 eb fun v2 G2 H2 gr2 s2 q2 => ?_
    replace p : Pst X.gm W σ (PR X.gm) G1 H1 Q ((fb env).bind fun b' => ofO (bo ((inDK d b').map (xor b)))) := p
    rw [eb] at p
    have p := p.grow PR.mono gr2
    replace p : Pst X.gm W σ (PR X.gm) G2 H2 Q (ofO (bo ((if keyOk t' d = true then some (lookD kvs d).isSome else none : Option Bool).map (xor b)))) := p
    by_cases hk : keyOk t' d = true
    · rw [if_pos hk] at p
      obtain ⟨a, o, rfl, g1, _, g2, g3⟩ := dget s2.gh hk q2 (R.mono gr2.g q1)
      refine ⟨a, o, rfl, g1, ?_⟩
      have eo : o.isSome = (lookD kvs d).isSome := by
        cases e : lookD kvs d with
        | none => rw [g3 e]; rfl
        | some z => obtain ⟨v, ev, _⟩ := g2 z e; rw [ev]; rfl
      rw [eo]
      exact p _ G2 H2 (.refl s2.gh) (.bl _)
    · rw [if_neg hk] at p; exact p.elim
  · refine .inl (c_op (P := PR X.gm) (W := W) PR.mono (fun _ _ _ _ _ _ gr q => PR.of_N gr q) (S := PV X.gm) PV.keep (fun _ _ G H x y a b d Q s q1 q2 => hr G H x y a b d Q s q1 q2) σ H Q ⟨H0, G0, G, env, s, ?_⟩)
    have ee : e2 (fun x y => bo ((inDK x y).map (xor b))) fa fb env = e2 (fun x y => bo ((inD0 x y).map (xor b))) fa fb env := by
      unfold e2
      cases fa env with
      | ok d =>
        cases eb : fb env with
        | ok c =>
          cases c with
          | dct t kvs => exact absurd ⟨t, kvs, eb⟩ hdc
          | _ => cases d <;> rfl
        | _ => rfl
      | _ => rfl
    rw [ee] at p
    exact p
theorem tT_tE {f : ED} (σ : L2.St) (H : Hp) (Q : Bool → Hp → Prop) (q : tT X.gm W (tB f) σ H Q) : tE X.gm W (PR X.gm) f σ H fun x H' => ∃ k, x = .bl k ∧ Q k H' := by
  obtain ⟨H0, G0, G, env, s, p⟩ := q
  refine ⟨H0, G0, G, env, s, ?_⟩
  unfold tB at p
  cases e1 : f env with
  | ok d =>
    rw [e1] at p
    intro v G' H' gr q
    replace p : PstT X.gm W σ G H Q (ofO (asB d)) := p
    cases q with
    | bl b => exact ⟨b, rfl, p G' H' gr⟩
    | _ => exact p.elim
  | exc x => rw [e1] at p; exact p
  | stuck => rw [e1] at p; exact p
theorem _root_.L2.PT.or {e : Expr} {t t' : TT} (h : PT X e t) (h' : PT X e t') : PT X e (fun σ H Q => t σ H Q ∨ t' σ H Q) :=
  ⟨fun pins s σ H Q I q => q.elim (h.run pins s σ H Q I) (h'.run pins s σ H Q I)⟩
theorem ce_in {l r : Expr} {fa fb : ED} {pos : Pos} {k : Nat} (hr : Room k X.A) (ha : CE X W l fa) (hb : CV X W r fb) (hm : behindInMarks .In r = false := by first | exact nobehind _ (by decide) (by decide) | rfl) : CE X W (.Compare l [.In] [r] pos) (e2 inV2 fa fb) := by
  obtain ⟨rr, h1, h2⟩ := od_in (X := X) hr
  refine ((pe_cmpR h1 ha.view hb hm).or (pe_cmp (pc_din (hu_of hr) ha hb) hm)).imp fun σ H Q q => ?_
  rcases in_read (b := false) h2 σ H Q q with z | z
  · exact .inl z
  · refine .inr ?_
    simp only [Bool.false_xor] at z
    exact z
theorem ce_nin {l r : Expr} {fa fb : ED} {pos : Pos} {k : Nat} (hr : Room k X.A) (ha : CE X W l fa) (hb : CV X W r fb) (hm : behindInMarks .NotIn r = false := by first | exact nobehind _ (by decide) (by decide) | rfl) : CE X W (.Compare l [.NotIn] [r] pos) (e2 ninV2 fa fb) := by
  obtain ⟨rr, h1, h2⟩ := od_nin (X := X) hr
  refine ((pe_cmpR h1 ha.view hb hm).or (pe_cmp (pc_dnotin (hu_of hr) ha hb) hm)).imp fun σ H Q q => ?_
  rcases in_read (b := true) h2 σ H Q q with z | z
  · exact .inl z
  · refine .inr ?_
    simp only [Bool.true_xor] at z
    exact z
theorem ct_in {l r : Expr} {fa fb : ED} {pos : Pos} {k : Nat} (hr : Room k X.A) (ha : CE X W l fa) (hb : CV X W r fb) (hm : behindInMarks .In r = false := by first | exact nobehind _ (by decide) (by decide) | rfl) : CT X W (.Compare l [.In] [r] pos) (tB (e2 inV2 fa fb)) := by
  obtain ⟨rr, h1, h2⟩ := od_in (X := X) hr
  refine ((pt_cmpR h1 ha.view hb hm).or (pt_cmp (pc_din (hu_of hr) ha hb) hm)).imp fun σ H Q q => ?_
  rcases in_read (b := false) h2 σ H _ (tT_tE σ H Q q) with z | z
  · exact .inl z
  · refine .inr ?_
    simp only [Bool.false_xor] at z
    exact z
theorem ct_nin {l r : Expr} {fa fb : ED} {pos : Pos} {k : Nat} (hr : Room k X.A) (ha : CE X W l fa) (hb : CV X W r fb) (hm : behindInMarks .NotIn r = false := by first | exact nobehind _ (by decide) (by decide) | rfl) : CT X W (.Compare l [.NotIn] [r] pos) (tB (e2 ninV2 fa fb)) := by
  obtain ⟨rr, h1, h2⟩ := od_nin (X := X) hr
  refine ((pt_cmpR h1 ha.view hb hm).or (pt_cmp (pc_dnotin (hu_of hr) ha hb) hm)).imp fun σ H Q q => ?_
  rcases in_read (b := true) h2 σ H _ (tT_tE σ H Q q) with z | z
  · exact .inl z
  · refine .inr ?_
    simp only [Bool.true_xor] at z
    exact z
end
end Ck

namespace Ck
open PySem PySem.Spec L2 RZ
section
variable {X : Cx} {W : WX} {P : PP}
/-! ### len -/
def lenD : List D → Option D
  | [.str s] => if s.length ≤ 1000000 then some (.int s.length) else none
  | [.lst l] => some (.int l.length)
  | [.tup l] => some (.int l.length)
  | [.ctp l] => some (.int l.length)
  | [.dct false l] => some (.int l.length)
  | _ => none
theorem call_lenK : CallR X (.builtin "len") (fun xs H Q => ∃ (a : Addr) (kvs : List (Key × V)), xs = [.ref a] ∧ Rd H a (.dK kvs) ∧ Q (.int kvs.length) H) := by
  intro pins s σ H xs us Q I r h
  obtain ⟨a, kvs, rfl, e, q⟩ := h
  obtain ⟨u, rfl, rx⟩ := vals1 r
  cases rx
  exact d_len I e fun t s' I' => ⟨.int kvs.length, H, I', ⟨t, rfl⟩, q⟩
theorem RK.len0 {g : Gm} {G : Hp} : ∀ {kvs : List (Key × V)} {ds : List (D × D)}, RK g G kvs ds → kvs.length = ds.length
  | _, _, .nil => rfl
  | _, _, .cons _ t => congrArg (· + 1) (RK.len0 t)
theorem cl_len : CallN X (.builtin "len") lenD := by
  refine ⟨_, CallR.or call_len call_lenK, fun G H ms vs ds d Q e ra ho q => ?_⟩
  unfold lenD at ho
  split at ho
  · split at ho
    · rename_i hl
      cases ho
      obtain ⟨v, rfl, hv⟩ := ra.one
      rw [hv.str_inv]
      exact .inl ⟨_, _, rfl, ⟨line_of hl, rfl⟩, q_same e q rfl (.int _)⟩
    · cases ho
  · cases ho
    obtain ⟨v, rfl, hv⟩ := ra.one
    obtain ⟨a, xs, rfl, h1, h2⟩ := Vw.lst_inv e hv
    exact .inl ⟨_, _, rfl, .inl ⟨xs, h1, rfl⟩, q_same e q rfl (by rw [h2.length]; exact .int _)⟩
  · cases ho
    obtain ⟨v, rfl, hv⟩ := ra.one
    obtain ⟨a, xs, rfl, h1, h2⟩ := Ck.R.tup_inv hv.tup_inv
    exact .inl ⟨_, _, rfl, .inr ⟨xs, sqT_mono e h1, rfl⟩, q_same e q rfl (by rw [h2.length]; exact .int _)⟩
  · cases ho
    obtain ⟨v, rfl, hv⟩ := ra.one
    obtain ⟨a, xs, rfl, h1, h2⟩ := Ck.R.ctp_inv hv.ctp_inv
    exact .inl ⟨_, _, rfl, .inr ⟨xs, sqT_mono e h1, rfl⟩, q_same e q rfl (by rw [h2.length]; exact .int _)⟩
  · cases ho
    obtain ⟨v, rfl, hv⟩ := ra.one
    obtain ⟨a, rfl, ⟨_, kvs, h1, h2⟩ | ⟨h0, _⟩⟩ := Vw.dct_inv e hv
    · exact .inr ⟨a, kvs, rfl, h1, q_same e q rfl (by rw [h2.len0]; exact .int _)⟩
    · cases h0
  · cases ho
/-! ### x[i] -/
def ixD : D → D → Option D
  | .lst l, .int i => atI l i
  | .tup l, .int i => atI l i
  | .ctp l, .int i => atI l i
  | .str s, .int i => if s.length ≤ 1000000 then (atI s.cps.toList i).map fun c => .str ⟨#[c]⟩ else none
  | .dct t kvs, k => if keyOk t k = true then lookD kvs k else none
  | _, _ => none
@[simp] theorem ixD_lst (l : List D) (i : Int) : ixD (.lst l) (.int i) = atI l i := rfl
@[simp] theorem ixD_tup (l : List D) (i : Int) : ixD (.tup l) (.int i) = atI l i := rfl
@[simp] theorem ixD_ctp (l : List D) (i : Int) : ixD (.ctp l) (.int i) = atI l i := rfl
@[simp] theorem ixD_dct (t : Bool) (kvs : List (D × D)) (k : D) : ixD (.dct t kvs) k = if keyOk t k = true then lookD kvs k else none := rfl
theorem atI_rs {g : Gm} {G : Hp} {xs : List V} {l : List D} {i : Int} {d : D} (r : Rs g G xs l) (h : atI l i = some d) : ∃ v, atI xs i = some v ∧ R g G v d := by
  unfold atI at h ⊢
  rw [r.length]
  cases e : ixN l.length i with
  | none => rw [e] at h; cases h
  | some j =>
    rw [e] at h
    obtain ⟨x, h1, h2⟩ := r.get (i := j) (d := d) h
    exact ⟨x, h1, h2⟩
theorem ce_ix {a b : Expr} {fa fb : ED} {pos : Pos} {k : Nat} (hr : Room k X.A) (ha : CV X W a fa) (hb : CE X W b fb) (hs : PlainIx b := by first | exact (fun _ _ => rfl) | (intro _ _; rfl)) (hn : NoSl b := by first | exact (fun _ _ => rfl) | (intro _ _; rfl)) : CE X W (.Subscript a b pos) (e2 ixD fa fb) :=
  ((pe_ix (IxR.or ix_list (IxR.or ix_tup ix_str)) ha hb hs).or (pe_dget (hu_of hr) ha hb hn)).imp fun σ H Q q => by
    obtain ⟨H0, G0, G, env, s, p⟩ := id q
    by_cases hdc : ∃ t kvs, fa env = .ok (.dct t kvs)
    · obtain ⟨t, kvs, ea⟩ := hdc
      refine .inr (tE_ok s ea fun v G1 H1 gr s1 q1 => ?_)
      unfold e2 at p
      rw [ea] at p
      have p := p.grow PR.mono gr
      refine tE_bind s1 p fun d2 v2 G2 H2 ed2 gr2 s2 q2 => ?_
      replace p : Pst X.gm W σ (PR X.gm) G1 H1 Q ((fb env).bind fun b' => ofO (ixD (.dct t kvs) b')) := p
      rw [ed2] at p
      have p := p.grow PR.mono gr2
      replace p : Pst X.gm W σ (PR X.gm) G2 H2 Q (ofO (if keyOk t d2 = true then lookD kvs d2 else none)) := p
      by_cases hk : keyOk t d2 = true
      · rw [if_pos hk] at p
        obtain ⟨a, o, rfl, g1, _, g2, g3⟩ := dget s2.gh hk (PV.keep gr2 q1) q2
        cases e : lookD kvs d2 with
        | none => rw [e] at p; exact p.elim
        | some z =>
          rw [e] at p
          obtain ⟨w, rfl, rw'⟩ := g2 z e
          exact ⟨a, w, rfl, g1, p w G2 H2 (.refl s2.gh) rw'⟩
      · rw [if_neg hk] at p; exact p.elim
    · refine .inl (tE_bind s p fun d v G1 H1 ed gr s1 q1 => ?_)
      unfold e2 at p
      rw [ed] at p
      have p := p.grow PR.mono gr
      refine tE_bind s1 p fun d2 v2 G2 H2 ed2 gr2 s2 q2 => ?_
      replace p : Pst X.gm W σ (PR X.gm) G1 H1 Q ((fb env).bind fun b' => ofO (ixD d b')) := p
      rw [ed2] at p
      have p := p.grow PR.mono gr2
      replace p : Pst X.gm W σ (PR X.gm) G2 H2 Q (ofO (ixD d d2)) := p
      have q1 := PV.keep gr2 q1
      unfold ixD at p
      split at p
      · obtain ⟨a, xs, rfl, h1, h2⟩ := Vw.lst_inv s2.gh q1
        rw [Ck.R.int_inv q2]
        cases e : atI ‹List D› ‹Int› with
        | none => rw [e] at p; exact p.elim
        | some z =>
          rw [e] at p
          obtain ⟨w, h3, h4⟩ := atI_rs h2 e
          exact .inl ⟨a, xs, _, w, rfl, rfl, h1, h3, p w G2 H2 (.refl s2.gh) h4⟩
      · obtain ⟨a, xs, rfl, h1, h2⟩ := Ck.R.tup_inv (Vw.tup_inv q1)
        rw [Ck.R.int_inv q2]
        cases e : atI ‹List D› ‹Int› with
        | none => rw [e] at p; exact p.elim
        | some z =>
          rw [e] at p
          obtain ⟨w, h3, h4⟩ := atI_rs h2 e
          exact .inr (.inl ⟨a, xs, _, w, rfl, rfl, sqT_mono s2.gh h1, h3, p w G2 H2 (.refl s2.gh) h4⟩)
      · obtain ⟨a, xs, rfl, h1, h2⟩ := Ck.R.ctp_inv (Vw.ctp_inv q1)
        rw [Ck.R.int_inv q2]
        cases e : atI ‹List D› ‹Int› with
        | none => rw [e] at p; exact p.elim
        | some z =>
          rw [e] at p
          obtain ⟨w, h3, h4⟩ := atI_rs h2 e
          exact .inr (.inl ⟨a, xs, _, w, rfl, rfl, sqT_mono s2.gh h1, h3, p w G2 H2 (.refl s2.gh) h4⟩)
      · rw [Ck.R.int_inv q2, Vw.str_inv q1]
        split at p
        · rename_i hl
          cases e : atI (‹Str›).cps.toList ‹Int› with
          | none => rw [e] at p; exact p.elim
          | some z =>
            rw [e] at p
            exact .inr (.inr ⟨_, _, z, rfl, rfl, line_of hl, e, p _ G2 H2 (.refl s2.gh) (.str _)⟩)
        · exact p.elim
      · exact absurd ⟨_, _, ed⟩ hdc
      · exact p.elim
/-! ### slices: lists (new), texts; tuples -/
def cutD (l : List D) (lo hi : Option Int) : List D := (l.drop (HT.sIx l.length 0 lo)).take (HT.sIx l.length l.length hi - HT.sIx l.length 0 lo)
def slD : D → Option Int → Option Int → Option D
  | .lst l, lo, hi => some (.lst (cutD l lo hi))
  | .tup l, lo, hi => some (.tup (cutD l lo hi))
  | .str s, lo, hi => if s.length ≤ 1000000 then some (.str (cutS s lo hi)) else none
  | _, _, _ => none
theorem Rs.drop {g : Gm} {G : Hp} : ∀ (n : Nat) {vs : List V} {ds : List D}, Rs g G vs ds → Rs g G (vs.drop n) (ds.drop n)
  | 0, _, _, r => r
  | _ + 1, _, _, .nil => .nil
  | n + 1, _, _, .cons _ t => Rs.drop n t
theorem Rs.take {g : Gm} {G : Hp} : ∀ (n : Nat) {vs : List V} {ds : List D}, Rs g G vs ds → Rs g G (vs.take n) (ds.take n)
  | 0, _, _, _ => .nil
  | _ + 1, _, _, .nil => .nil
  | n + 1, _, _, .cons r t => .cons r (Rs.take n t)
theorem Rs.cut {g : Gm} {G : Hp} {vs : List V} {ds : List D} (r : Rs g G vs ds) (lo hi : Option Int) : Rs g G (cutV vs lo hi) (cutD ds lo hi) := by
  unfold cutV cutD
  rw [r.length]
  exact (r.drop _).take _
abbrev OD := EnvD → Res (Option Int)
def oNone : OD := fun _ => .ok none
def asI : D → Option (Option Int)
  | .int i => some (some i)
  | _ => none
def oSome (f : ED) : OD := fun env => (f env).bind fun d => ofO (asI d)
def PstO (g : Gm) (W : WX) (σ : L2.St) (G H : Hp) (Q : Option Int → Hp → Prop) : Res (Option Int) → Prop
  | .ok o => ∀ G' H', Gr G H G' H' → Q o H'
  | .exc x => ∀ c d G' H', Gr G H G' H' → XR g H' c d x → W c d σ H'
  | .stuck => False
def tO (g : Gm) (W : WX) (f : OD) : TO := fun σ H Q => ∃ H0 G0 G env, SR g H0 G0 G H σ env ∧ PstO g W σ G H Q (f env)
abbrev CO (X : Cx) (W : WX) (e : Option Expr) (f : OD) : Prop := PO X e (tO X.gm W f)
theorem _root_.L2.PO.imp {e : Option Expr} {t t' : TO} (h : PO X e t) (k : ∀ σ H Q, t' σ H Q → t σ H Q) : PO X e t' :=
  ⟨fun pins s σ H Q I q => h.run pins s σ H Q I (k _ _ _ q)⟩
theorem co_none : CO X W none oNone := po_none.imp fun σ H Q ⟨H0, G0, G, env, s, p⟩ => p G H (.refl s.gh)
theorem co_some {e : Expr} {f : ED} (h : CE X W e f) : CO X W (some e) (oSome f) := (po_some h).imp fun σ H Q ⟨H0, G0, G, env, s, p⟩ => by
  refine ⟨H0, G0, G, env, s, ?_⟩
  unfold oSome at p
  cases e1 : f env with
  | ok d =>
    rw [e1] at p
    intro v G' H' gr q
    replace p : PstO X.gm W σ G H Q (ofO (asI d)) := p
    cases q with
    | int i => exact ⟨i, rfl, p G' H' gr⟩
    | _ => exact p.elim
  | exc x => rw [e1] at p; exact p
  | stuck => rw [e1] at p; exact p
def eSl (f : ED) (lo hi : OD) : ED := fun env => (f env).bind fun d => (lo env).bind fun l => (hi env).bind fun h => ofO (slD d l h)
theorem cn_sl {a : Expr} {lo hi : Option Expr} {f : ED} {fl fh : OD} {p2 pos : Pos} (ha : CV X W a f) (hl : CO X W lo fl) (hh : CO X W hi fh) : CN X W (.Subscript a (.Slice lo hi none p2) pos) (eSl f fl fh) :=
  (pe_slice (SlR.or sl_list (SlR.or sl_tupA sl_str)) ha hl hh).imp fun σ H Q ⟨H0, G0, G, env, s, p⟩ => by
    refine tE_bind s p fun d v G1 H1 ed gr s1 q1 => ?_
    unfold eSl at p
    rw [ed] at p
    have p := p.grow PN.mono gr
    replace p : Pst X.gm W σ (PN X.gm) G1 H1 Q ((fl env).bind fun l => (fh env).bind fun h => ofO (slD d l h)) := p
    refine ⟨H0, G0, G1, env, s1, ?_⟩
    cases e1 : fl env with
    | exc x => rw [e1] at p; exact p
    | stuck => rw [e1] at p; exact p
    | ok l =>
      rw [e1] at p
      intro G2 H2 gr2
      have p := p.grow PN.mono gr2
      replace p : Pst X.gm W σ (PN X.gm) G2 H2 Q ((fh env).bind fun h => ofO (slD d l h)) := p
      have s2 := s1.grow gr2
      refine ⟨H0, G0, G2, env, s2, ?_⟩
      cases e2 : fh env with
      | exc x => rw [e2] at p; exact p
      | stuck => rw [e2] at p; exact p
      | ok h =>
        rw [e2] at p
        intro G3 H3 gr3
        have p := p.grow PN.mono gr3
        replace p : Pst X.gm W σ (PN X.gm) G3 H3 Q (ofO (slD d l h)) := p
        have s3 := s2.grow gr3
        have q1 := PV.keep gr3 (PV.keep gr2 q1)
        unfold slD at p
        split at p
        · obtain ⟨a, xs, rfl, h1, h2⟩ := Vw.lst_inv s3.gh q1
          exact .inl ⟨a, xs, rfl, h1, q_lst s3.gh (fun v G' H' g q => p v G' H' g q) (h2.cut _ _)⟩
        · obtain ⟨a, xs, rfl, h1, h2⟩ := Ck.R.tup_ex (Vw.tup_inv q1)
          refine .inr (.inl ⟨a, xs, rfl, .of (s3.gh _ _ h1), fun z => ?_, fun _ => q_tup s3.gh (fun v G' H' g q => p v G' H' g q) (h2.cut _ _)⟩)
          have ec : cutV xs l h = xs := by
            unfold cutV
            rw [z.1, z.2, Nat.sub_zero, List.drop_zero, List.take_length]
          have hc := h2.cut l h
          rw [ec] at hc
          exact q_same s3.gh (fun v G' H' g q => p v G' H' g q) rfl (.tup h1 hc)
        · split at p
          · rename_i hl
            rw [Vw.str_inv q1]
            exact .inr (.inr ⟨_, rfl, line_of hl, q_same s3.gh (fun v G' H' g q => p v G' H' g q) rfl (.str _)⟩)
          · exact p.elim
        · exact p.elim
/-! ### tuple(..), list(..), int(..), str(..) -/
def tupD : List D → Option D
  | [.lst l] => some (.tup l)
  | [.tup l] => some (.tup l)
  | _ => none
theorem cl_tuple : CallN X (.type "tuple") tupD := by
  refine ⟨_, call_tuple_of, fun G H ms vs ds d Q e ra ho q => ?_⟩
  unfold tupD at ho
  split at ho
  · cases ho
    obtain ⟨v, rfl, hv⟩ := ra.one
    obtain ⟨a, xs, rfl, h1, h2⟩ := Vw.lst_inv e hv
    exact ⟨a, xs, rfl, .inl ⟨h1, q_tup e q h2⟩⟩
  · cases ho
    obtain ⟨v, rfl, hv⟩ := ra.one
    obtain ⟨a, xs, rfl, h1, h2⟩ := Ck.R.tup_ex hv.tup_inv
    exact ⟨a, xs, rfl, .inr ⟨.of (e _ _ h1), q_same e q rfl (.tup h1 h2)⟩⟩
  · cases ho
def intD : List D → Option D
  | [.int i] => some (.int i)
  | [.bl k] => some (.int (if k = true then 1 else 0))
  | _ => none
theorem cl_int : CallN X (.type "int") intD := by
  refine ⟨_, call_int1, fun G H ms vs ds d Q e ra ho q => ?_⟩
  unfold intD at ho
  split at ho
  · cases ho
    obtain ⟨v, rfl, hv⟩ := ra.one
    rw [hv.int_inv]
    exact .inl ⟨_, rfl, q_same e q rfl (.int _)⟩
  · cases ho
    obtain ⟨v, rfl, hv⟩ := ra.one
    rw [hv.bl_inv]
    exact .inr ⟨_, rfl, q_same e q rfl (.int _)⟩
  · cases ho
def strD : List D → Option D
  | [.int i] => if i.natAbs.log2 < 1920 then some (.str (toString i)) else none
  | _ => none
theorem cl_str : CallN X (.type "str") strD := by
  refine ⟨_, call_str_int, fun G H ms vs ds d Q e ra ho q => ?_⟩
  unfold strD at ho
  split at ho
  · split at ho
    · rename_i hl
      cases ho
      obtain ⟨v, rfl, hv⟩ := ra.one
      rw [hv.int_inv]
      exact ⟨_, rfl, hl, q_same e q rfl (.str _)⟩
    · cases ho
  · cases ho
/-- list(list | tuple | text) -/
def listD : List D → Option D
  | [.lst l] => some (.lst l)
  | [.tup l] => some (.lst l)
  | _ => none
theorem cl_list : CallN X (.type "list") listD := by
  refine ⟨_, call_list_of, fun G H ms vs ds d Q e ra ho q => ?_⟩
  unfold listD at ho
  split at ho
  · cases ho
    obtain ⟨v, rfl, hv⟩ := ra.one
    obtain ⟨a, xs, rfl, h1, h2⟩ := Vw.lst_inv e hv
    exact ⟨a, xs, rfl, .inl h1, q_lst e q h2⟩
  · cases ho
    obtain ⟨v, rfl, hv⟩ := ra.one
    obtain ⟨a, xs, rfl, h1, h2⟩ := Ck.R.tup_inv hv.tup_inv
    exact ⟨a, xs, rfl, .inr (sqT_mono e h1), q_lst e q h2⟩
  · cases ho
/-! ### numbers: max, min of two, sum, all, any -/
def max2D : List D → Option D
  | [.int i, .int j] => some (.int (if j > i then j else i))
  | _ => none
def min2D : List D → Option D
  | [.int i, .int j] => some (.int (if j < i then j else i))
  | _ => none
theorem cl_max2 (hc : X.calm = true) : CallN X (.builtin "max") max2D := by
  refine ⟨_, call_max2 hc, fun G H ms vs ds d Q e ra ho q => ?_⟩
  unfold max2D at ho
  split at ho
  · cases ho
    obtain ⟨v, w, rfl, hv, hw⟩ := ra.two
    rw [hv.int_inv, hw.int_inv]
    exact ⟨_, _, rfl, q_same e q rfl (.int _)⟩
  · cases ho
theorem cl_min2 (hc : X.calm = true) : CallN X (.builtin "min") min2D := by
  refine ⟨_, call_min2 hc, fun G H ms vs ds d Q e ra ho q => ?_⟩
  unfold min2D at ho
  split at ho
  · cases ho
    obtain ⟨v, w, rfl, hv, hw⟩ := ra.two
    rw [hv.int_inv, hw.int_inv]
    exact ⟨_, _, rfl, q_same e q rfl (.int _)⟩
  · cases ho
def intsD : List D → Option (List Int)
  | [] => some []
  | .int i :: r => (intsD r).map (i :: ·)
  | _ => none
theorem rs_ints {g : Gm} {G : Hp} : ∀ {l : List D} {ns : List Int} {vs : List V}, intsD l = some ns → Rs g G vs l → vs = ns.map V.int
  | [], ns, _, h, r => by cases h; cases r; rfl
  | .int i :: l, ns, _, h, r => by
    unfold intsD at h
    cases e : intsD l with
    | none => rw [e] at h; cases h
    | some m =>
      rw [e] at h
      cases h
      cases r with
      | cons r t =>
        rw [Ck.R.int_inv r, rs_ints e t]; rfl
  | .non :: _, _, _, h, _ => by cases h
  | .bl _ :: _, _, _, h, _ => by cases h
  | .str _ :: _, _, _, h, _ => by cases h
  | .tup _ :: _, _, _, h, _ => by cases h
  | .ctp _ :: _, _, _, h, _ => by cases h
  | .lst _ :: _, _, _, h, _ => by cases h
  | .dct _ _ :: _, _, _, h, _ => by cases h
  | .obj _ _ :: _, _, _, h, _ => by cases h
def sumD : List D → Option D
  | [.lst l] => (intsD l).map fun ns => .int ns.sum
  | _ => none
theorem cl_sum (hc : X.calm = true) : CallN X (.builtin "sum") sumD := by
  refine ⟨_, cr_sum hc, fun G H ms vs ds d Q e ra ho q => ?_⟩
  unfold sumD at ho
  split at ho
  · obtain ⟨v, rfl, hv⟩ := ra.one
    obtain ⟨a, xs, rfl, h1, h2⟩ := Vw.lst_inv e hv
    cases e2 : intsD ‹List D› with
    | none => rw [e2] at ho; cases ho
    | some ns =>
      rw [e2] at ho
      cases ho
      rw [rs_ints e2 h2] at h1
      exact ⟨a, ns, rfl, h1, q_same e q rfl (.int _)⟩
  · cases ho
def bools : List D → Option (List Bool)
  | [] => some []
  | .bl i :: r => (bools r).map (i :: ·)
  | _ => none
theorem rs_bools {g : Gm} {G : Hp} : ∀ {l : List D} {ns : List Bool} {vs : List V}, bools l = some ns → Rs g G vs l → vs = ns.map V.bl
  | [], ns, _, h, r => by cases h; cases r; rfl
  | .bl i :: l, ns, _, h, r => by
    unfold bools at h
    cases e : bools l with
    | none => rw [e] at h; cases h
    | some m =>
      rw [e] at h
      cases h
      cases r with
      | cons r t =>
        rw [Ck.R.bl_inv r, rs_bools e t]; rfl
  | .non :: _, _, _, h, _ => by cases h
  | .int _ :: _, _, _, h, _ => by cases h
  | .str _ :: _, _, _, h, _ => by cases h
  | .tup _ :: _, _, _, h, _ => by cases h
  | .ctp _ :: _, _, _, h, _ => by cases h
  | .lst _ :: _, _, _, h, _ => by cases h
  | .dct _ _ :: _, _, _, h, _ => by cases h
  | .obj _ _ :: _, _, _, h, _ => by cases h
def allD : List D → Option D
  | [.lst l] => (bools l).map fun ns => .bl (ns.all id)
  | _ => none
theorem cl_all (hc : X.calm = true) : CallN X (.builtin "all") allD := by
  refine ⟨_, cr_all hc, fun G H ms vs ds d Q e ra ho q => ?_⟩
  unfold allD at ho
  split at ho
  · obtain ⟨v, rfl, hv⟩ := ra.one
    obtain ⟨a, xs, rfl, h1, h2⟩ := Vw.lst_inv e hv
    cases e2 : bools ‹List D› with
    | none => rw [e2] at ho; cases ho
    | some ns =>
      rw [e2] at ho
      cases ho
      rw [rs_bools e2 h2] at h1
      exact ⟨a, ns, rfl, h1, q_same e q rfl (.bl _)⟩
  · cases ho
/-! ### methods of built-in types -/
def MethD (X : Cx) (T id : String) (ok : D → Bool) (op : D → List D → Option D) : Prop :=
  ∃ r, MtR X id r ∧ (∀ G H x a, Same G H → Vw X.gm H G x a → ok a = true → tyV X.K T x H) ∧
    ∀ G H ms vs ds x a d Q, Same G H → Vw X.gm H G x a → ok a = true → AR X.gm H G ms vs ds → op a ds = some d → (∀ v G' H', Gr G H G' H' → PN X.gm H G' H' v d → Q v H') → r x vs H Q
def eM (ok : D → Bool) (op : D → List D → Option D) (f : ED) (h : AD) : ED := fun env => (f env).bind fun a => if ok a = true then (h env).bind fun ds => ofO (op a ds) else .stuck
@[simp] def isStr : D → Bool
  | .str _ => true
  | _ => false
@[simp] def isLst : D → Bool
  | .lst _ => true
  | _ => false
theorem ty_str {G H : Hp} {x : V} {a : D} (r : Vw X.gm H G x a) (h : isStr a = true) : tyV X.K "str" x H := by
  cases a with
  | str s => rw [r.str_inv]; rfl
  | _ => cases h
theorem ty_lst {G H : Hp} {x : V} {a : D} (e : Same G H) (r : Vw X.gm H G x a) (h : isLst a = true) : tyV X.K "list" x H := by
  cases a with
  | lst l =>
    obtain ⟨p, xs, rfl, h1, h2⟩ := Vw.lst_inv e r
    exact .inl ⟨rfl, xs, h1⟩
  | _ => cases h
theorem eM_imp {T : String} {ok : D → Bool} {op : D → List D → Option D} {f : ED} {h : AD} {ms : List Bool} {r : V → List V → Hp → VK → Prop} (ht : ∀ G H x a, Same G H → Vw X.gm H G x a → ok a = true → tyV X.K T x H)
    (k : ∀ G H ms vs ds x a d Q, Same G H → Vw X.gm H G x a → ok a = true → AR X.gm H G ms vs ds → op a ds = some d → (∀ v G' H', Gr G H G' H' → PN X.gm H G' H' v d → Q v H') → r x vs H Q) (σ : L2.St) (H : Hp) (Q : VK)
    (q : tE X.gm W (PN X.gm) (eM ok op f h) σ H Q) : tBM X.K T r (tE X.gm W (PV X.gm) f) (tA X.gm W ms h) σ H Q := by
  obtain ⟨H0, G0, G, env, s, p⟩ := q
  refine tE_bind s p fun d v G1 H1 ed gr s1 q1 => ?_
  unfold eM at p
  rw [ed] at p
  have p := p.grow PN.mono gr
  replace p : Pst X.gm W σ (PN X.gm) G1 H1 Q (if ok d = true then (h env).bind fun ds => ofO (op d ds) else .stuck) := p
  by_cases hk : ok d = true
  · rw [if_pos hk] at p
    refine ⟨ht _ _ _ _ s1.gh q1 hk, H0, G0, G1, env, s1, ?_⟩
    cases e1 : h env with
    | exc x => rw [e1] at p; exact p
    | stuck => rw [e1] at p; exact p
    | ok ds =>
      rw [e1] at p
      intro vs G2 H2 gr2 ra
      have p := p.grow PN.mono gr2
      replace p : Pst X.gm W σ (PN X.gm) G2 H2 Q (ofO (op d ds)) := p
      cases e2 : op d ds with
      | none => rw [e2] at p; exact p.elim
      | some z => rw [e2] at p; exact k G2 H2 ms vs ds v d z Q (s1.grow gr2).gh (PV.keep gr2 q1) hk ra e2 p
  · rw [if_neg hk] at p; exact p.elim
theorem cn_bm {T : String} {o e : Expr} {es : List Expr} {f : ED} {h : AD} {ms : List Bool} {name : Str} {apos cpos : Pos} {id : String} {ok : D → Bool} {op : D → List D → Option D} (pa : PlainAttrs T) (slot : PySem.Slot T name id) (hty : typeOf (.builtin id) = pure (.type "method_descriptor"))
    (hm : MethD X T id ok op) (ho : CV X W o f) (ha : CA X W (e :: es) ms h)
    (hbase : attributeBase o name X.env (eval o X.env) = eval o X.env := by rfl)
    (hfew : ((backTo cpos (starEach (e :: es) X.env)).all (fun x => !x.1) && (backToKw cpos (keywordEach [] X.env)).all (fun x => x.1.isSome)
      && decide ((e :: es).length + ([] : List Keyword).length + (if ([] : List Keyword).isEmpty then 0 else 1) < 30)) = true := by rfl)
    (hline : (apos.endLine == cpos.line) = true := by rfl) (hs : starEach (e :: es) X.env = (false, eval e X.env) :: starEach es X.env := by rfl) (hplain : (backTo cpos (starEach es X.env)).any (·.1) = false := by rfl) :
    CN X W (.Call (.Attribute o name apos) (e :: es) [] cpos) (eM ok op f h) := by
  obtain ⟨r, hr, ht, k⟩ := hm
  exact (pe_bm pa slot hty hr ho ha hbase hfew hline hs hplain).imp fun σ H Q q => eM_imp ht k σ H Q q
def strsD : List D → Option (List Str)
  | [] => some []
  | .str i :: r => (strsD r).map (i :: ·)
  | _ => none
theorem rs_strs {g : Gm} {G : Hp} : ∀ {l : List D} {ns : List Str} {vs : List V}, strsD l = some ns → Rs g G vs l → vs = ns.map V.str
  | [], ns, _, h, r => by cases h; cases r; rfl
  | .str i :: l, ns, _, h, r => by
    unfold strsD at h
    cases e : strsD l with
    | none => rw [e] at h; cases h
    | some m =>
      rw [e] at h
      cases h
      cases r with
      | cons r t =>
        rw [Ck.R.str_inv r, rs_strs e t]; rfl
  | .non :: _, _, _, h, _ => by cases h
  | .int _ :: _, _, _, h, _ => by cases h
  | .bl _ :: _, _, _, h, _ => by cases h
  | .tup _ :: _, _, _, h, _ => by cases h
  | .ctp _ :: _, _, _, h, _ => by cases h
  | .lst _ :: _, _, _, h, _ => by cases h
  | .dct _ _ :: _, _, _, h, _ => by cases h
  | .obj _ _ :: _, _, _, h, _ => by cases h
def joinD : D → List D → Option D
  | .str a, [.lst l] => (strsD l).bind fun ys => if (ys.map (·.length)).sum + ys.length * a.length ≤ 1000000 then some (.str (Txt.join a ys)) else none
  | .str a, [.tup l] => (strsD l).bind fun ys => if (ys.map (·.length)).sum + ys.length * a.length ≤ 1000000 then some (.str (Txt.join a ys)) else none
  | _, _ => none
theorem ms_join : MethD X "str" "str.join" isStr joinD := by
  refine ⟨_, mt_join, fun G H x a e r h => ty_str r h, fun G H ms vs ds x a d Q e r _ ra ho q => ?_⟩
  unfold joinD at ho
  split at ho
  · obtain ⟨ys, e1, ho⟩ := Option.bind_eq_some_iff.mp ho
    split at ho
    · rename_i hl
      cases ho
      obtain ⟨v, rfl, hv⟩ := ra.one
      obtain ⟨p, xs, rfl, h1, h2⟩ := Vw.lst_inv e hv
      rw [rs_strs e1 h2] at h1
      rw [r.str_inv]
      exact ⟨_, p, ys, rfl, rfl, .inl h1, by omega, q_same e q rfl (.str _)⟩
    · cases ho
  · obtain ⟨ys, e1, ho⟩ := Option.bind_eq_some_iff.mp ho
    split at ho
    · rename_i hl
      cases ho
      obtain ⟨v, rfl, hv⟩ := ra.one
      obtain ⟨p, xs, rfl, h1, h2⟩ := Ck.R.tup_inv hv.tup_inv
      rw [rs_strs e1 h2] at h1
      rw [r.str_inv]
      exact ⟨_, p, ys, rfl, rfl, .inr (sqT_mono e h1), by omega, q_same e q rfl (.str _)⟩
    · cases ho
  · cases ho
/-! ### d.get(k, x), d.get(k) -/
theorem isD_vw {g : Gm} {G H : Hp} (e : Same G H) {v : V} {t : Bool} {ds : List (D × D)} (r : Vw g H G v (.dct t ds)) : ∃ a, v = .ref a ∧ IsD H a := by
  obtain ⟨a, rfl, ⟨_, kvs, h1, _⟩ | ⟨_, kvs, h1, _⟩⟩ := Vw.dct_inv e r
  · exact ⟨a, rfl, .inl ⟨kvs, h1⟩⟩
  · exact ⟨a, rfl, .inr ⟨kvs, h1⟩⟩
def getD2 : D → D → D → Option D
  | .dct t kvs, k, x => if keyOk t k = true then some ((lookD kvs k).getD x) else none
  | _, _, _ => none
@[simp] def isDct : D → Bool
  | .dct _ _ => true
  | _ => false
def eGet2 (f h z : ED) : ED := fun env => (f env).bind fun d => if isDct d = true then (h env).bind fun k => (z env).bind fun x => ofO (getD2 d k x) else .stuck
theorem ce_get2 {o a b : Expr} {f h z : ED} {apos cpos : Pos} {k : Nat} (hr : Room k X.A) (ho : CV X W o f) (ha : CE X W a h) (hb : CE X W b z) (m : M2 X o "get" apos a b cpos := by exact ⟨rfl, rfl, rfl, rfl⟩) :
    CE X W (.Call (.Attribute o "get" apos) [a, b] [] cpos) (eGet2 f h z) := (pe_dget2 (hu_of hr) ho ha hb m).imp fun σ H Q ⟨H0, G0, G, env, s, p⟩ => tE_bind s p fun d v G1 H1 ed gr s1 q1 => by
  unfold eGet2 at p
  rw [ed] at p
  have p := p.grow PR.mono gr
  cases d with
  | dct t kvs =>
    replace p : Pst X.gm W σ (PR X.gm) G1 H1 Q ((h env).bind fun k => (z env).bind fun x => ofO (getD2 (.dct t kvs) k x)) := p
    obtain ⟨a, rfl, hd⟩ := isD_vw s1.gh q1
    refine ⟨a, rfl, hd, tE_bind s1 p fun d2 v2 G2 H2 ed2 gr2 s2 q2 => ?_⟩
    rw [ed2] at p
    have p := p.grow PR.mono gr2
    replace p : Pst X.gm W σ (PR X.gm) G2 H2 Q ((z env).bind fun x => ofO (getD2 (.dct t kvs) d2 x)) := p
    refine tE_bind s2 p fun d3 v3 G3 H3 ed3 gr3 s3 q3 => ?_
    rw [ed3] at p
    have p := p.grow PR.mono gr3
    replace p : Pst X.gm W σ (PR X.gm) G3 H3 Q (ofO (if keyOk t d2 = true then some ((lookD kvs d2).getD d3) else none)) := p
    by_cases hk : keyOk t d2 = true
    · rw [if_pos hk] at p
      obtain ⟨a', o, e', g1, _, g2, g3⟩ := dget s3.gh hk (PV.keep gr3 (PV.keep gr2 q1)) (R.mono gr3.g q2)
      cases e'
      refine ⟨o, g1, ?_⟩
      cases e : lookD kvs d2 with
      | none => rw [e] at p; rw [g3 e]; exact p v3 G3 H3 (.refl s3.gh) q3
      | some d => rw [e] at p; obtain ⟨w, rfl, rw'⟩ := g2 d e; exact p w G3 H3 (.refl s3.gh) rw'
    · rw [if_neg hk] at p; exact p.elim
  | _ => exact p.elim
def getD1 : D → D → Option D
  | .dct t kvs, k => if keyOk t k = true then some ((lookD kvs k).getD .non) else none
  | _, _ => none
def eGet1 (f h : ED) : ED := fun env => (f env).bind fun d => if isDct d = true then (h env).bind fun k => ofO (getD1 d k) else .stuck
theorem ce_get1 {o a : Expr} {f h : ED} {apos cpos : Pos} {k : Nat} (hr : Room k X.A) (ho : CV X W o f) (ha : CE X W a h) (m : M1 X o "get" apos a cpos := by exact ⟨rfl, rfl, rfl, rfl⟩) :
    CE X W (.Call (.Attribute o "get" apos) [a] [] cpos) (eGet1 f h) := (pe_dget1 (hu_of hr) ho ha m).imp fun σ H Q ⟨H0, G0, G, env, s, p⟩ => tE_bind s p fun d v G1 H1 ed gr s1 q1 => by
  unfold eGet1 at p
  rw [ed] at p
  have p := p.grow PR.mono gr
  cases d with
  | dct t kvs =>
    replace p : Pst X.gm W σ (PR X.gm) G1 H1 Q ((h env).bind fun k => ofO (getD1 (.dct t kvs) k)) := p
    obtain ⟨a, rfl, hd⟩ := isD_vw s1.gh q1
    refine ⟨a, rfl, hd, tE_bind s1 p fun d2 v2 G2 H2 ed2 gr2 s2 q2 => ?_⟩
    rw [ed2] at p
    have p := p.grow PR.mono gr2
    replace p : Pst X.gm W σ (PR X.gm) G2 H2 Q (ofO (if keyOk t d2 = true then some ((lookD kvs d2).getD .non) else none)) := p
    by_cases hk : keyOk t d2 = true
    · rw [if_pos hk] at p
      obtain ⟨a', o, e', g1, _, g2, g3⟩ := dget s2.gh hk (PV.keep gr2 q1) q2
      cases e'
      refine ⟨o, g1, ?_⟩
      cases e : lookD kvs d2 with
      | none => rw [e] at p; rw [g3 e]; exact p _ G2 H2 (.refl s2.gh) .non
      | some d => rw [e] at p; obtain ⟨w, rfl, rw'⟩ := g2 d e; exact p w G2 H2 (.refl s2.gh) rw'
    · rw [if_neg hk] at p; exact p.elim
  | _ => exact p.elim

/-! ### stores into one's own lists and dicts -/
def updO (i : Nat) (env : EnvD) (f : D → Option D) : Out := match env[i]? with
  | some (.own d) => (match f d with
    | some d' => .nx (env.set i (.own d'))
    | none => .stuck)
  | _ => .stuck
theorem updO_own {g : Gm} {H0 G0 G H : Hp} {σ : L2.St} {D : Ends} {i : Nat} {env : EnvD} {f : Ck.D → Option Ck.D} (s : SR g H0 G0 G H σ env) (p : PstS g W P H0 G0 G D (updO i env f)) :
    ∃ d d' a, env[i]? = some (.own d) ∧ f d = some d' ∧ σ[i]? = some (some (.ref a)) ∧ G a = none ∧ Ow g H G a d ∧ ∀ o, Ow g (upd H a o) G a d' → D.nx σ (upd H a o) := by
  unfold updO at p
  cases e : env[i]? with
  | none => rw [e] at p; exact p.elim
  | some sl =>
    rw [e] at p
    cases sl with
    | own d =>
      obtain ⟨a, e1, e2, e3, e4⟩ := s.slot i _ e
      dsimp only at p
      cases e5 : f d with
      | none => rw [e5] at p; exact p.elim
      | some d' =>
        rw [e5] at p
        exact ⟨d, d', a, rfl, e5, e1, e2, e4, fun o ow => p σ G _ (.refl _) (s.mut e e1 ow)⟩
    | _ => exact p.elim
/-- x.append(e), x one's own -/
def appD (y : D) : D → Option D
  | .lst l => if l.length ≤ 1000000 then some (.lst (l ++ [y])) else none
  | _ => none
def ownL : EnvD → Nat → Bool := fun env i => match env[i]? with
  | some (.own (.lst _)) => true
  | _ => false
def sApp (i : Nat) (f : ED) : SD := fun env => if ownL env i = true then outE (f env) env fun y => updO i env (appD y) else .stuck
theorem ownL_of {g : Gm} {H0 G0 G H : Hp} {σ : L2.St} {i : Nat} {env : EnvD} (s : SR g H0 G0 G H σ env) (h : ownL env i = true) : ∃ a xs, σ[i]? = some (some (.ref a)) ∧ H a = some (.lst xs) := by
  unfold ownL at h
  split at h
  · rename_i e
    obtain ⟨a, e1, _, _, e4⟩ := s.slot i _ e
    cases e4 with
    | lst h1 _ => exact ⟨a, _, e1, h1⟩
  · cases h
theorem cs_app (i : Nat) {x : Str} {e : Expr} {f : ED} {xpos apos cpos pos : Pos} (he : CE X W e f) (hN : X.N[i]? = some x := by rfl) (hv : Vis X.env.scope x := by first | exact Or.inl rfl | exact Or.inr (Or.inl rfl) | exact Or.inr (Or.inr rfl)) (hd : (x == ("__debug__" : Str)) = false := by decide)
    (hcd : (x == ("__classdict__" : Str)) = false := by decide)
    (hbase : attributeBase (.Name x xpos) "append" X.env (eval (.Name x xpos) X.env) = eval (.Name x xpos) X.env := by rfl)
    (hfew : ((backTo cpos (starEach [e] X.env)).all (fun x => !x.1) && (backToKw cpos (keywordEach [] X.env)).all (fun x => x.1.isSome)
      && decide ([e].length + ([] : List Keyword).length + (if ([] : List Keyword).isEmpty then 0 else 1) < 30)) = true := by rfl)
    (hline : (apos.endLine == cpos.line) = true := by rfl) (hs : starEach [e] X.env = (false, eval e X.env) :: starEach [] X.env := by rfl) (hplain : (backTo cpos (starEach [] X.env)).any (·.1) = false := by rfl)
    (hsw : swapsWith (.Call (.Attribute (.Name x xpos) "append" apos) [e] [] cpos) none pos.line X.env = pure false := by rfl) :
    CS X W P (.Expr (.Call (.Attribute (.Name x xpos) "append" apos) [e] [] cpos) pos) (sApp i f) :=
  (ps_expr (pe_bm PySem.F.plainAttrs_list PySem.F.slot_list_append PySem.F.type_list_append mt_append (pe_var hN hv hd hcd) (pa_cons he pa_nil hs) hbase hfew hline hs hplain) hsw).imp fun D σ H ⟨H0, G0, G, env, s, p⟩ => by
    unfold sApp at p
    by_cases ho : ownL env i = true
    · rw [if_pos ho] at p
      obtain ⟨a, xs, e1, h1⟩ := ownL_of s ho
      refine ⟨.ref a, e1, .inl ⟨rfl, xs, .of h1⟩, tE_out s p fun d v G1 H1 gr s1 q1 p1 => ?_⟩
      obtain ⟨d0, d', a', k1, k2, k3, k4, k5, k6⟩ := updO_own s1 p1
      rw [e1] at k3
      cases k3
      unfold appD at k2
      split at k2
      · split at k2
        · rename_i hl
          cases k2
          cases k5 with
          | lst z1 z2 =>
            exact ⟨a, _, v, rfl, rfl, z1, line_lt (by rw [z2.length]; exact hl), k6 _ (.lst upd_same (z2.append (.cons q1 .nil)))⟩
        · cases k2
      · cases k2
    · rw [if_neg ho] at p; exact p.elim
/-- x.extend(e), e new -/
def extD (y : D) : D → Option D
  | .lst l => (match y with
    | .lst m => if l.length + m.length ≤ 1000000 then some (.lst (l ++ m)) else none
    | _ => none)
  | _ => none
def sExt (i : Nat) (f : ED) : SD := fun env => if ownL env i = true then outE (f env) env fun y => updO i env (extD y) else .stuck
/-- x.clear() of a list, x one's own -/
def sClearL (i : Nat) : SD := fun env => if ownL env i = true then updO i env (fun _ => some (.lst [])) else .stuck
theorem cs_clearL (i : Nat) {x : Str} {xpos apos cpos pos : Pos} (hN : X.N[i]? = some x := by rfl) (hv : Vis X.env.scope x := by first | exact Or.inl rfl | exact Or.inr (Or.inl rfl) | exact Or.inr (Or.inr rfl)) (hd : (x == ("__debug__" : Str)) = false := by decide)
    (hcd : (x == ("__classdict__" : Str)) = false := by decide)
    (hbase : attributeBase (.Name x xpos) "clear" X.env (eval (.Name x xpos) X.env) = eval (.Name x xpos) X.env := by rfl) (hline : (apos.endLine == cpos.line) = true := by rfl)
    (hsw : swapsWith (.Call (.Attribute (.Name x xpos) "clear" apos) [] [] cpos) none pos.line X.env = pure false := by rfl) :
    CS X W P (.Expr (.Call (.Attribute (.Name x xpos) "clear" apos) [] [] cpos) pos) (sClearL i) :=
  (ps_expr (pe_bm0 PySem.F.plainAttrs_list PySem.F.slot_list_clear PySem.F.type_list_clear mt_clear (pe_var hN hv hd hcd) hbase hline) hsw).imp fun D σ H ⟨H0, G0, G, env, s, p⟩ => by
    unfold sClearL at p
    by_cases ho : ownL env i = true
    · rw [if_pos ho] at p
      obtain ⟨a, xs, e1, h1⟩ := ownL_of s ho
      obtain ⟨d0, d', a', k1, k2, k3, k4, k5, k6⟩ := updO_own s p
      rw [e1] at k3
      cases k3
      cases k2
      exact ⟨.ref a, e1, .inl ⟨rfl, xs, .of h1⟩, a, xs, rfl, rfl, h1, k6 _ (.lst upd_same .nil)⟩
    · rw [if_neg ho] at p; exact p.elim
/-- x.clear() of a dict, x one's own -/
def ownK : EnvD → Nat → Bool := fun env i => match env[i]? with
  | some (.own (.dct false _)) => true
  | _ => false
def sClearD (i : Nat) : SD := fun env => if ownK env i = true then updO i env (fun _ => some (.dct false [])) else .stuck
/-- d[k] = e, d one's own -/
def putD (kvs : List (D × D)) (k v : D) : List (D × D) := if (kvs.any fun p => decide (p.1 = k)) = true then kvs.map (fun p => if p.1 = k then (p.1, v) else p) else kvs ++ [(k, v)]
def dputD (k v : D) : D → Option D
  | .dct t kvs => if keyOk t k = true ∧ kvs.length ≤ 1000000 then some (.dct t (putD kvs k v)) else none
  | _ => none
def ownD : EnvD → Nat → Bool := fun env i => match env[i]? with
  | some (.own (.dct _ _)) => true
  | _ => false
def sPutD (i : Nat) (fk fv : ED) : SD := fun env => outE (fv env) env fun v => if ownD env i = true then outE (fk env) env fun k => updO i env (dputD k v) else .stuck
theorem RK.len {g : Gm} {G : Hp} : ∀ {kvs : List (Key × V)} {ds : List (D × D)}, RK g G kvs ds → kvs.length = ds.length
  | _, _, .nil => rfl
  | _, _, .cons _ t => congrArg (· + 1) (RK.len t)
theorem RT.len {g : Gm} {G : Hp} : ∀ {kvs : List (List Key × V)} {ds : List (D × D)}, RT g G kvs ds → kvs.length = ds.length
  | _, _, .nil => rfl
  | _, _, .cons _ t => congrArg (· + 1) (RT.len t)
theorem RK.anyk {g : Gm} {G : Hp} {k : Key} : ∀ {kvs : List (Key × V)} {ds : List (D × D)}, RK g G kvs ds → (ds.any fun p => decide (p.1 = keyD k)) = (kvs.any fun p => decide (p.1 = k))
  | _, _, .nil => rfl
  | _, _, .cons (k := k0) _ t => by
    rw [List.any_cons, List.any_cons, RK.anyk t]
    by_cases e : k0 = k
    · subst e; simp
    · have e' : ¬ keyD k0 = keyD k := fun z => e (keyD_inj z)
      simp [e, e']
theorem RK.mapk {g : Gm} {G : Hp} {k : Key} {v : V} {d : D} (r : R g G v d) : ∀ {kvs : List (Key × V)} {ds : List (D × D)}, RK g G kvs ds → RK g G (kvs.map fun kv => if kv.1 = k then (kv.1, v) else kv) (ds.map fun p => if p.1 = keyD k then (p.1, d) else p)
  | _, _, .nil => .nil
  | _, _, .cons (k := k0) r0 t => by
    rw [List.map_cons, List.map_cons]
    by_cases e : k0 = k
    · subst e
      simp only [if_pos]
      exact .cons r (RK.mapk r t)
    · have e' : ¬ keyD k0 = keyD k := fun z => e (keyD_inj z)
      simp only [if_neg e, if_neg e']
      exact .cons r0 (RK.mapk r t)
theorem RK.app {g : Gm} {G : Hp} {k : Key} {v : V} {d : D} (r : R g G v d) : ∀ {kvs : List (Key × V)} {ds : List (D × D)}, RK g G kvs ds → RK g G (kvs ++ [(k, v)]) (ds ++ [(keyD k, d)])
  | _, _, .nil => .cons r .nil
  | _, _, .cons r0 t => .cons r0 (RK.app r t)
theorem RK.put {g : Gm} {G : Hp} {k : Key} {v : V} {d : D} (r : R g G v d) {kvs : List (Key × V)} {ds : List (D × D)} (t : RK g G kvs ds) : RK g G (putK kvs k v) (putD ds (keyD k) d) := by
  unfold putK putD
  rw [t.anyk]
  by_cases h : (kvs.any fun p => decide (p.1 = k)) = true
  · rw [if_pos h, if_pos h]; exact t.mapk r
  · rw [if_neg h, if_neg h]; exact t.app r
theorem RT.anyk {g : Gm} {G : Hp} {k : List Key} : ∀ {kvs : List (List Key × V)} {ds : List (D × D)}, RT g G kvs ds → (ds.any fun p => decide (p.1 = .tup (k.map keyD))) = (kvs.any fun p => decide (p.1 = k))
  | _, _, .nil => rfl
  | _, _, .cons (k := k0) _ t => by
    rw [List.any_cons, List.any_cons, RT.anyk t]
    by_cases e : k0 = k
    · subst e; simp
    · have e' : ¬ (D.tup (k0.map keyD)) = .tup (k.map keyD) := fun z => e (keysD_inj (D.tup.inj z))
      simp only [decide_eq_false e, decide_eq_false e']
theorem RT.mapk {g : Gm} {G : Hp} {k : List Key} {v : V} {d : D} (r : R g G v d) : ∀ {kvs : List (List Key × V)} {ds : List (D × D)}, RT g G kvs ds → RT g G (kvs.map fun kv => if kv.1 = k then (kv.1, v) else kv) (ds.map fun p => if p.1 = .tup (k.map keyD) then (p.1, d) else p)
  | _, _, .nil => .nil
  | _, _, .cons (k := k0) r0 t => by
    rw [List.map_cons, List.map_cons]
    by_cases e : k0 = k
    · subst e
      simp only [if_pos]
      exact .cons r (RT.mapk r t)
    · have e' : ¬ (D.tup (k0.map keyD)) = .tup (k.map keyD) := fun z => e (keysD_inj (D.tup.inj z))
      simp only [if_neg e, if_neg e']
      exact .cons r0 (RT.mapk r t)
theorem RT.app {g : Gm} {G : Hp} {k : List Key} {v : V} {d : D} (r : R g G v d) : ∀ {kvs : List (List Key × V)} {ds : List (D × D)}, RT g G kvs ds → RT g G (kvs ++ [(k, v)]) (ds ++ [(.tup (k.map keyD), d)])
  | _, _, .nil => .cons r .nil
  | _, _, .cons r0 t => .cons r0 (RT.app r t)
theorem RT.put {g : Gm} {G : Hp} {k : List Key} {v : V} {d : D} (r : R g G v d) {kvs : List (List Key × V)} {ds : List (D × D)} (t : RT g G kvs ds) : RT g G (putK kvs k v) (putD ds (.tup (k.map keyD)) d) := by
  unfold putK putD
  rw [t.anyk]
  by_cases h : (kvs.any fun p => decide (p.1 = k)) = true
  · rw [if_pos h, if_pos h]; exact t.mapk r
  · rw [if_neg h, if_neg h]; exact t.app r
theorem cs_dput (i : Nat) {x : Str} {a e : Expr} {fk fv : ED} {xpos spos pos : Pos} {k : Nat} (hr : Room k X.A) (ha : CE X W a fk) (he : CE X W e fv) (hN : X.N[i]? = some x := by rfl) (hv : Vis X.env.scope x := by first | exact Or.inl rfl | exact Or.inr (Or.inl rfl) | exact Or.inr (Or.inr rfl)) (hd : (x == ("__debug__" : Str)) = false := by decide)
    (hcd : (x == ("__classdict__" : Str)) = false := by decide) (hs : swapsWith e (some (.Subscript (.Name x xpos) a spos)) pos.line X.env = pure false := by rfl) :
    CS X W P (.Assign [.Subscript (.Name x xpos) a spos] e pos) (sPutD i fk fv) := (ps_dput (hu_of hr) (pe_var hN hv hd hcd) ha he hs).imp fun D σ H ⟨H0, G0, G, env, s, p⟩ => by
  refine tE_out s p fun d v G1 H1 gr s1 q1 p1 => ?_
  by_cases ho : ownD env i = true
  · rw [if_pos ho] at p1
    have hs1 : ∃ a, σ[i]? = some (some (.ref a)) := by
      unfold ownD at ho
      split at ho
      · rename_i e
        obtain ⟨a, e1, _⟩ := s1.slot i _ e
        exact ⟨a, e1⟩
      · cases ho
    obtain ⟨a, e1⟩ := hs1
    refine ⟨.ref a, e1, tE_out s1 p1 fun d2 v2 G2 H2 gr2 s2 q2 p2 => ?_⟩
    obtain ⟨d0, d', a', k1, k2, k3, k4, k5, k6⟩ := updO_own s2 p2
    rw [e1] at k3
    cases k3
    have q1 := R.mono gr2.g q1
    unfold dputD at k2
    split at k2
    · split at k2
      · rename_i hk
        cases k2
        cases k5 with
        | dk z1 z2 =>
          obtain ⟨kk, rfl, rfl⟩ := key_k hk.1 q2
          exact ⟨a, _, rfl, .inl ⟨_, kk, z1, rfl, line_lt (by rw [z2.len]; exact hk.2), rfl⟩, k6 _ (.dk upd_same (z2.put q1))⟩
        | dt z1 z2 =>
          obtain ⟨ks, b, rfl, rfl, hb⟩ := key_t hk.1 q2
          exact ⟨a, _, rfl, .inr ⟨_, ks, b, z1, rfl, s2.gh _ _ hb, line_lt (by rw [z2.len]; exact hk.2), rfl⟩, k6 _ (.dt upd_same (z2.put q1))⟩
      · cases k2
    · cases k2
  · rw [if_neg ho] at p1; exact p1.elim
/-! ### raise X('..'), X an own class over ValueError without __init__ -/
def sRaise (x : Str) : SD := fun env => .exc ⟨x, []⟩ env
theorem cs_raise {x m : Str} {C : Addr} {j : Nat} {p p2 cpos pos : Pos} {bmB : List Value} {B newId initId : String} (tk : L2N.Takes X W) (F : ExcBaseFacts B newId initId bmB) (q : PySem.W.excIn X.K C bmB newId = true) (gC : X.mg x = some (.ref C)) (kC : PySem.W.keepIn X.K (.ref C) = true) (r : Raises X (.ref C)) (hg : Gl X x := by rfl)
    (hdb : (x == ("__debug__" : Str)) = false := by decide) (hc : X.calm = true := by rfl) : CS X W P (.Raise (some (.Call (.Name x p) [.Constant (.str m) j p2] [] cpos)) none pos) (sRaise x) :=
  (L2N.ps_raise hc tk (L2N.pmk_own F q gC kC r hg hdb)).imp fun D σ H ⟨H0, G0, G, env, s, pp⟩ => pp σ (.ref C) none G H (.refl _) s ⟨C, gC, rfl, .inl ⟨rfl, rfl⟩⟩
end
end Ck

namespace Ck
open PySem PySem.Spec L2 RZ

/-! ### sorting, plain -/
section
variable {α : Type}
def ins (lt : α → α → Bool) (x : α) : List α → List α
  | [] => [x]
  | y :: r => if lt y x = true then y :: ins lt x r else x :: y :: r
def srt (lt : α → α → Bool) : List α → List α
  | [] => []
  | x :: r => ins lt x (srt lt r)
theorem ins_perm (lt : α → α → Bool) (x : α) : ∀ l : List α, (ins lt x l).Perm (x :: l)
  | [] => .refl _
  | y :: r => by
    unfold ins
    split
    · exact ((ins_perm lt x r).cons y).trans (.swap x y r)
    · exact .refl _
theorem srt_perm (lt : α → α → Bool) : ∀ l : List α, (srt lt l).Perm l
  | [] => .refl _
  | x :: r => (ins_perm lt x _).trans ((srt_perm lt r).cons x)
/-- lt is a strict order, total on the members P -/
structure Tot (lt : α → α → Bool) (P : α → Prop) : Prop where
  asym : ∀ x y, P x → P y → lt x y = true → lt y x = false
  tr : ∀ x y z, P x → P y → P z → lt y x = false → lt z y = false → lt z x = false
  eq : ∀ x y, P x → P y → lt x y = false → lt y x = false → x = y
theorem ins_sorted {lt : α → α → Bool} {P : α → Prop} (T : Tot lt P) {x : α} (hx : P x) : ∀ {l : List α}, (∀ y ∈ l, P y) → l.Pairwise (fun a b => lt b a = false) → (ins lt x l).Pairwise (fun a b => lt b a = false)
  | [], _, _ => List.pairwise_singleton _ _
  | y :: r, hP, h => by
    obtain ⟨h1, h2⟩ := List.pairwise_cons.mp h
    have py := hP y List.mem_cons_self
    unfold ins
    split
    · rename_i e
      refine List.pairwise_cons.mpr ⟨fun z hz => ?_, ins_sorted T hx (fun z hz => hP z (List.mem_cons_of_mem _ hz)) h2⟩
      rcases List.mem_cons.mp ((ins_perm lt x r).mem_iff.mp hz) with rfl | hz
      · exact T.asym _ _ py hx e
      · exact h1 z hz
    · rename_i e
      have e' : lt y x = false := by cases h : lt y x <;> simp_all
      refine List.pairwise_cons.mpr ⟨fun z hz => ?_, h⟩
      rcases List.mem_cons.mp hz with rfl | hz
      · exact e'
      · exact T.tr _ _ _ hx py (hP z (List.mem_cons_of_mem _ hz)) e' (h1 z hz)
theorem srt_sorted {lt : α → α → Bool} {P : α → Prop} (T : Tot lt P) : ∀ {l : List α}, (∀ y ∈ l, P y) → (srt lt l).Pairwise (fun a b => lt b a = false)
  | [], _ => .nil
  | x :: r, h => ins_sorted T (h x List.mem_cons_self) (fun y hy => h y (List.mem_cons_of_mem _ ((srt_perm lt r).mem_iff.mp hy))) (srt_sorted T fun y hy => h y (List.mem_cons_of_mem _ hy))
theorem sorted_one {lt : α → α → Bool} {P : α → Prop} (T : Tot lt P) : ∀ {l m : List α}, (∀ y ∈ l, P y) → l.Perm m → l.Pairwise (fun a b => lt b a = false) → m.Pairwise (fun a b => lt b a = false) → l = m
  | [], m, _, h, _, _ => by rw [List.nil_perm.mp h]
  | x :: l, [], _, h, _, _ => by exact absurd h.length_eq (by simp)
  | x :: l, y :: m, hP, h, h1, h2 => by
    obtain ⟨a1, a2⟩ := List.pairwise_cons.mp h1
    obtain ⟨b1, b2⟩ := List.pairwise_cons.mp h2
    have hx : x ∈ y :: m := h.mem_iff.mp List.mem_cons_self
    have hy : y ∈ x :: l := h.mem_iff.mpr List.mem_cons_self
    have e : x = y := by
      rcases List.mem_cons.mp hx with e | hx'
      · exact e
      · rcases List.mem_cons.mp hy with e | hy'
        · exact e.symm
        · exact T.eq _ _ (hP x List.mem_cons_self) (hP y hy) (b1 x hx') (a1 y hy')
    subst e
    rw [sorted_one T (fun z hz => hP z (List.mem_cons_of_mem _ hz)) h.cons_inv a2 b2]
theorem srt_eq {lt : α → α → Bool} {P : α → Prop} (T : Tot lt P) {l m : List α} (hP : ∀ y ∈ m, P y) (h : l.Perm m) (h1 : l.Pairwise (fun a b => lt b a = false)) : l = srt lt m :=
  sorted_one T (fun y hy => hP y (h.mem_iff.mp hy)) (h.trans (srt_perm lt m).symm) h1 (srt_sorted T hP)
end
def ltStr (a b : Str) : Bool := decide (a.cps.toList < b.cps.toList)
theorem tot_str : Tot ltStr fun _ => True := by
  refine ⟨fun x y _ _ h => ?_, fun x y z _ _ _ h1 h2 => ?_, fun x y _ _ h1 h2 => ?_⟩
  · exact decide_eq_false (List.lt_asymm (of_decide_eq_true h))
  · have a := of_decide_eq_false h1
    have b := of_decide_eq_false h2
    exact decide_eq_false (fun c => (List.le_trans (List.not_lt.mp a) (List.not_lt.mp b) : _ ) c)
  · have a := of_decide_eq_false h1
    have b := of_decide_eq_false h2
    have e := List.le_antisymm (List.not_lt.mp b) (List.not_lt.mp a)
    obtain ⟨⟨x⟩⟩ := x
    obtain ⟨⟨y⟩⟩ := y
    cases e
    rfl

/-! ### sorted(..) of texts, any number of them -/
def sv : Value → Str
  | .str x _ => x
  | _ => ⟨#[]⟩
theorem swo_str : SrtO.Swo fun v u => ltStr (sv v) (sv u) :=
  ⟨fun x y h => tot_str.asym _ _ trivial trivial h, fun x y z h1 h2 => tot_str.tr _ _ _ trivial trivial trivial h1 h2⟩
section
variable {prog : Program} {w : World} {A : Around} {E : Value → Shared → Prop} {s : Shared}
theorem strs_mem : ∀ {vs : List Value} {ns : List Str}, PyProof.Rows.StrsAre vs ns → ∀ v ∈ vs, ∃ i t, v = Value.str i t
  | _, _, .nil, v, h => absurd h (by simp)
  | _, _, .cons n t r, v, h => by
    rcases List.mem_cons.mp h with e | h
    · exact ⟨n, t, e⟩
    · exact strs_mem r v h
theorem strs_sv : ∀ {vs : List Value}, (∀ v ∈ vs, ∃ i t, v = Value.str i t) → PyProof.Rows.StrsAre vs (vs.map sv)
  | [], _ => .nil
  | v :: vs, h => by
    obtain ⟨i, t, e⟩ := h v List.mem_cons_self
    subst e
    exact .cons i t (strs_sv fun u hu => h u (List.mem_cons_of_mem _ hu))
theorem sv_strs : ∀ {vs : List Value} {ns : List Str}, PyProof.Rows.StrsAre vs ns → vs.map sv = ns
  | _, _, .nil => rfl
  | _, _, .cons n t r => congrArg (n :: ·) (sv_strs r)
theorem str_cmp {vs : List Value} {ns : List Str} (hI : PyProof.Rows.StrsAre vs ns) : SrtO.Cmp prog w A s PyProof.Rows.oneType' (fun p => p.1 ∈ vs) (SrtO.lt2 fun v u => ltStr (sv v) (sv u)) := by
  intro p q hm hm'
  obtain ⟨a, t, e⟩ := strs_mem hI _ hm
  obtain ⟨b, u, e'⟩ := strs_mem hI _ hm'
  show wpAny (model prog w) A (PyProof.Rows.keyLt' PyProof.Rows.oneType' p.1 q.1) (fun r s' => s' = s ∧ r = ltStr (sv p.1) (sv q.1)) (fun _ _ => False) s
  rw [e, e', PyProof.Rows.keyLt'_oneType]
  exact PyProof.Rows.oneLt_str ⟨rfl, rfl⟩
theorem strs_sortable {a : Addr} {vs : List Value} {ns : List Str} (hI : PyProof.Rows.StrsAre vs ns) (h2 : 2 ≤ vs.length) : SrtO.SortableO prog w A s a vs fun v u => ltStr (sv v) (sv u) := by
  intro h' _
  refine ⟨PyProof.Rows.oneType', fun Q E hq => ?_, str_cmp hI⟩
  match vs, hI, h2 with
  | v1 :: v2 :: rest, hI, _ =>
    rw [PyProof.Rows.keyKind_strs hI]
    exact wpAny_pure hq
  | [], _, h => exact absurd h (by decide)
  | [v], _, h => exact absurd h (by simp)
theorem strs_out {vs out : List Value} {ns : List Str} (hI : PyProof.Rows.StrsAre vs ns) (hs : SrtO.Srtd (fun v u => ltStr (sv v) (sv u)) out) (hb : SrtO.Stb (fun v u => ltStr (sv v) (sv u)) out vs) : PyProof.Rows.StrsAre out (srt ltStr ns) := by
  have h1 := strs_sv fun v hv => strs_mem hI v (hb.perm.mem_iff.mp hv)
  have q := hb.perm.map sv
  rw [sv_strs hI] at q
  rw [srt_eq tot_str (fun _ _ => trivial) q (List.pairwise_map.mpr hs)] at h1
  exact h1
end
section
variable {X : Cx} {pins : List (Addr × Obj)} {σ : L2.St} {H : Hp} {s : Shared}
/-- behind the collecting of texts -/
theorem sorted_col {u : Value} {zs : List Str} (hz : zs.length ≤ 1000000) {Q : VK} (q : ∀ p, H p = none → Q (.ref p) (upd H p (.lst ((srt ltStr zs).map V.str))))
    (col : ∀ R : List Value → Shared → Prop, (∀ (s' : Shared) (acc : List Value), Inv X pins σ H s' → PyProof.Rows.StrsAre acc zs → R acc s') → wpAny (model X.prog X.w) X.A.in1 (collect u) R X.xe s) :
    wpAny (model X.prog X.w) X.A (call (.builtin "sorted") [u]) (EP X pins σ Q) X.xe s := by
  refine Calls.call_function_entry PyProof.Rows.kind_sorted PyProof.Rows.plain_sorted PyProof.Rows.entry_sorted (PyProof.Rows.args_sorted1 _) ?_
  unfold Builtin.«sorted»
  refine wpAny_bind (m := checkCount "sorted" 1 1 _) (wpAny_pure ?_)
  refine wpAny_bind (col _ fun s' acc I1 hS => ?_)
  obtain ⟨h', g', d', tk, os'⟩ := s'
  have hal : acc.length = zs.length := by
    have := congrArg List.length (sv_strs hS)
    rw [List.length_map] at this
    exact this
  have hal2 : acc.length ≤ sizeLine := line_of (by rw [hal]; exact hz)
  refine wpAny_bind (wpAny_newList ?_ hal2)
  have hoL : (h'.push (PyProof.Rows.seqObj "list" acc.toArray 0)).get? h'.objs.size = some (PyProof.Rows.seqObj "list" acc.toArray 0) := Heap.get?_push_size _ rfl
  show wpAny _ _ _ _ _ (⟨h'.push (PyProof.Rows.seqObj "list" acc.toArray 0), g', d', tk, os'⟩ : Shared)
  refine wpAny_bind (wpAny_holding (wpAny_call_entry PyProof.Rows.slot_list_sort ⟨_, hoL, rfl⟩ PyProof.Rows.entry_list_sort
    (SrtO.list_sort_ord swo_str hoL hal2 (fun h2 => strs_sortable hS h2) fun out h1 h2 => ⟨_, rfl, ?_⟩) (PyProof.Rows.args_list_sort _)))
  have g1 := strs_out hS h1 h2
  obtain ⟨e', he'⟩ := PyProof.Rows.sortedHeap_at (vs := acc) (out := out.toArray) hoL
  have hlen : ((srt ltStr zs).map V.str).length ≤ sizeLine := by
    rw [List.length_map, (srt_perm ltStr zs).length_eq]
    exact line_of hz
  refine wpAny_pure ⟨_, rfl, .ref h'.objs.size, upd H h'.objs.size (.lst ((srt ltStr zs).map V.str)), I1.laid (t' := tk) (fun b u e => ?_) (Nat.le_refl _)
    (show ObjOk X.prog X.w _ _ _ (.lst ((srt ltStr zs).map V.str)) from ⟨hlen, out, e', vals_of_strs g1, he'⟩), rfl, q _ (I1.hok.fresh (Nat.le_refl _))⟩
  have hb : b < h'.objs.size := Heap.lt_size e
  rw [PyProof.Rows.sortedHeap_old (Nat.ne_of_lt hb) (by rw [PyProof.Rows.size_push']; exact Nat.lt_succ_of_lt hb)]
  exact Heap.get?_push_of_some _ e
theorem col_str {z : Str} {t : Tok} (hc : X.calm = true) (I : Inv X pins σ H s) (hz : z.length ≤ 1000000) : ∀ R : List Value → Shared → Prop,
    (∀ (s' : Shared) (acc : List Value), Inv X pins σ H s' → PyProof.Rows.StrsAre acc (z.cps.toList.map fun c => (⟨#[c]⟩ : Str)) → R acc s') → wpAny (model X.prog X.w) X.A.in1 (collect (.str z t)) R X.xe s := fun R h => by
  refine wpAny_collect_str (A := X.A.in1) (show X.A.in1.handled = none from I.ok.hd hc) z t (fun s' acc hk hg hd ho hi => ?_) (line_of hz)
  obtain ⟨h', g', d', tk, os'⟩ := s'
  cases hg
  cases hd
  cases ho
  refine h _ _ (I.kept (t' := tk) hk) (strs_at (by rw [Array.length_toList, hi.1]; simp) fun j v e => ?_)
  obtain ⟨c, u, e1, e2⟩ := hi.2 j v (by rw [← Array.getElem?_toList]; exact e)
  refine ⟨⟨#[c]⟩, u, ?_, e2⟩
  rw [List.getElem?_map, Array.getElem?_toList, e1]
  rfl
theorem col_seq {a : Addr} {zs : List Str} {T : String} {o : Obj} {its : Array Value} {n : Nat} (hT : T = "list" ∨ T = "tuple") (I : Inv X pins σ H s) (ho : s.heap.get? a = some o) (hc : o.cls = .type T) (hd : o.data = .seq its n) (hS : PyProof.Rows.StrsAre its.toList zs) (hz : its.size ≤ sizeLine) :
    ∀ R : List Value → Shared → Prop, (∀ (s' : Shared) (acc : List Value), Inv X pins σ H s' → PyProof.Rows.StrsAre acc zs → R acc s') → wpAny (model X.prog X.w) X.A.in1 (collect (.ref a)) R X.xe s := fun R h =>
  wpAny_collect_seq a hT ho hc hd (fun h' hk => h _ _ (I.kept (t' := s.toks) hk) hS) hz
theorem col_dict {a : Addr} {kvs : List (Key × V)} {ks : List Str} (hcalm : X.calm = true) (I : Inv X pins σ H s) (hd : Rd H a (.dK kvs)) (hks : kvs.map (·.1) = ks.map Sum.inr) :
    ∀ R : List Value → Shared → Prop, (∀ (s' : Shared) (acc : List Value), Inv X pins σ H s' → PyProof.Rows.StrsAre acc ks → R acc s') → wpAny (model X.prog X.w) X.A.in1 (collect (.ref a)) R X.xe s := fun R h => by
  obtain ⟨z, lo, vs, rel, dd⟩ := dk_rd I.hok hd
  obtain ⟨ep, hat⟩ := dd.dictAt
  have hkeys : vs.map (·.1) = ks.map Sum.inr := rel.keys.symm.trans hks
  have hl : vs.length = ks.length := by
    have e := congrArg List.length hkeys
    rw [List.length_map, List.length_map] at e
    exact e
  have hl2 : vs.length = kvs.length := by
    have e := congrArg List.length rel.keys
    rw [List.length_map, List.length_map] at e
    exact e.symm
  refine PySem.W.kdu_collect (A := X.A.in1) (PySem.W.kdl_dict (knd := mixKind X.prog X.w) (kvs := vs) (ep := ep) lo) (I.ok.hd hcalm) hat (by rw [hl2]; exact z) fun h' tk acc hk hacc => ?_
  refine h _ _ (I.kept (t' := tk) hk) (strs_at (by rw [Array.length_toList, hacc.1, hl]) fun j v e => ?_)
  obtain ⟨k, x, e1, e2⟩ := hacc.2 j v (by rw [← Array.getElem?_toList]; exact e)
  have e3 : (vs.map (·.1))[j]? = some k := by rw [List.getElem?_map, e1]; all_goals rfl
  rw [hkeys, List.getElem?_map] at e3
  cases e4 : ks[j]? with
  | none => rw [e4] at e3; cases e3
  | some y =>
    rw [e4] at e3
    have e5 : Sum.inr y = k := Option.some.inj e3
    subst e5
    obtain ⟨t, ev⟩ := Value.isStrOf_shape (x := y) (v := v) e2
    exact ⟨y, t, rfl, ev⟩
end
/-! ### sorted of data -/
def ltInt (a b : Int) : Bool := decide (a < b)
theorem tot_int : Tot ltInt fun _ => True := by
  refine ⟨fun x y _ _ h => ?_, fun x y z _ _ _ h1 h2 => ?_, fun x y _ _ h1 h2 => ?_⟩
  · have := of_decide_eq_true h
    exact decide_eq_false (by omega)
  · have a := of_decide_eq_false h1
    have b := of_decide_eq_false h2
    exact decide_eq_false (by omega)
  · have a := of_decide_eq_false h1
    have b := of_decide_eq_false h2
    omega
def signsS (s : Str) : List Str := s.cps.toList.map fun c => ⟨#[c]⟩
def sortStrs (zs : List Str) : Option D := if zs.length ≤ 1000000 then some (.lst ((srt ltStr zs).map .str)) else none
def sortSeq (l : List D) : Option D := match strsD l with
  | some zs => sortStrs zs
  | none => (intsD l).map fun ns => .lst ((srt ltInt ns).map .int)
def sortedD : List D → Option D
  | [.str s] => if s.length ≤ 1000000 then sortStrs (signsS s) else none
  | [.lst l] => sortSeq l
  | [.tup l] => (strsD l).bind sortStrs
  | [.dct false kvs] => (strsD (kvs.map (·.1))).bind sortStrs
  | _ => none
theorem strs_rs {g : Gm} {G : Hp} : ∀ zs : List Str, Rs g G (zs.map V.str) (zs.map D.str)
  | [] => .nil
  | z :: zs => .cons (.str z) (strs_rs zs)
theorem ints_rs {g : Gm} {G : Hp} : ∀ zs : List Int, Rs g G (zs.map V.int) (zs.map D.int)
  | [] => .nil
  | z :: zs => .cons (.int z) (ints_rs zs)
theorem keys_strs {g : Gm} {G : Hp} : ∀ {kvs : List (Key × V)} {ds : List (D × D)} {zs : List Str}, RK g G kvs ds → strsD (ds.map (·.1)) = some zs → kvs.map (·.1) = zs.map Sum.inr
  | _, _, _, .nil, h => by cases h; rfl
  | _, _, zs, .cons (k := k) (kvs := kvs) (ds := ds) r t, h => by
    cases k with
    | inl i => cases h
    | inr x =>
      have h : (strsD (ds.map (·.1))).map (x :: ·) = some zs := h
      cases e : strsD (ds.map (·.1)) with
      | none => rw [e] at h; cases h
      | some m =>
        rw [e] at h
        cases h
        rw [List.map_cons, List.map_cons, keys_strs t e]
section
variable {X : Cx}
def rSorted (X : Cx) : List V → Hp → VK → Prop := fun vs H Q => ∃ x zs, vs = [x] ∧ zs.length ≤ 1000000 ∧ (∀ p, H p = none → Q (.ref p) (upd H p (.lst ((srt ltStr zs).map V.str)))) ∧
  ((∃ z : Str, x = .str z ∧ z.length ≤ 1000000 ∧ zs = signsS z) ∨ (∃ a, x = .ref a ∧ (SqL X.K H a (zs.map V.str) ∨ SqT X.K H a (zs.map V.str))) ∨ ∃ a kvs, x = .ref a ∧ Rd H a (.dK kvs) ∧ kvs.map (·.1) = zs.map Sum.inr)
theorem cr_sortedA (hc : X.calm = true) : CallR X (.builtin "sorted") (rSorted X) := by
  intro pins s σ H vs us Q I r h
  obtain ⟨x, zs, rfl, hz, q, h⟩ := h
  obtain ⟨u, rfl, ru⟩ := vals1 r
  rcases h with ⟨z, rfl, hl, rfl⟩ | ⟨a, rfl, h⟩ | ⟨a, kvs, rfl, hd, hk⟩
  · obtain ⟨t, rfl⟩ := ru
    exact sorted_col hz q (col_str hc I hl)
  · cases ru
    rcases h with h | h
    · obtain ⟨its, rv, ⟨o, n, ho, hcl, _, hd⟩, hz2⟩ := I.list h
      exact sorted_col hz q (col_seq (.inl rfl) I ho hcl hd (by rw [List.toList_toArray]; exact rv.strs) (by rw [List.size_toArray, ← rv.length]; exact hz2))
    · obtain ⟨its, rv, ⟨o, ho, hcl, n, hd⟩, hz2⟩ := I.tuple h
      exact sorted_col hz q (col_seq (.inr rfl) I ho hcl hd (by rw [List.toList_toArray]; exact rv.strs) (by rw [List.size_toArray, ← rv.length]; exact hz2))
  · cases ru
    exact sorted_col hz q (col_dict hc I hd hk)
theorem CallR.or {f : Value} {r r' : List V → Hp → VK → Prop} (h : CallR X f r) (h' : CallR X f r') : CallR X f (fun vs H Q => r vs H Q ∨ r' vs H Q) :=
  fun pins s σ H xs us Q I v q => q.elim (h pins s σ H xs us Q I v) (h' pins s σ H xs us Q I v)
theorem cl_sorted (hc : X.calm = true) : CallN X (.builtin "sorted") sortedD := by
  refine ⟨_, CallR.or (cr_sortedA hc) cr_sortedI, fun G H ms vs ds d Q e ra ho q => ?_⟩
  have fin : ∀ zs d, sortStrs zs = some d → (∀ v G' H', Gr G H G' H' → PN X.gm H G' H' v d → Q v H') → zs.length ≤ 1000000 ∧ ∀ p, H p = none → Q (.ref p) (upd H p (.lst ((srt ltStr zs).map V.str))) := fun zs d h q => by
    unfold sortStrs at h
    split at h
    · rename_i hz
      cases h
      exact ⟨hz, q_lst e q (strs_rs _)⟩
    · cases h
  unfold sortedD at ho
  split at ho
  · split at ho
    · rename_i hl
      obtain ⟨v, rfl, hv⟩ := ra.one
      obtain ⟨f1, f2⟩ := fin _ _ ho q
      exact .inl ⟨v, _, rfl, f1, f2, .inl ⟨_, hv.str_inv, hl, rfl⟩⟩
    · cases ho
  · obtain ⟨v, rfl, hv⟩ := ra.one
    obtain ⟨a, xs, rfl, h1, h2⟩ := Vw.lst_inv e hv
    unfold sortSeq at ho
    split at ho
    · rename_i zs ez
      obtain ⟨f1, f2⟩ := fin _ _ ho q
      rw [rs_strs ez h2] at h1
      exact .inl ⟨_, zs, rfl, f1, f2, .inr (.inl ⟨a, rfl, .inl h1⟩)⟩
    · cases e2 : intsD ‹List D› with
      | none => rw [e2] at ho; cases ho
      | some ns =>
        rw [e2] at ho
        cases ho
        rw [rs_ints e2 h2] at h1
        refine .inr ⟨a, ns, rfl, h1, fun ns' p hp hs hn => ?_⟩
        have en : ns' = srt ltInt ns := srt_eq tot_int (fun _ _ => trivial) hp (hs.imp fun {x y} h => decide_eq_false (by omega))
        rw [en]
        exact q_lst e q (ints_rs _) p hn
  · obtain ⟨zs, ez, ho⟩ := Option.bind_eq_some_iff.mp ho
    obtain ⟨v, rfl, hv⟩ := ra.one
    obtain ⟨a, xs, rfl, h1, h2⟩ := Ck.R.tup_inv hv.tup_inv
    obtain ⟨f1, f2⟩ := fin _ _ ho q
    rw [rs_strs ez h2] at h1
    exact .inl ⟨_, zs, rfl, f1, f2, .inr (.inl ⟨a, rfl, .inr (sqT_mono e h1)⟩)⟩
  · obtain ⟨zs, ez, ho⟩ := Option.bind_eq_some_iff.mp ho
    obtain ⟨v, rfl, hv⟩ := ra.one
    obtain ⟨f1, f2⟩ := fin _ _ ho q
    obtain ⟨a, rfl, ⟨_, kvs, h1, h2⟩ | ⟨z, _⟩⟩ := Vw.dct_inv e hv
    · exact .inl ⟨_, zs, rfl, f1, f2, .inr (.inr ⟨a, kvs, rfl, h1, keys_strs h2 ez⟩)⟩
    · cases z
  · cases ho
end
end Ck

namespace Ck
open PySem PySem.Spec L2 RZ
section
variable {X : Cx} {W : WX} {P : PP}
/-! ### tuple targets -/
def GLen (b : GsD) (n : Nat) : Prop := ∀ ds env env', b ds env = some env' → ds.length = n
theorem gl_nil : GLen gNilD 0 := fun ds env env' h => by
  unfold gNilD at h
  split at h
  · rfl
  · cases h
theorem gl_cons {a : GD} {b : GsD} {n : Nat} (h : GLen b n) : GLen (gConsD a b) (n + 1) := fun ds env env' e => by
  unfold gConsD at e
  split at e
  · obtain ⟨env1, e1, e2⟩ := Option.bind_eq_some_iff.mp e
    rw [List.length_cons, h _ _ _ e2]
  · cases e
theorem cg_tupN {es : List Expr} {k n : Nat} {b : GsD} {pos : Pos} (hb : GLen b n) (h : CGs X es b) (hc : X.calm = true := by rfl) (hn : (assignEach es X.env).length = n := by rfl) (hst : (assignEach es X.env).findIdx? (·.1) = none := by rfl) : CG X (.Tuple es k pos) (gTupD b) :=
  (pg_tup (n := n) hc h hn hst).imp fun v σ H Q ⟨H0, G0, G, env, d, env', s, r, e, k⟩ => by
    cases d with
    | tup ds =>
      obtain ⟨a, xs, rfl, h1, h2⟩ := Ck.R.tup_inv r
      exact ⟨a, xs, rfl, sqT_mono s.gh h1, h2.length.trans (hb _ _ _ e), H0, G0, G, env, ds, env', s, h2, e, k⟩
    | ctp ds =>
      obtain ⟨a, xs, rfl, h1, h2⟩ := Ck.R.ctp_inv r
      exact ⟨a, xs, rfl, sqT_mono s.gh h1, h2.length.trans (hb _ _ _ e), H0, G0, G, env, ds, env', s, h2, e, k⟩
    | _ => cases e
theorem ct_tupN {vs : List Nat} {es : List Expr} {k n : Nat} {b : GsD} {pos : Pos} (hb : GLen b n) (h : CGTs X vs es b) (hc : X.calm = true := by rfl) (hn : (assignEach es X.env).length = n := by rfl) (hst : (assignEach es X.env).findIdx? (·.1) = none := by rfl) : CGT X vs (.Tuple es k pos) (gTupD b) :=
  ct_tup h hb (pg_tup (n := n) hc h hn hst)
/-! ### a borrowed name is walked -/
def iBor (i : Nat) : AD := fun env => match env[i]? with
  | some (.bor d) => ofO (items d)
  | some (.val d) => ofO (items d)
  | _ => .stuck
theorem ci_bor (i : Nat) {b : Bool} {tg : Expr} {x : Str} {pos : Pos} (hN : X.N[i]? = some x := by rfl) (hv : Vis X.env.scope x := by first | exact Or.inl rfl | exact Or.inr (Or.inl rfl) | exact Or.inr (Or.inr rfl)) (hd : (x == ("__debug__" : Str)) = false := by decide)
    (hcd : (x == ("__classdict__" : Str)) = false := by decide) : CI X W b tg (.Name x pos) (iBor i) := by
  have hp := pe_var hN hv hd hcd (pos := pos)
  refine ((pi_list hp).or ((pi_tup hp).or (pi_str hp))).imp fun σ H R ⟨H0, G0, G, env, s, p⟩ => ?_
  unfold iBor at p
  have key : ∀ v d, σ[i]? = some (some v) → Vw X.gm H0 G v d → (match ofO (items d) with
      | .ok ds => ∀ J G' H', Gr G H G' H' → Wk X.gm (if b = true then H' else H0) J G' ds → R J H'
      | .exc x => ∀ c d G' H', Gr G H G' H' → XR X.gm H' c d x → W c d σ H'
      | .stuck => False) → iList X.K (tVar i) σ H R ∨ iTup X.K (tVar i) σ H R ∨ iStr (tVar i) σ H R := fun v d e1 hv p => by
    have sb : ∀ H', Same (if b = true then H else H0) H' → Same H0 H' := fun H' q => by
      cases b with
      | true => exact s.h0.trans q
      | false => exact q
    cases d with
    | lst l =>
      cases hv with
      | val r =>
        obtain ⟨a, xs, rfl, h1, h2⟩ := Ck.R.lst_inv r
        exact .inl ⟨_, e1, a, rfl, ⟨xs, .inl (rd_mono s.gh h1)⟩, p _ G H (.refl s.gh) (wk_list (fun G H q1 q2 _ => .inl (rd_mono (q1.trans q2) h1)) h2)⟩
      | lst h1 h2 => exact .inl ⟨_, e1, _, rfl, ⟨_, .inl (rd_mono s.h0 h1)⟩, p _ G H (.refl s.gh) (wk_list (fun G H q1 q2 q3 => .inl (rd_mono (sb _ q3) h1)) h2)⟩
      | sq h1 h2 => exact .inl ⟨_, e1, _, rfl, ⟨_, s.h0.seq h1⟩, p _ G H (.refl s.gh) (wk_list (fun G H q1 q2 q3 => (sb _ q3).seq h1) h2)⟩
    | tup l =>
      obtain ⟨a, xs, rfl, h1, h2⟩ := Ck.R.tup_inv hv.tup_inv
      exact .inr (.inl ⟨_, e1, a, rfl, ⟨xs, sqT_mono s.gh h1⟩, p _ G H (.refl s.gh) (wk_tup (fun G H q1 q2 _ => sqT_mono (q1.trans q2) h1) h2)⟩)
    | ctp l =>
      obtain ⟨a, xs, rfl, h1, h2⟩ := Ck.R.ctp_inv hv.ctp_inv
      exact .inr (.inl ⟨_, e1, a, rfl, ⟨xs, sqT_mono s.gh h1⟩, p _ G H (.refl s.gh) (wk_tup (fun G H q1 q2 _ => sqT_mono (q1.trans q2) h1) h2)⟩)
    | str z =>
      rw [hv.str_inv] at e1
      exact .inr (.inr ⟨_, e1, z, rfl, p _ G H (.refl s.gh) wk_str⟩)
    | _ => exact p.elim
  cases e : env[i]? with
  | none => rw [e] at p; exact p.elim
  | some sl =>
    rw [e] at p
    have h := s.slot i sl e
    cases sl with
    | bor d => obtain ⟨v, e1, e2⟩ := h; exact key v d e1 e2 p
    | val d => obtain ⟨v, e1, e2⟩ := h; exact key v d e1 (.val e2) p
    | _ => exact p.elim
end
end Ck

namespace Ck
open PySem PySem.Spec L2 RZ
section
variable {X : Cx} {W : WX} {P : PP}
/-! ### list(..) of a text, too -/
def rListS (X : Cx) : List V → Hp → VK → Prop := fun xs H Q => ∃ z : Str, xs = [.str z] ∧ z.length ≤ 1000000 ∧ ∀ p, H p = none → Q (.ref p) (upd H p (.lst ((signsS z).map V.str)))
theorem call_listS (hc : X.calm = true) : CallR X (.type "list") (rListS X) := by
  intro pins s σ H xs us Q I r h
  obtain ⟨z, rfl, hz, q⟩ := h
  obtain ⟨u, rfl, ru⟩ := vals1 r
  obtain ⟨t, rfl⟩ := ru
  refine call_list_str (I.ok.hd hc) z t (fun h' tk acc c' hk hD hacc => ?_) (line_of hz)
  have hS : PyProof.Rows.StrsAre acc.toList (signsS z) := strs_at (by rw [Array.length_toList, hacc.1]; simp [signsS]) fun j v e => by
    obtain ⟨c, u, e1, e2⟩ := hacc.2 j v (by rw [← Array.getElem?_toList]; exact e)
    refine ⟨⟨#[c]⟩, u, ?_, e2⟩
    unfold signsS
    rw [List.getElem?_map, Array.getElem?_toList, e1]
    rfl
  have hl : ((signsS z).map V.str).length ≤ sizeLine := by
    simp only [signsS, List.length_map, Array.length_toList]
    exact line_of hz
  exact ⟨.ref s.heap.objs.size, upd H s.heap.objs.size (.lst ((signsS z).map V.str)), I.laid (t' := tk) hk (Nat.le_refl _)
    (show ObjOk X.prog X.w _ _ _ (.lst ((signsS z).map V.str)) from ⟨hl, acc.toList, c', vals_of_strs hS, by rw [Array.toArray_toList]; exact hD⟩), rfl, q _ (I.hok.fresh (Nat.le_refl _))⟩
def listA : List D → Option D
  | [.str s] => if s.length ≤ 1000000 then some (.lst ((signsS s).map .str)) else none
  | [.lst l] => some (.lst l)
  | [.tup l] => some (.lst l)
  | _ => none
theorem cl_listA (hc : X.calm = true) : CallN X (.type "list") listA := by
  refine ⟨_, CallR.or (call_listS hc) call_list_of, fun G H ms vs ds d Q e ra ho q => ?_⟩
  unfold listA at ho
  split at ho
  · split at ho
    · rename_i hl
      cases ho
      obtain ⟨v, rfl, hv⟩ := ra.one
      rw [hv.str_inv]
      exact .inl ⟨_, rfl, hl, q_lst e q (strs_rs _)⟩
    · cases ho
  · cases ho
    obtain ⟨v, rfl, hv⟩ := ra.one
    obtain ⟨a, xs, rfl, h1, h2⟩ := Vw.lst_inv e hv
    exact .inr ⟨a, xs, rfl, .inl h1, q_lst e q h2⟩
  · cases ho
    obtain ⟨v, rfl, hv⟩ := ra.one
    obtain ⟨a, xs, rfl, h1, h2⟩ := Ck.R.tup_inv hv.tup_inv
    exact .inr ⟨a, xs, rfl, .inr (sqT_mono e h1), q_lst e q h2⟩
  · cases ho
/-! ### dicts compared: the same -/
def rCmpDR (b : Bool) : R2 := fun x y H Q => ∃ a c ks ls, x = .ref a ∧ y = .ref c ∧ Rd H a (.dK ks) ∧ Rd H c (.dK ls) ∧ ks.length = ls.length ∧ (∀ p ∈ ks, valV ls p.1 = some p.2 ∧ flatB p.2 = true) ∧ Q (.bl b) H
theorem op_eq_dictR (hu : X.A.units < cLine) : OpR X (compareOp .Eq) (rCmpDR true) := by
  intro pins s σ H x y v u Q I rx ry h
  obtain ⟨a, b, ks, ls, rfl, rfl, ea, eb, hlen, hp, q⟩ := h
  obtain rfl : v = Value.ref a := rx
  obtain rfl : u = Value.ref b := ry
  obtain ⟨_, ya, va, ra, da⟩ := dk_rd I.hok ea
  obtain ⟨_, yb, vb, rb, db⟩ := dk_rd I.hok eb
  have hl : va.length = vb.length := by rw [← ra.length, ← rb.length]; exact hlen
  exact PySem.W.keq_eq (knd := mixKind X.prog X.w) (r := true) ya yb da db hu (fun _ => hits_all rb ra hp) (fin_bl I q (by simp [hl]))
theorem op_ne_dictR (hu : X.A.units < cLine) : OpR X (compareOp .NotEq) (rCmpDR false) := by
  intro pins s σ H x y v u Q I rx ry h
  obtain ⟨a, b, ks, ls, rfl, rfl, ea, eb, hlen, hp, q⟩ := h
  obtain rfl : v = Value.ref a := rx
  obtain rfl : u = Value.ref b := ry
  obtain ⟨_, ya, va, ra, da⟩ := dk_rd I.hok ea
  obtain ⟨_, yb, vb, rb, db⟩ := dk_rd I.hok eb
  have hl : va.length = vb.length := by rw [← ra.length, ← rb.length]; exact hlen
  exact PySem.W.keq_ne (knd := mixKind X.prog X.w) (r := true) ya yb da db hu (fun _ => hits_all rb ra hp) (fin_bl I q (by simp [hl]))
def sameDct : D → D → Bool
  | .dct false a, .dct false b => decide (a.length = b.length) && a.all fun p => decide (lookD b p.1 = some p.2) && flatD p.2
  | _, _ => false
def eqC (b : Bool) (x y : D) : Option D := if sameDct x y = true then some (.bl b) else none
theorem od_dct {b : Bool} {f : Value → Value → Sem Value} (h : OpR X f (rCmpDR b)) : OpD X f (eqC b) := by
  refine ⟨_, h, fun G H x y a c d Q e ra rb ho q => ?_⟩
  unfold eqC at ho
  split at ho
  · rename_i hs
    cases ho
    unfold sameDct at hs
    split at hs
    · rename_i l m
      rw [Bool.and_eq_true, List.all_eq_true] at hs
      obtain ⟨h1, h2⟩ := hs
      obtain ⟨p, rfl, ⟨_, ks, k1, k2⟩ | ⟨z, _⟩⟩ := Vw.dct_inv e ra
      · obtain ⟨p', rfl, ⟨_, ls, k3, k4⟩ | ⟨z, _⟩⟩ := Vw.dct_inv e rb
        · refine ⟨p, p', ks, ls, rfl, rfl, k1, k3, by rw [k2.len, k4.len]; exact of_decide_eq_true h1, ?_, q_same e q rfl (.bl _)⟩
          have all : ∀ {ks : List (Key × V)} {ds : List (D × D)}, RK X.gm G ks ds → (∀ p ∈ ds, (decide (lookD m p.1 = some p.2) && flatD p.2) = true) → ∀ p ∈ ks, valV ls p.1 = some p.2 ∧ flatB p.2 = true := fun {ks ds} r => by
            induction ks generalizing ds with
            | nil => intro _ p hp; cases hp
            | cons k0 ks ih =>
              cases r with
              | cons r t =>
                intro hall p hp
                rcases List.mem_cons.mp hp with rfl | hp
                · have hz := hall _ List.mem_cons_self
                  rw [Bool.and_eq_true] at hz
                  obtain ⟨v', v1, v2⟩ := (RK.look k4).1 _ (of_decide_eq_true hz.1)
                  have g2 := hz.2
                  cases r <;> first | (cases g2; done) | (cases v2; exact ⟨v1, rfl⟩)
                · exact ih t (fun p hp => hall p (List.mem_cons_of_mem _ hp)) p hp
          exact all k2 h2
        · cases z
      · cases z
    · cases hs
  · cases ho
theorem od_eqC {k : Nat} (hr : Room k X.A) : OpD X (compareOp .Eq) (eqC true) := od_dct (op_eq_dictR (by have := hr.un; omega))
theorem od_neC {k : Nat} (hr : Room k X.A) : OpD X (compareOp .NotEq) (eqC false) := od_dct (op_ne_dictR (by have := hr.un; omega))
/-! ### isinstance(x, T), T a built-in type -/
@[simp] def tyName : D → Option String
  | .non => some "NoneType"
  | .bl _ => some "bool"
  | .int _ => some "int"
  | .str _ => some "str"
  | .tup _ => some "tuple"
  | .ctp _ => none
  | .lst _ => some "list"
  | .dct false _ => some "dict"
  | .dct true _ => none
  | .obj _ _ => none
def isTD (T : String) (d : D) : Option D := (tyName d).map fun t => .bl (t == T || (t == "bool" && T == "int"))
theorem ty_vw {g : Gm} {G H : Hp} (e : Same G H) {v : V} {d : D} {t : String} (r : Vw g H G v d) (h : tyName d = some t) : TyX g.K H v (.type t) := by
  cases d with
  | lst l =>
    cases h
    obtain ⟨a, xs, rfl, h1, _⟩ := Vw.lst_inv e r
    rcases h1 with (h1 | ⟨o, h1⟩) | ⟨o, its, n, h1, h2, _⟩
    · exact .base (.lst h1)
    · exact .base (.frz h1)
    · exact .kList h1 h2
  | tup l =>
    cases h
    obtain ⟨a, xs, rfl, h1, _⟩ := Ck.R.tup_ex r.tup_inv
    exact .base (.tup (e _ _ h1))
  | dct t ds =>
    obtain ⟨a, rfl, ⟨rfl, kvs, h1 | ⟨o, h1⟩, _⟩ | ⟨rfl, kvs, h1 | ⟨o, h1⟩, _⟩⟩ := Vw.dct_inv e r
    · cases h; exact .base (.dK h1)
    · cases h; exact .fDict h1
    · cases h
    · cases h
  | obj _ _ => cases h
  | ctp _ => cases h
  | _ => cases r with | val r => cases r <;> (cases h; exact .base (by constructor))
theorem kit_names {t T : String} (ht : t = "NoneType" ∨ t = "bool" ∨ t = "int" ∨ t = "str" ∨ t = "tuple" ∨ t = "list" ∨ t = "dict") (hT : T = "int" ∨ T = "str" ∨ T = "tuple" ∨ T = "list" ∨ T = "bool" ∨ T = "dict") :
    kitB t T = some (t == T || (t == "bool" && T == "int")) := by
  rcases ht with rfl | rfl | rfl | rfl | rfl | rfl | rfl <;> rcases hT with rfl | rfl | rfl | rfl | rfl | rfl <;> decide +kernel
theorem ty_names {d : D} {t : String} (h : tyName d = some t) : t = "NoneType" ∨ t = "bool" ∨ t = "int" ∨ t = "str" ∨ t = "tuple" ∨ t = "list" ∨ t = "dict" := by
  cases d with
  | dct b _ => cases b <;> cases h; simp
  | _ => first | (cases h; simp; done) | cases h
theorem ce_isT {a : Expr} {f : ED} {x : Str} {T : String} {p p2 pos : Pos} (ha : CV X W a f) (hm : X.mg "isinstance" = none) (hmT : X.mg x = none) (hT : T = "int" ∨ T = "str" ∨ T = "tuple" ∨ T = "list" ∨ T = "bool" ∨ T = "dict")
    (hbT : bootBuiltins x = some (.type T) := by decide +kernel) (hgT : Gl X x := by rfl) (hnT : x ≠ "__name__" := by decide) (hdT : (x == ("__debug__" : Str)) = false := by decide)
    (hg : Gl X "isinstance" := by rfl) (he : starEach [a, .Name x p2] X.env = (false, eval a X.env) :: starEach [.Name x p2] X.env := by rfl) (he2 : starEach [.Name x p2] X.env = (false, eval (.Name x p2) X.env) :: starEach [] X.env := by rfl) (hpl : (backTo pos (starEach [.Name x p2] X.env)).any (·.1) = false := by rfl) :
    CE X W (.Call (.Name "isinstance" p) [a, .Name x p2] [] pos) (e1 (isTD T) f) :=
  (pe_callB call_isi hg hm (by decide +kernel) (pa_cons ha (pa_cons (pe_bltn hgT hmT hbT (v := .ty T) rfl hnT hdT) pa_nil he2) he) (by decide) (by decide) he hpl).imp fun σ H Q ⟨H0, G0, G, env, s, p⟩ => by
    refine tE_bind s p fun d v G1 H1 ed gr s1 q1 => ?_
    unfold e1 at p
    rw [ed] at p
    have p := p.grow PR.mono gr
    replace p : Pst X.gm W σ (PR X.gm) G1 H1 Q (ofO (isTD T d)) := p
    unfold isTD at p
    cases e : tyName d with
    | none => rw [e] at p; exact p.elim
    | some t =>
      rw [e] at p
      exact ⟨v, .ty T, .type t, .type T, _, rfl, .ty T, ty_vw s1.gh q1 e, kit_ty (kit_names (ty_names e) hT), p _ G1 H1 (.refl s1.gh) (.bl _)⟩
end
end Ck

namespace Ck
open PySem PySem.Spec L2 RZ
/-! ### evaluation -/
@[simp] theorem ofO_some {α : Type} (a : α) : ofO (some a) = .ok a := rfl
@[simp] theorem ofO_none {α : Type} : ofO (none : Option α) = .stuck := rfl
section
variable (env : EnvD) (i : Nat)
def valS : Option Slot → Res D
  | some (.val d) => .ok d
  | _ => .stuck
@[simp] theorem valS_val (d : D) : valS (some (.val d)) = .ok d := rfl
@[simp] theorem eVar_ev : eVar i env = valS env[i]? := rfl
def viewS : Option Slot → Res D
  | some (.val d) => .ok d
  | some (.own d) => .ok d
  | some (.bor d) => .ok d
  | _ => .stuck
@[simp] theorem viewS_val (d : D) : viewS (some (.val d)) = .ok d := rfl
@[simp] theorem viewS_own (d : D) : viewS (some (.own d)) = .ok d := rfl
@[simp] theorem viewS_bor (d : D) : viewS (some (.bor d)) = .ok d := rfl
@[simp] theorem vVar_ev : vVar i env = viewS env[i]? := rfl
@[simp] theorem eC_ev (d : D) : eC d env = .ok d := rfl
@[simp] theorem tTrue_ev : tTrue env = .ok true := rfl
@[simp] theorem aNil_ev : aNil env = .ok [] := rfl
@[simp] theorem newS_lst (l : List D) : newS (.lst l) = .own (.lst l) := rfl
@[simp] theorem newS_dct (t : Bool) (l : List (D × D)) : newS (.dct t l) = .own (.dct t l) := rfl
@[simp] theorem newS_int (x : Int) : newS (.int x) = .val (.int x) := rfl
@[simp] theorem newS_str (x : Str) : newS (.str x) = .val (.str x) := rfl
@[simp] theorem newS_bl (x : Bool) : newS (.bl x) = .val (.bl x) := rfl
@[simp] theorem newS_tup (x : List D) : newS (.tup x) = .val (.tup x) := rfl
@[simp] theorem newS_non : newS .non = .val .non := rfl
end
section
def r1 (op : D → Option D) (r : Res D) : Res D := r.bind (fun a => ofO (op a))
@[simp] theorem r1_ok (op : D → Option D) (a : D) : r1 op (.ok a) = ofO (op a) := rfl
@[simp] theorem r1_exc (op : D → Option D) (x : Exn) : r1 op (.exc x) = .exc x := rfl
@[simp] theorem r1_stuck (op : D → Option D) : r1 op .stuck = .stuck := rfl
@[simp] theorem e1_ev (op : D → Option D) (f : ED) (env : EnvD) : e1 op f env = r1 op (f env) := rfl
def r2b (op : D → D → Option D) (a : D) (r : Res D) : Res D := r.bind (fun b => ofO (op a b))
@[simp] theorem r2b_ok (op : D → D → Option D) (a : D) (b : D) : r2b op a (.ok b) = ofO (op a b) := rfl
@[simp] theorem r2b_exc (op : D → D → Option D) (a : D) (x : Exn) : r2b op a (.exc x) = .exc x := rfl
@[simp] theorem r2b_stuck (op : D → D → Option D) (a : D) : r2b op a .stuck = .stuck := rfl
def r2 (op : D → D → Option D) (h : ED) (env : EnvD) (r : Res D) : Res D := r.bind (fun a => r2b op a (h env))
@[simp] theorem r2_ok (op : D → D → Option D) (h : ED) (env : EnvD) (a : D) : r2 op h env (.ok a) = r2b op a (h env) := rfl
@[simp] theorem r2_exc (op : D → D → Option D) (h : ED) (env : EnvD) (x : Exn) : r2 op h env (.exc x) = .exc x := rfl
@[simp] theorem r2_stuck (op : D → D → Option D) (h : ED) (env : EnvD) : r2 op h env .stuck = .stuck := rfl
@[simp] theorem e2_ev (op : D → D → Option D) (f h : ED) (env : EnvD) : e2 op f h env = r2 op h env (f env) := rfl
def rB  (r : Res D) : Res Bool := r.bind (fun d => ofO (asB d))
@[simp] theorem rB_ok  (b : Bool) : rB  (.ok (.bl b)) = .ok b := rfl
@[simp] theorem rB_exc  (x : Exn) : rB  (.exc x) = .exc x := rfl
@[simp] theorem rB_stuck  : rB  .stuck = .stuck := rfl
@[simp] theorem tB_ev (f : ED) (env : EnvD) : tB f env = rB (f env) := rfl
def rAnd (h : TD) (env : EnvD) (r : Res Bool) : Res Bool := r.bind (fun b => if b = true then h env else .ok false)
@[simp] theorem rAnd_ok (h : TD) (env : EnvD)  : rAnd h env (.ok true) = h env := rfl
@[simp] theorem rAnd_ok1 (h : TD) (env : EnvD)  : rAnd h env (.ok false) = .ok false := rfl
@[simp] theorem rAnd_exc (h : TD) (env : EnvD) (x : Exn) : rAnd h env (.exc x) = .exc x := rfl
@[simp] theorem rAnd_stuck (h : TD) (env : EnvD) : rAnd h env .stuck = .stuck := rfl
@[simp] theorem tAndD_ev (f h : TD) (env : EnvD) : tAndD f h env = rAnd h env (f env) := rfl
def rOr (h : TD) (env : EnvD) (r : Res Bool) : Res Bool := r.bind (fun b => if b = true then .ok true else h env)
@[simp] theorem rOr_ok (h : TD) (env : EnvD)  : rOr h env (.ok true) = .ok true := rfl
@[simp] theorem rOr_ok1 (h : TD) (env : EnvD)  : rOr h env (.ok false) = h env := rfl
@[simp] theorem rOr_exc (h : TD) (env : EnvD) (x : Exn) : rOr h env (.exc x) = .exc x := rfl
@[simp] theorem rOr_stuck (h : TD) (env : EnvD) : rOr h env .stuck = .stuck := rfl
@[simp] theorem tOrD_ev (f h : TD) (env : EnvD) : tOrD f h env = rOr h env (f env) := rfl
def rNot  (r : Res Bool) : Res Bool := r.bind (fun b => .ok (!b))
@[simp] theorem rNot_ok  (b : Bool) : rNot  (.ok b) = .ok (!b) := rfl
@[simp] theorem rNot_exc  (x : Exn) : rNot  (.exc x) = .exc x := rfl
@[simp] theorem rNot_stuck  : rNot  .stuck = .stuck := rfl
@[simp] theorem tNotD_ev (f : TD) (env : EnvD) : tNotD f env = rNot (f env) := rfl
def rAndE (h : ED) (env : EnvD) (r : Res Bool) : Res D := r.bind (fun b => if b = true then h env else .ok (.bl false))
@[simp] theorem rAndE_ok (h : ED) (env : EnvD)  : rAndE h env (.ok true) = h env := rfl
@[simp] theorem rAndE_ok1 (h : ED) (env : EnvD)  : rAndE h env (.ok false) = .ok (.bl false) := rfl
@[simp] theorem rAndE_exc (h : ED) (env : EnvD) (x : Exn) : rAndE h env (.exc x) = .exc x := rfl
@[simp] theorem rAndE_stuck (h : ED) (env : EnvD) : rAndE h env .stuck = .stuck := rfl
@[simp] theorem eAnd_ev (f h : ED) (env : EnvD) : eAnd f h env = rAndE h env (tB f env) := rfl
def rOrE (h : ED) (env : EnvD) (r : Res Bool) : Res D := r.bind (fun b => if b = true then .ok (.bl true) else h env)
@[simp] theorem rOrE_ok (h : ED) (env : EnvD)  : rOrE h env (.ok true) = .ok (.bl true) := rfl
@[simp] theorem rOrE_ok1 (h : ED) (env : EnvD)  : rOrE h env (.ok false) = h env := rfl
@[simp] theorem rOrE_exc (h : ED) (env : EnvD) (x : Exn) : rOrE h env (.exc x) = .exc x := rfl
@[simp] theorem rOrE_stuck (h : ED) (env : EnvD) : rOrE h env .stuck = .stuck := rfl
@[simp] theorem eOr_ev (f h : ED) (env : EnvD) : eOr f h env = rOrE h env (tB f env) := rfl
def rNotE  (r : Res Bool) : Res D := r.bind (fun b => .ok (.bl (!b)))
@[simp] theorem rNotE_ok  (b : Bool) : rNotE  (.ok b) = .ok (.bl (!b)) := rfl
@[simp] theorem rNotE_exc  (x : Exn) : rNotE  (.exc x) = .exc x := rfl
@[simp] theorem rNotE_stuck  : rNotE  .stuck = .stuck := rfl
@[simp] theorem eNot_ev (f : ED) (env : EnvD) : eNot f env = rNotE (tB f env) := rfl
def rIf (f h : ED) (env : EnvD) (r : Res Bool) : Res D := r.bind (fun b => if b = true then f env else h env)
@[simp] theorem rIf_ok (f h : ED) (env : EnvD)  : rIf f h env (.ok true) = f env := rfl
@[simp] theorem rIf_ok1 (f h : ED) (env : EnvD)  : rIf f h env (.ok false) = h env := rfl
@[simp] theorem rIf_exc (f h : ED) (env : EnvD) (x : Exn) : rIf f h env (.exc x) = .exc x := rfl
@[simp] theorem rIf_stuck (f h : ED) (env : EnvD) : rIf f h env .stuck = .stuck := rfl
@[simp] theorem eIf_ev (t : TD) (f h : ED) (env : EnvD) : eIf t f h env = rIf f h env (t env) := rfl
def rCb (d : D) (r : Res (List D)) : Res (List D) := r.bind (fun ds => .ok (d :: ds))
@[simp] theorem rCb_ok (d : D) (ds : List D) : rCb d (.ok ds) = .ok (d :: ds) := rfl
@[simp] theorem rCb_exc (d : D) (x : Exn) : rCb d (.exc x) = .exc x := rfl
@[simp] theorem rCb_stuck (d : D) : rCb d .stuck = .stuck := rfl
def rC (h : AD) (env : EnvD) (r : Res D) : Res (List D) := r.bind (fun d => rCb d (h env))
@[simp] theorem rC_ok (h : AD) (env : EnvD) (d : D) : rC h env (.ok d) = rCb d (h env) := rfl
@[simp] theorem rC_exc (h : AD) (env : EnvD) (x : Exn) : rC h env (.exc x) = .exc x := rfl
@[simp] theorem rC_stuck (h : AD) (env : EnvD) : rC h env .stuck = .stuck := rfl
@[simp] theorem aCons_ev (f : ED) (h : AD) (env : EnvD) : aCons f h env = rC h env (f env) := rfl
def rT  (r : Res (List D)) : Res D := r.bind (fun ds => .ok (.tup ds))
@[simp] theorem rT_ok  (ds : List D) : rT  (.ok ds) = .ok (.tup ds) := rfl
@[simp] theorem rT_exc  (x : Exn) : rT  (.exc x) = .exc x := rfl
@[simp] theorem rT_stuck  : rT  .stuck = .stuck := rfl
@[simp] theorem eTup_ev (h : AD) (env : EnvD) : eTup h env = rT (h env) := rfl
def rL  (r : Res (List D)) : Res D := r.bind (fun ds => .ok (.lst ds))
@[simp] theorem rL_ok  (ds : List D) : rL  (.ok ds) = .ok (.lst ds) := rfl
@[simp] theorem rL_exc  (x : Exn) : rL  (.exc x) = .exc x := rfl
@[simp] theorem rL_stuck  : rL  .stuck = .stuck := rfl
@[simp] theorem eLst_ev (h : AD) (env : EnvD) : eLst h env = rL (h env) := rfl
def rF (F : List D → Option D) (r : Res (List D)) : Res D := r.bind (fun ds => ofO (F ds))
@[simp] theorem rF_ok (F : List D → Option D) (ds : List D) : rF F (.ok ds) = ofO (F ds) := rfl
@[simp] theorem rF_exc (F : List D → Option D) (x : Exn) : rF F (.exc x) = .exc x := rfl
@[simp] theorem rF_stuck (F : List D → Option D) : rF F .stuck = .stuck := rfl
@[simp] theorem eB_ev (F : List D → Option D) (h : AD) (env : EnvD) : eB F h env = rF F (h env) := rfl
def rFi (F : List D → Option (List D)) (r : Res (List D)) : Res (List D) := r.bind (fun ds => ofO (F ds))
@[simp] theorem rFi_ok (F : List D → Option (List D)) (ds : List D) : rFi F (.ok ds) = ofO (F ds) := rfl
@[simp] theorem rFi_exc (F : List D → Option (List D)) (x : Exn) : rFi F (.exc x) = .exc x := rfl
@[simp] theorem rFi_stuck (F : List D → Option (List D)) : rFi F .stuck = .stuck := rfl
@[simp] theorem iB_ev (F : List D → Option (List D)) (h : AD) (env : EnvD) : iB F h env = rFi F (h env) := rfl
def rI  (r : Res D) : Res (List D) := r.bind (fun d => ofO (items d))
@[simp] theorem rI_ok  (d : D) : rI  (.ok d) = ofO (items d) := rfl
@[simp] theorem rI_exc  (x : Exn) : rI  (.exc x) = .exc x := rfl
@[simp] theorem rI_stuck  : rI  .stuck = .stuck := rfl
@[simp] theorem iAny_ev (f : ED) (env : EnvD) : iAny f env = rI (f env) := rfl
def rRv  (r : Res D) : Res (List D) := r.bind (fun d => ofO (rev1 d))
@[simp] theorem rRv_ok  (d : D) : rRv  (.ok d) = ofO (rev1 d) := rfl
@[simp] theorem rRv_exc  (x : Exn) : rRv  (.exc x) = .exc x := rfl
@[simp] theorem rRv_stuck  : rRv  .stuck = .stuck := rfl
@[simp] theorem iRevD_ev (f : ED) (env : EnvD) : iRevD f env = rRv (f env) := rfl
def rLc (vs : List Nat) (set : GD) (t : TD) (f : ED) (env : EnvD) (r : Res (List D)) : Res D := r.bind (fun ds => ofO (if ds.length ≤ 1000000 then (lcD set t f (wipeD env vs) ds).map .lst else none))
@[simp] theorem rLc_ok (vs : List Nat) (set : GD) (t : TD) (f : ED) (env : EnvD) (ds : List D) : rLc vs set t f env (.ok ds) = ofO (if ds.length ≤ 1000000 then (lcD set t f (wipeD env vs) ds).map .lst else none) := rfl
@[simp] theorem rLc_exc (vs : List Nat) (set : GD) (t : TD) (f : ED) (env : EnvD) (x : Exn) : rLc vs set t f env (.exc x) = .exc x := rfl
@[simp] theorem rLc_stuck (vs : List Nat) (set : GD) (t : TD) (f : ED) (env : EnvD) : rLc vs set t f env .stuck = .stuck := rfl
@[simp] theorem eLc_ev (it : AD) (vs : List Nat) (set : GD) (t : TD) (f : ED) (env : EnvD) : eLc it vs set t f env = rLc vs set t f env (it env) := rfl
def rCall (F : List D → Res D) (r : Res (List D)) : Res D := r.bind F
@[simp] theorem rCall_ok (F : List D → Res D) (ds : List D) : rCall F (.ok ds) = F ds := rfl
@[simp] theorem rCall_exc (F : List D → Res D) (x : Exn) : rCall F (.exc x) = .exc x := rfl
@[simp] theorem rCall_stuck (F : List D → Res D) : rCall F .stuck = .stuck := rfl
@[simp] theorem eCall_ev (F : List D → Res D) (h : AD) (env : EnvD) : eCall F h env = rCall F (h env) := rfl
def rS  (r : Res D) : Res (Option Int) := r.bind (fun d => ofO (asI d))
@[simp] theorem rS_ok  (x : Int) : rS  (.ok (.int x)) = .ok (some x) := rfl
@[simp] theorem rS_exc  (x : Exn) : rS  (.exc x) = .exc x := rfl
@[simp] theorem rS_stuck  : rS  .stuck = .stuck := rfl
@[simp] theorem oSome_ev (f : ED) (env : EnvD) : oSome f env = rS (f env) := rfl
@[simp] theorem oNone_ev (env : EnvD) : oNone env = .ok none := rfl
def rSlc (d : D) (l : Option Int) (r : Res (Option Int)) : Res D := r.bind (fun h => ofO (slD d l h))
@[simp] theorem rSlc_ok (d : D) (l : Option Int) (h : Option Int) : rSlc d l (.ok h) = ofO (slD d l h) := rfl
@[simp] theorem rSlc_exc (d : D) (l : Option Int) (x : Exn) : rSlc d l (.exc x) = .exc x := rfl
@[simp] theorem rSlc_stuck (d : D) (l : Option Int) : rSlc d l .stuck = .stuck := rfl
def rSlb (d : D) (hi : OD) (env : EnvD) (r : Res (Option Int)) : Res D := r.bind (fun l => rSlc d l (hi env))
@[simp] theorem rSlb_ok (d : D) (hi : OD) (env : EnvD) (l : Option Int) : rSlb d hi env (.ok l) = rSlc d l (hi env) := rfl
@[simp] theorem rSlb_exc (d : D) (hi : OD) (env : EnvD) (x : Exn) : rSlb d hi env (.exc x) = .exc x := rfl
@[simp] theorem rSlb_stuck (d : D) (hi : OD) (env : EnvD) : rSlb d hi env .stuck = .stuck := rfl
def rSl (lo hi : OD) (env : EnvD) (r : Res D) : Res D := r.bind (fun d => rSlb d hi env (lo env))
@[simp] theorem rSl_ok (lo hi : OD) (env : EnvD) (d : D) : rSl lo hi env (.ok d) = rSlb d hi env (lo env) := rfl
@[simp] theorem rSl_exc (lo hi : OD) (env : EnvD) (x : Exn) : rSl lo hi env (.exc x) = .exc x := rfl
@[simp] theorem rSl_stuck (lo hi : OD) (env : EnvD) : rSl lo hi env .stuck = .stuck := rfl
@[simp] theorem eSl_ev (f : ED) (lo hi : OD) (env : EnvD) : eSl f lo hi env = rSl lo hi env (f env) := rfl
def rMb (op : D → List D → Option D) (a : D) (r : Res (List D)) : Res D := r.bind (fun ds => ofO (op a ds))
@[simp] theorem rMb_ok (op : D → List D → Option D) (a : D) (ds : List D) : rMb op a (.ok ds) = ofO (op a ds) := rfl
@[simp] theorem rMb_exc (op : D → List D → Option D) (a : D) (x : Exn) : rMb op a (.exc x) = .exc x := rfl
@[simp] theorem rMb_stuck (op : D → List D → Option D) (a : D) : rMb op a .stuck = .stuck := rfl
def rM (ok : D → Bool) (op : D → List D → Option D) (h : AD) (env : EnvD) (r : Res D) : Res D := r.bind fun a => if ok a = true then rMb op a (h env) else .stuck
@[simp] theorem rM_str (op : D → List D → Option D) (h : AD) (env : EnvD) (s : Str) : rM isStr op h env (.ok (.str s)) = rMb op (.str s) (h env) := rfl
@[simp] theorem rM_lst (op : D → List D → Option D) (h : AD) (env : EnvD) (s : List D) : rM isLst op h env (.ok (.lst s)) = rMb op (.lst s) (h env) := rfl
@[simp] theorem eM_ev (ok : D → Bool) (op : D → List D → Option D) (f : ED) (h : AD) (env : EnvD) : eM ok op f h env = rM ok op h env (f env) := rfl
def rGc (t : Bool) (kvs : List (D × D)) (k : D) (r : Res D) : Res D := r.bind (fun x => ofO (if keyOk t k = true then some ((lookD kvs k).getD x) else none))
@[simp] theorem rGc_ok (t : Bool) (kvs : List (D × D)) (k : D) (x : D) : rGc t kvs k (.ok x) = ofO (if keyOk t k = true then some ((lookD kvs k).getD x) else none) := rfl
@[simp] theorem rGc_exc (t : Bool) (kvs : List (D × D)) (k : D) (x : Exn) : rGc t kvs k (.exc x) = .exc x := rfl
@[simp] theorem rGc_stuck (t : Bool) (kvs : List (D × D)) (k : D) : rGc t kvs k .stuck = .stuck := rfl
def rGb (t : Bool) (kvs : List (D × D)) (z : ED) (env : EnvD) (r : Res D) : Res D := r.bind (fun k => rGc t kvs k (z env))
@[simp] theorem rGb_ok (t : Bool) (kvs : List (D × D)) (z : ED) (env : EnvD) (k : D) : rGb t kvs z env (.ok k) = rGc t kvs k (z env) := rfl
@[simp] theorem rGb_exc (t : Bool) (kvs : List (D × D)) (z : ED) (env : EnvD) (x : Exn) : rGb t kvs z env (.exc x) = .exc x := rfl
@[simp] theorem rGb_stuck (t : Bool) (kvs : List (D × D)) (z : ED) (env : EnvD) : rGb t kvs z env .stuck = .stuck := rfl
def rG (h z : ED) (env : EnvD) (r : Res D) : Res D := r.bind fun d => match d with
  | .dct t kvs => rGb t kvs z env (h env)
  | _ => .stuck
@[simp] theorem rG_dct (h z : ED) (env : EnvD) (t : Bool) (kvs : List (D × D)) : rG h z env (.ok (.dct t kvs)) = rGb t kvs z env (h env) := rfl
@[simp] theorem eGet2_ev (f h z : ED) (env : EnvD) : eGet2 f h z env = rG h z env (f env) := by
  unfold eGet2 rG
  congr 1
  funext d
  cases d <;> rfl
def rHb (t : Bool) (kvs : List (D × D)) (r : Res D) : Res D := r.bind (fun k => ofO (if keyOk t k = true then some ((lookD kvs k).getD .non) else none))
@[simp] theorem rHb_ok (t : Bool) (kvs : List (D × D)) (k : D) : rHb t kvs (.ok k) = ofO (if keyOk t k = true then some ((lookD kvs k).getD .non) else none) := rfl
@[simp] theorem rHb_exc (t : Bool) (kvs : List (D × D)) (x : Exn) : rHb t kvs (.exc x) = .exc x := rfl
@[simp] theorem rHb_stuck (t : Bool) (kvs : List (D × D)) : rHb t kvs .stuck = .stuck := rfl
def rH (h : ED) (env : EnvD) (r : Res D) : Res D := r.bind fun d => match d with
  | .dct t kvs => rHb t kvs (h env)
  | _ => .stuck
@[simp] theorem rH_dct (h : ED) (env : EnvD) (t : Bool) (kvs : List (D × D)) : rH h env (.ok (.dct t kvs)) = rHb t kvs (h env) := rfl
@[simp] theorem eGet1_ev (f h : ED) (env : EnvD) : eGet1 f h env = rH h env (f env) := by
  unfold eGet1 rH
  congr 1
  funext d
  cases d <;> rfl
def oSet (i : Nat) (env : EnvD) (r : Res D) : Out := outE r env (fun d => .nx (env.set i (.val d)))
@[simp] theorem oSet_ok (i : Nat) (env : EnvD) (d : D) : oSet i env (.ok d) = .nx (env.set i (.val d)) := rfl
@[simp] theorem oSet_exc (i : Nat) (env : EnvD) (x : Exn) : oSet i env (.exc x) = .exc x env := rfl
@[simp] theorem oSet_stuck (i : Nat) (env : EnvD) : oSet i env .stuck = .stuck := rfl
@[simp] theorem sSet_ev (i : Nat) (f : ED) (env : EnvD) : sSet i f env = oSet i env (f env) := rfl
def oNew (i : Nat) (env : EnvD) (r : Res D) : Out := outE r env (fun d => .nx (env.set i (newS d)))
@[simp] theorem oNew_ok (i : Nat) (env : EnvD) (d : D) : oNew i env (.ok d) = .nx (env.set i (newS d)) := rfl
@[simp] theorem oNew_exc (i : Nat) (env : EnvD) (x : Exn) : oNew i env (.exc x) = .exc x env := rfl
@[simp] theorem oNew_stuck (i : Nat) (env : EnvD) : oNew i env .stuck = .stuck := rfl
@[simp] theorem sNew_ev (i : Nat) (f : ED) (env : EnvD) : sNew i f env = oNew i env (f env) := rfl
def oRet (env : EnvD) (r : Res D) : Out := outE r env (fun d => .rt d)
@[simp] theorem oRet_ok (env : EnvD) (d : D) : oRet env (.ok d) = .rt d := rfl
@[simp] theorem oRet_exc (env : EnvD) (x : Exn) : oRet env (.exc x) = .exc x env := rfl
@[simp] theorem oRet_stuck (env : EnvD) : oRet env .stuck = .stuck := rfl
@[simp] theorem sRet_ev (f : ED) (env : EnvD) : sRet f env = oRet env (f env) := rfl
def oDrop (env : EnvD) (r : Res D) : Out := outE r env (fun _ => .nx env)
@[simp] theorem oDrop_ok (env : EnvD) (d : D) : oDrop env (.ok d) = .nx env := rfl
@[simp] theorem oDrop_exc (env : EnvD) (x : Exn) : oDrop env (.exc x) = .exc x env := rfl
@[simp] theorem oDrop_stuck (env : EnvD) : oDrop env .stuck = .stuck := rfl
@[simp] theorem sDrop_ev (f : ED) (env : EnvD) : sDrop f env = oDrop env (f env) := rfl
def oIf (f h : SD) (env : EnvD) (r : Res Bool) : Out := outE r env (fun b => if b = true then f env else h env)
@[simp] theorem oIf_ok (f h : SD) (env : EnvD)  : oIf f h env (.ok true) = f env := rfl
@[simp] theorem oIf_ok1 (f h : SD) (env : EnvD)  : oIf f h env (.ok false) = h env := rfl
@[simp] theorem oIf_exc (f h : SD) (env : EnvD) (x : Exn) : oIf f h env (.exc x) = .exc x env := rfl
@[simp] theorem oIf_stuck (f h : SD) (env : EnvD) : oIf f h env .stuck = .stuck := rfl
@[simp] theorem sIf_ev (t : TD) (f h : SD) (env : EnvD) : sIf t f h env = oIf f h env (t env) := rfl
def asgO : Option EnvD → Out
  | some e => .nx e
  | none => .stuck
@[simp] theorem asgO_some (e : EnvD) : asgO (some e) = .nx e := rfl
def oAsg (b : GD) (env : EnvD) (r : Res D) : Out := outE r env (fun d => asgO (b d env))
@[simp] theorem oAsg_ok (b : GD) (env : EnvD) (d : D) : oAsg b env (.ok d) = asgO (b d env) := rfl
@[simp] theorem oAsg_exc (b : GD) (env : EnvD) (x : Exn) : oAsg b env (.exc x) = .exc x env := rfl
@[simp] theorem oAsg_stuck (b : GD) (env : EnvD) : oAsg b env .stuck = .stuck := rfl
@[simp] theorem sAsg_ev (f : ED) (b : GD) (env : EnvD) : sAsg f b env = oAsg b env (f env) := rfl
def oFor (set : GD) (f : SD) (env : EnvD) (r : Res (List D)) : Out := outE r env (fun ds => forD set f ds env)
@[simp] theorem oFor_ok (set : GD) (f : SD) (env : EnvD) (ds : List D) : oFor set f env (.ok ds) = forD set f ds env := rfl
@[simp] theorem oFor_exc (set : GD) (f : SD) (env : EnvD) (x : Exn) : oFor set f env (.exc x) = .exc x env := rfl
@[simp] theorem oFor_stuck (set : GD) (f : SD) (env : EnvD) : oFor set f env .stuck = .stuck := rfl
@[simp] theorem sFor_ev (it : AD) (set : GD) (f : SD) (env : EnvD) : sFor it set f env = oFor set f env (it env) := rfl
def oApp (i : Nat) (l : List D) (env : EnvD) (r : Res D) : Out := outE r env (fun y => if l.length ≤ 1000000 then .nx (env.set i (.own (.lst (l ++ [y])))) else .stuck)
@[simp] theorem oApp_ok (i : Nat) (l : List D) (env : EnvD) (y : D) : oApp i l env (.ok y) = if l.length ≤ 1000000 then .nx (env.set i (.own (.lst (l ++ [y])))) else .stuck := rfl
@[simp] theorem oApp_exc (i : Nat) (l : List D) (env : EnvD) (x : Exn) : oApp i l env (.exc x) = .exc x env := rfl
@[simp] theorem oApp_stuck (i : Nat) (l : List D) (env : EnvD) : oApp i l env .stuck = .stuck := rfl
def oPutb (i : Nat) (t : Bool) (kvs : List (D × D)) (v : D) (env : EnvD) (r : Res D) : Out := outE r env (fun k => if keyOk t k = true ∧ kvs.length ≤ 1000000 then .nx (env.set i (.own (.dct t (putD kvs k v)))) else .stuck)
@[simp] theorem oPutb_ok (i : Nat) (t : Bool) (kvs : List (D × D)) (v : D) (env : EnvD) (k : D) : oPutb i t kvs v env (.ok k) = if keyOk t k = true ∧ kvs.length ≤ 1000000 then .nx (env.set i (.own (.dct t (putD kvs k v)))) else .stuck := rfl
@[simp] theorem oPutb_exc (i : Nat) (t : Bool) (kvs : List (D × D)) (v : D) (env : EnvD) (x : Exn) : oPutb i t kvs v env (.exc x) = .exc x env := rfl
@[simp] theorem oPutb_stuck (i : Nat) (t : Bool) (kvs : List (D × D)) (v : D) (env : EnvD) : oPutb i t kvs v env .stuck = .stuck := rfl

end
section
variable (env : EnvD) (i : Nat)
def seqO (o : Out) (h : SD) : Out := match o with
  | .nx e => h e
  | o => o
@[simp] theorem seqO_nx (e : EnvD) (h : SD) : seqO (.nx e) h = h e := rfl
@[simp] theorem seqO_rt (d : D) (h : SD) : seqO (.rt d) h = .rt d := rfl
@[simp] theorem seqO_exc (x : Exn) (e : EnvD) (h : SD) : seqO (.exc x e) h = .exc x e := rfl
@[simp] theorem seqO_stuck (h : SD) : seqO .stuck h = .stuck := rfl
@[simp] theorem sNil_ev : sNil env = .nx env := rfl
@[simp] theorem sSeq_ev (f h : SD) : sSeq f h env = seqO (f env) h := rfl
def frzS (i : Nat) (env : EnvD) : Option Slot → EnvD
  | some (.own d) => env.set i (.val d)
  | _ => env
@[simp] theorem frzS_own (d : D) : frzS i env (some (.own d)) = env.set i (.val d) := rfl
@[simp] theorem frzS_val (d : D) : frzS i env (some (.val d)) = env := rfl
@[simp] theorem frz_ev : frz i env = frzS i env env[i]? := rfl
@[simp] theorem sFrz_ev (f : SD) : sFrz i f env = f (frz i env) := rfl
@[simp] theorem sRetN_ev : sRetN env = .rt .non := rfl
def retS : Option Slot → Out
  | some (.own d) => .rt d
  | some (.val d) => if mutD d = true then .stuck else .rt d
  | _ => .stuck
@[simp] theorem retS_own (d : D) : retS (some (.own d)) = .rt d := rfl
@[simp] theorem retS_int (x : Int) : retS (some (.val (.int x))) = .rt (.int x) := rfl
@[simp] theorem retS_str (x : Str) : retS (some (.val (.str x))) = .rt (.str x) := rfl
@[simp] theorem retS_bl (x : Bool) : retS (some (.val (.bl x))) = .rt (.bl x) := rfl
@[simp] theorem retS_tup (x : List D) : retS (some (.val (.tup x))) = .rt (.tup x) := rfl
@[simp] theorem retS_non : retS (some (.val .non)) = .rt .non := rfl
@[simp] theorem sRetV_ev : sRetV i env = retS env[i]? := rfl
@[simp] theorem gVar_ev (d : D) : gVar i d env = some (env.set i (.val d)) := rfl
@[simp] theorem gNilD_ev : gNilD [] env = some env := rfl
@[simp] theorem gConsD_ev (a : GD) (b : GsD) (d : D) (r : List D) : gConsD a b (d :: r) env = (a d env).bind (b r) := rfl
@[simp] theorem gTupD_tup (b : GsD) (ds : List D) : gTupD b (.tup ds) env = b ds env := rfl
@[simp] theorem gTupD_ctp (b : GsD) (ds : List D) : gTupD b (.ctp ds) env = b ds env := rfl
@[simp] theorem items_lst (l : List D) : items (.lst l) = some l := rfl
@[simp] theorem items_tup (l : List D) : items (.tup l) = some l := rfl
@[simp] theorem items_ctp (l : List D) : items (.ctp l) = some l := rfl
@[simp] theorem enm1_ev (ds : List D) : enm1 [.lst ds] = some (enumD ds) := rfl
@[simp] theorem zip2_lst (ds es : List D) : zip2 [.lst ds, .lst es] = some (zipD ds es) := rfl
@[simp] theorem zip2_tup (ds es : List D) : zip2 [.tup ds, .tup es] = some (zipD ds es) := rfl
@[simp] theorem rev1_lst (ds : List D) : rev1 (.lst ds) = some ds.reverse := rfl
@[simp] theorem rev1_tup (ds : List D) : rev1 (.tup ds) = some ds.reverse := rfl
def iborS : Option Slot → Res (List D)
  | some (.bor d) => ofO (items d)
  | some (.val d) => ofO (items d)
  | _ => .stuck
@[simp] theorem iborS_bor (d : D) : iborS (some (.bor d)) = ofO (items d) := rfl
@[simp] theorem iborS_val (d : D) : iborS (some (.val d)) = ofO (items d) := rfl
@[simp] theorem iBor_ev : iBor i env = iborS env[i]? := rfl
def runO : Out → Res D
  | .nx _ => .ok .non
  | .rt d => .ok d
  | .exc x _ => .exc x
  | .stuck => .stuck
@[simp] theorem runO_nx (e : EnvD) : runO (.nx e) = .ok .non := rfl
@[simp] theorem runO_rt (d : D) : runO (.rt d) = .ok d := rfl
@[simp] theorem runO_exc (x : Exn) (e : EnvD) : runO (.exc x e) = .exc x := rfl
@[simp] theorem runD_ev (F : SD) (ms : List Bool) (n : Nat) (ds : List D) : runD F ms n ds = runO (F (envOf ms ds n)) := rfl
@[simp] theorem addD_int (i j : Int) : addD (.int i) (.int j) = some (.int (i + j)) := rfl
@[simp] theorem addD_str (s t : Str) : addD (.str s) (.str t) = if s.length + t.length ≤ 1000000 then some (.str (s ++ t)) else none := rfl
@[simp] theorem addD_tup (s t : List D) : addD (.tup s) (.tup t) = if s.length + t.length ≤ 1000000 then some (.tup (s ++ t)) else none := rfl
@[simp] theorem addD_lst (s t : List D) : addD (.lst s) (.lst t) = if s.length + t.length ≤ 1000000 then some (.lst (s ++ t)) else none := rfl
@[simp] theorem subD_int (i j : Int) : subD (.int i) (.int j) = some (.int (i - j)) := rfl
@[simp] theorem modD_int (i j : Int) : modD (.int i) (.int j) = if 0 < j then some (.int (i % j)) else none := rfl
@[simp] theorem divD_int (i j : Int) : divD (.int i) (.int j) = if 0 < j ∧ j.natAbs < 1073741824 then some (.int (i / j)) else none := rfl
@[simp] theorem negD_int (i : Int) : negD (.int i) = some (.int (-i)) := rfl
@[simp] theorem bo_ev (b : Bool) : bo (some b) = some (.bl b) := rfl
@[simp] theorem ltD_int (i j : Int) : ltD (.int i) (.int j) = some (.bl (decide (i < j))) := rfl
@[simp] theorem leD_int (i j : Int) : leD (.int i) (.int j) = some (.bl (decide (i ≤ j))) := rfl
@[simp] theorem gtD_int (i j : Int) : gtD (.int i) (.int j) = some (.bl (decide (j < i))) := rfl
@[simp] theorem geD_int (i j : Int) : geD (.int i) (.int j) = some (.bl (decide (j ≤ i))) := rfl
@[simp] theorem isNonD_ev (a : D) : isNonD a .non = some (.bl (decide (a = .non))) := by cases a <;> rfl
@[simp] theorem notNonD_ev (a : D) : notNonD a .non = some (.bl (!decide (a = .non))) := by cases a <;> rfl
@[simp] theorem keyOk_f (k : D) : keyOk false k = key0 k := rfl
@[simp] theorem keyOk_tup (l : List D) : keyOk true (.tup l) = l.all key0 := rfl
@[simp] theorem inDK_dct (x : D) (t : Bool) (kvs : List (D × D)) : inDK x (.dct t kvs) = if keyOk t x = true then some (lookD kvs x).isSome else none := by cases x <;> rfl
@[simp] theorem inDK_lst (x : D) (l : List D) : inDK x (.lst l) = inD0 x (.lst l) := by cases x <;> rfl
@[simp] theorem inDK_tup (x : D) (l : List D) : inDK x (.tup l) = inD0 x (.tup l) := by cases x <;> rfl
@[simp] theorem inDK_ctp (x : D) (l : List D) : inDK x (.ctp l) = inD0 x (.ctp l) := by cases x <;> rfl
@[simp] theorem inDK_str (x : D) (s : Str) : inDK x (.str s) = inD0 x (.str s) := by cases x <;> rfl
@[simp] theorem inV2_ev (x y : D) : inV2 x y = bo ((inDK x y).map (xor false)) := rfl
@[simp] theorem ninV2_ev (x y : D) : ninV2 x y = bo ((inDK x y).map (xor true)) := rfl
@[simp] theorem lenD_str (s : Str) : lenD [.str s] = if s.length ≤ 1000000 then some (.int s.length) else none := rfl
@[simp] theorem lenD_lst (l : List D) : lenD [.lst l] = some (.int l.length) := rfl
@[simp] theorem lenD_tup (l : List D) : lenD [.tup l] = some (.int l.length) := rfl
@[simp] theorem lenD_ctp (l : List D) : lenD [.ctp l] = some (.int l.length) := rfl
@[simp] theorem lenD_dct (l : List (D × D)) : lenD [.dct false l] = some (.int l.length) := rfl
@[simp] theorem slD_lst (l : List D) (a b : Option Int) : slD (.lst l) a b = some (.lst (cutD l a b)) := rfl
@[simp] theorem slD_tup (l : List D) (a b : Option Int) : slD (.tup l) a b = some (.tup (cutD l a b)) := rfl
@[simp] theorem slD_str (s : Str) (a b : Option Int) : slD (.str s) a b = if s.length ≤ 1000000 then some (.str (cutS s a b)) else none := rfl
@[simp] theorem asI_int (x : Int) : asI (.int x) = some (some x) := rfl
@[simp] theorem tupD_lst (l : List D) : tupD [.lst l] = some (.tup l) := rfl
@[simp] theorem tupD_tup (l : List D) : tupD [.tup l] = some (.tup l) := rfl
@[simp] theorem intD_int (x : Int) : intD [.int x] = some (.int x) := rfl
@[simp] theorem intD_bl (x : Bool) : intD [.bl x] = some (.int (if x = true then 1 else 0)) := rfl
@[simp] theorem strD_int (x : Int) : strD [.int x] = if x.natAbs.log2 < 1920 then some (.str (toString x)) else none := rfl
@[simp] theorem listA_lst (l : List D) : listA [.lst l] = some (.lst l) := rfl
@[simp] theorem listA_tup (l : List D) : listA [.tup l] = some (.lst l) := rfl
@[simp] theorem listA_str (s : Str) : listA [.str s] = if s.length ≤ 1000000 then some (.lst ((signsS s).map .str)) else none := rfl
@[simp] theorem max2D_int (i j : Int) : max2D [.int i, .int j] = some (.int (if j > i then j else i)) := rfl
@[simp] theorem min2D_int (i j : Int) : min2D [.int i, .int j] = some (.int (if j < i then j else i)) := rfl
def appO (i : Nat) (f : ED) (env : EnvD) : Option Slot → Out
  | some (.own (.lst l)) => oApp i l env (f env)
  | _ => .stuck
@[simp] theorem appO_own (f : ED) (l : List D) : appO i f env (some (.own (.lst l))) = oApp i l env (f env) := rfl
theorem own_cases (o : Option Slot) : (∃ l, o = some (.own (.lst l))) ∨ (∃ t l, o = some (.own (.dct t l))) ∨ (∀ (f : ED) (i : Nat) (env : EnvD), appO i f env o = .stuck) ∧ (∀ env : EnvD, env[i]? = o → ownL env i = false ∧ ownK env i = false ∧ ownD env i = false) := by
  cases o with
  | none => exact .inr (.inr ⟨fun _ _ _ => rfl, fun env h => by simp [ownL, ownK, ownD, h]⟩)
  | some s => cases s with
    | own d => cases d <;> first | exact .inl ⟨_, rfl⟩ | exact .inr (.inl ⟨_, _, rfl⟩) | exact .inr (.inr ⟨fun _ _ _ => rfl, fun env h => by simp [ownL, ownK, ownD, h]⟩)
    | _ => exact .inr (.inr ⟨fun _ _ _ => rfl, fun env h => by simp [ownL, ownK, ownD, h]⟩)
@[simp] theorem sApp_ev (f : ED) : sApp i f env = appO i f env env[i]? := by
  rcases own_cases (i := i) env[i]? with ⟨l, h⟩ | ⟨t, l, h⟩ | ⟨h1, h2⟩
  · rw [h]
    unfold sApp
    rw [if_pos (by simp [ownL, h])]
    simp only [appO_own]
    unfold oApp
    congr 1
    funext y
    simp only [updO, h, appD]
    split <;> rename_i hh <;> split at hh <;> simp_all
  · rw [h]; unfold sApp; rw [if_neg (by simp [ownL, h])]; rfl
  · rw [h1]; unfold sApp; rw [if_neg (by simp [(h2 env rfl).1])]
def putO (i : Nat) (fk : ED) (v : D) (env : EnvD) : Option Slot → Out
  | some (.own (.dct t kvs)) => oPutb i t kvs v env (fk env)
  | _ => .stuck
@[simp] theorem putO_own (fk : ED) (v : D) (t : Bool) (kvs : List (D × D)) : putO i fk v env (some (.own (.dct t kvs))) = oPutb i t kvs v env (fk env) := rfl
def oPut (i : Nat) (fk : ED) (env : EnvD) (r : Res D) : Out := outE r env fun v => putO i fk v env env[i]?
@[simp] theorem oPut_ok (fk : ED) (v : D) : oPut i fk env (.ok v) = putO i fk v env env[i]? := rfl
@[simp] theorem oPut_exc (fk : ED) (x : Exn) : oPut i fk env (.exc x) = .exc x env := rfl
@[simp] theorem sPutD_ev (fk fv : ED) : sPutD i fk fv env = oPut i fk env (fv env) := by
  unfold sPutD oPut
  congr 1
  funext v
  cases h : env[i]? with
  | none => rw [if_neg (by simp [ownD, h])]; rfl
  | some s => cases s with
    | own d => cases d with
      | dct t l =>
        rw [if_pos (by simp [ownD, h])]
        simp only [putO_own]
        unfold oPutb
        congr 1
        funext y
        simp only [updO, h, dputD]
        split <;> rename_i hh <;> split at hh <;> simp_all
      | _ => rw [if_neg (by simp [ownD, h])]; rfl
    | _ => rw [if_neg (by simp [ownD, h])]; rfl
def clrO (i : Nat) (env : EnvD) : Option Slot → Out
  | some (.own (.lst l)) => .nx (env.set i (.own (.lst [])))
  | _ => .stuck
@[simp] theorem clrO_own (l : List D) : clrO i env (some (.own (.lst l))) = .nx (env.set i (.own (.lst []))) := rfl
@[simp] theorem sClearL_ev : sClearL i env = clrO i env env[i]? := by
  unfold sClearL
  cases h : env[i]? with
  | none => rw [if_neg (by simp [ownL, h])]; rfl
  | some s => cases s with
    | own d => cases d with
      | lst l => rw [if_pos (by simp [ownL, h])]; simp [updO, h]
      | _ => rw [if_neg (by simp [ownL, h])]; rfl
    | _ => rw [if_neg (by simp [ownL, h])]; rfl
def clrK (i : Nat) (env : EnvD) : Option Slot → Out
  | some (.own (.dct false l)) => .nx (env.set i (.own (.dct false [])))
  | _ => .stuck
@[simp] theorem clrK_own (l : List (D × D)) : clrK i env (some (.own (.dct false l))) = .nx (env.set i (.own (.dct false []))) := rfl
@[simp] theorem sClearD_ev : sClearD i env = clrK i env env[i]? := by
  unfold sClearD
  cases h : env[i]? with
  | none => rw [if_neg (by simp [ownK, h])]; rfl
  | some s => cases s with
    | own d => cases d with
      | dct t l => cases t with
        | false => rw [if_pos (by simp [ownK, h])]; simp [updO, h]
        | true => rw [if_neg (by simp [ownK, h])]; rfl
      | _ => rw [if_neg (by simp [ownK, h])]; rfl
    | _ => rw [if_neg (by simp [ownK, h])]; rfl
@[simp] theorem sRaise_ev (x : Str) : sRaise x env = .exc ⟨x, []⟩ env := rfl
@[simp] theorem isTD_ev (T : String) (d : D) : isTD T d = (tyName d).map fun t => .bl (t == T || (t == "bool" && T == "int")) := rfl
end
@[simp] theorem eqW_int (a b : Int) : eqW (.int a) (.int b) = some (.bl (decide (a = b))) := by simp [eqW, eqD, eqD0, untop, scalD]
@[simp] theorem eqW_str (a b : Str) : eqW (.str a) (.str b) = some (.bl (decide (a = b))) := by simp [eqW, eqD, eqD0, untop, scalD]
@[simp] theorem eqW_bl (a b : Bool) : eqW (.bl a) (.bl b) = some (.bl (decide (a = b))) := by simp [eqW, eqD, eqD0, untop, scalD]
@[simp] theorem neW_int (a b : Int) : neW (.int a) (.int b) = some (.bl (!decide (a = b))) := by simp [neW, eqD, eqD0, untop, scalD]
@[simp] theorem neW_str (a b : Str) : neW (.str a) (.str b) = some (.bl (!decide (a = b))) := by simp [neW, eqD, eqD0, untop, scalD]
@[simp] theorem neW_bl (a b : Bool) : neW (.bl a) (.bl b) = some (.bl (!decide (a = b))) := by simp [neW, eqD, eqD0, untop, scalD]
/-- two things of the same kind that are deep -/
theorem eqW_deep {a b : D} (h1 : scalD (untop a) (untop b) = false) (h2 : eqOk (untop a) (untop b) = true) : eqW a b = some (.bl (decide (untop a = untop b))) := by
  simp [eqW, eqD, eqD0, h1, h2]
theorem neW_deep {a b : D} (h1 : scalD (untop a) (untop b) = false) (h2 : eqOk (untop a) (untop b) = true) : neW a b = some (.bl (!decide (untop a = untop b))) := by
  simp [neW, eqD, eqD0, h1, h2]
/-! ### loops -/
theorem forD_inv {set : GD} {f : SD} {items : List D} {env : EnvD} (I : Nat → EnvD → Prop) (h0 : I 0 env)
    (hs : ∀ i d env, items[i]? = some d → I i env → ∃ e env', set d env = some e ∧ f e = .nx env' ∧ I (i + 1) env') : ∃ env', forD set f items env = .nx env' ∧ I items.length env' := by
  have key : ∀ (n i : Nat) (env : EnvD), n = items.length - i → i ≤ items.length → I i env → ∃ env', forD set f (items.drop i) env = .nx env' ∧ I items.length env' := by
    intro n
    induction n with
    | zero =>
      intro i env hn hi hI
      have e : i = items.length := by omega
      subst e
      rw [List.drop_length]
      exact ⟨env, rfl, hI⟩
    | succ n ih =>
      intro i env hn hi hI
      have hlt : i < items.length := by omega
      obtain ⟨e, env', e1, e2, e3⟩ := hs i items[i] env (List.getElem?_eq_getElem hlt) hI
      obtain ⟨env2, e4, e5⟩ := ih (i + 1) env' (by omega) (by omega) e3
      refine ⟨env2, ?_, e5⟩
      rw [List.drop_eq_getElem_cons hlt]
      unfold forD
      rw [e1]
      dsimp only
      rw [e2]
      exact e4
  obtain ⟨env', h1, h2⟩ := key items.length 0 env rfl (Nat.zero_le _) h0
  exact ⟨env', h1, h2⟩
/-- a loop over l, mapped, its state kept as st s -/
theorem forD_fold {α S : Type} {set : GD} {f : SD} {φ : α → D} {st : S → EnvD} {step : S → α → S} (P : S → Prop) : ∀ {l : List α} {s : S}, P s → (∀ s a, P s → a ∈ l → P (step s a)) → (∀ s a, P s → a ∈ l → ∃ e, set (φ a) (st s) = some e ∧ f e = .nx (st (step s a))) →
    forD set f (l.map φ) (st s) = .nx (st (l.foldl step s)) ∧ P (l.foldl step s)
  | [], s, h0, _, _ => ⟨rfl, h0⟩
  | a :: l, s, h0, hp, hs => by
    obtain ⟨e, e1, e2⟩ := hs s a h0 List.mem_cons_self
    obtain ⟨i1, i2⟩ := forD_fold P (l := l) (hp s a h0 List.mem_cons_self) (fun s b hs hb => hp s b hs (List.mem_cons_of_mem _ hb)) (fun s b h hb => hs s b h (List.mem_cons_of_mem _ hb))
    refine ⟨?_, i2⟩
    rw [List.map_cons]
    unfold forD
    rw [e1]
    dsimp only
    rw [e2]
    exact i1
theorem lcD_map {α : Type} {set : GD} {f : ED} {env : EnvD} {φ h : α → D} : ∀ {l : List α}, (∀ a ∈ l, ∃ e, set (φ a) env = some e ∧ f e = .ok (h a)) → lcD set tTrue f env (l.map φ) = some (l.map h)
  | [], _ => rfl
  | a :: l, hs => by
    obtain ⟨e, e1, e2⟩ := hs a List.mem_cons_self
    rw [List.map_cons]
    unfold lcD
    rw [e1, lcD_map fun b hb => hs b (List.mem_cons_of_mem _ hb)]
    simp [e2, Res.opt, tTrue]
theorem lcD_filter {α : Type} {set : GD} {t : TD} {f : ED} {env : EnvD} {φ h : α → D} {p : α → Bool} : ∀ {l : List α}, (∀ a ∈ l, ∃ e, set (φ a) env = some e ∧ t e = .ok (p a) ∧ (p a = true → f e = .ok (h a))) → lcD set t f env (l.map φ) = some ((l.filter p).map h)
  | [], _ => rfl
  | a :: l, hs => by
    obtain ⟨e, e1, e2, e3⟩ := hs a List.mem_cons_self
    rw [List.map_cons]
    unfold lcD
    rw [e1, lcD_filter fun b hb => hs b (List.mem_cons_of_mem _ hb)]
    by_cases hp : p a = true
    · simp [e2, Res.opt, hp, e3 hp]
    · simp [e2, Res.opt, hp]
@[simp] theorem strsD_map (l : List Str) : strsD (l.map .str) = some l := by
  induction l with
  | nil => rfl
  | cons a l ih => show (strsD (l.map .str)).map (a :: ·) = _; rw [ih]; rfl
@[simp] theorem intsD_map (l : List Int) : intsD (l.map .int) = some l := by
  induction l with
  | nil => rfl
  | cons a l ih => show (intsD (l.map .int)).map (a :: ·) = _; rw [ih]; rfl
@[simp] theorem bools_map (l : List Bool) : bools (l.map .bl) = some l := by
  induction l with
  | nil => rfl
  | cons a l ih => show (bools (l.map .bl)).map (a :: ·) = _; rw [ih]; rfl
/-! ### texts -/
abbrev S (l : List Nat) : Str := ⟨l.toArray⟩
abbrev tl (s : Str) : List Nat := s.cps.toList
theorem S_tl (s : Str) : S (tl s) = s := by
  obtain ⟨⟨l⟩⟩ := s
  rfl
theorem S_inj {a b : List Nat} (h : S a = S b) : a = b := congrArg (fun x : Str => x.cps.toList) h
theorem str_ext {a b : Str} (h : tl a = tl b) : a = b := by rw [← S_tl a, ← S_tl b, h]
@[simp] theorem S_len (l : List Nat) : (S l).length = l.length := by simp [Str.length]
theorem tl_len (s : Str) : (tl s).length = s.length := by simp [Str.length]
def catS (ys : List Str) : Str := S (ys.map tl).flatten
theorem joinL_nil : ∀ l : List (List Nat), TL.joinL [] l = l.flatten
  | [] => rfl
  | [p] => by simp [TL.joinL]
  | p :: q :: r => by
    show p ++ ([] ++ TL.joinL [] (q :: r)) = _
    rw [joinL_nil (q :: r)]; simp
theorem join_nil (ys : List Str) : Txt.join "" ys = catS ys := by
  apply str_ext
  rw [TL.join_eq]
  exact (TL.tl_join "" ys).trans (joinL_nil _)
end Ck

namespace Ck
open PySem PySem.Spec L2 RZ
/-! ### try: body / except c as n: suite -/
def sTryU (i : Nat) (k : Str → Option Bool) (f : SD) (h : Exn → SD) : SD := fun env => match f env with
  | .exc x e => match k x.cls with
    | some true => if e.length ≤ i then .stuck else match h x (e.set i .un) with
      | .nx e2 => .nx (e2.set i .un)
      | .rt d => .rt d
      | _ => .stuck
    | some false => .exc x e
    | none => .stuck
  | o => o
section
variable {X : Cx} {W : WX} {P : PP}
/-- what stands when the suite begins -/
def tSu (g : Gm) (P : PP) (i : Nat) (k : Str → Option Bool) (h : Exn → SD) (a : Addr) (cls : Value) (d : Option Addr) : TS := fun D σ H =>
  ∃ H0 G0 G env x, SR g H0 G0 G H σ env ∧ XR g H cls d x ∧ k x.cls = some true ∧ σ[i]? = some (some (.ref a)) ∧ PstS g W0 P H0 G0 G D (h x env)
theorem SR.set_un {g : Gm} {H0 G0 G H : Hp} {σ : L2.St} {env : EnvD} (s : SR g H0 G0 G H σ env) (j : Nat) (o : Option V) : SR g H0 G0 G H (σ.set j o) (env.set j .un) := by
  refine ⟨s.gh, s.g0, s.h0, s.sep, by rw [List.length_set, List.length_set]; exact s.len, fun k t e => ?_, fun k l d e a h1 h2 h3 h4 => ?_⟩
  · rcases get_set e with ⟨rfl, hl, rfl⟩ | ⟨hne, e⟩
    · trivial
    · rw [List.getElem?_set_ne (fun z => hne z.symm)]
      exact s.slot k t e
  · rcases get_set h1 with ⟨_, _, z⟩ | ⟨n1, h1⟩
    · cases z
    · rcases get_set h2 with ⟨_, _, z⟩ | ⟨n2, h2⟩
      · cases z
      · rw [List.getElem?_set_ne (fun z => n1 z.symm)] at h3
        rw [List.getElem?_set_ne (fun z => n2 z.symm)] at h4
        exact s.dist k l d e a h1 h2 h3 h4
theorem cs_tryU (i : Nat) {x n : Str} {c : Value} {k : Str → Option Bool} {body suite : List Stmt} {b₀ : Stmt} {np pos pos' : Pos} {f : SD} {h : Exn → SD} (hN : X.N.Nodup) (tk : L2N.Takes X W) (hc : L2.Names X x c)
    (hk : ∀ n C b, X.mg n = some (.ref C) → k n = some b → PySem.W.exmOne X.K (.ref C) c = some b)
    (hb : ∀ (W' : WX) (pn : List (Addr × Obj)) (xe : Value → Shared → Prop), L2N.Takes (X.tr pn xe) W' → PassesOwn (model X.prog X.w) X.A X.env xe → CSs (X.tr pn xe) W' P body f)
    (hsu : ∀ (a : Addr) (oe : Obj) (cls : Value) (d : Option Addr) (pn : List (Addr × Obj)), L2N.Zn cls d oe → (∃ vs, oe.data = .fields vs) → PSs (X.suite a ((a, oe) :: pn)) (b₀ :: suite) (tSu X.gm P i k h a cls d))
    (hi : X.N[i]? = some n := by rfl) (hln : X.env.kindOf n = some .local := by rfl) (hs : X.stack = X.env :: X.outer := by rfl) (hf : X.env.frame = some X.env.locals := by rfl) :
    CS X W P (.Try body [.ExceptHandler (some (.Name x np)) (some n) (b₀ :: suite) pos'] [] [] pos) (sTryU i k f h) := by
  refine (L2N.ps_try_as hs hf hN hi hln hc tk (tb := fun W' => tS X.gm W' P f) (ts := tSu X.gm P i k h) hb hsu).imp fun D σ H ⟨H0, G0, G, env, s, p⟩ => ?_
  refine ⟨H0, G0, G, env, s, ?_⟩
  unfold sTryU at p
  cases e : f env with
  | nx env' => rw [e] at p; exact p
  | rt d => rw [e] at p; exact p
  | stuck => rw [e] at p; exact p
  | exc x1 e1 =>
    rw [e] at p
    intro σ1 c1 d1 G1 H1 g1 s1 xr
    dsimp only at p
    have xr0 := xr
    obtain ⟨C, hC, rfl, hd⟩ := xr
    cases ek : k x1.cls with
    | none => rw [ek] at p; exact p.elim
    | some b =>
      rw [ek] at p
      refine ⟨b, hk _ _ _ hC ek, fun hb1 a ha => ?_, fun hb1 => ?_⟩
      · subst hb1
        dsimp only at p
        by_cases hl : e1.length ≤ i
        · rw [if_pos hl] at p; exact p.elim
        · rw [if_neg hl] at p
          have hl2 : i < σ1.length := by rw [s1.len]; omega
          refine ⟨H0, G0, G1, e1.set i .un, x1, s1.set_un i _, xr0, ek, by rw [List.getElem?_set_self hl2], ?_⟩
          cases eh : h x1 (e1.set i .un) with
          | nx e2 =>
            rw [eh] at p
            intro σ2 G2 H2 g2 s2
            exact p _ G2 H2 (g1.trans g2) (s2.set_un i none)
          | rt d => rw [eh] at p; exact p
          | exc x2 e2 => rw [eh] at p; exact p.elim
          | stuck => rw [eh] at p; exact p.elim
      · subst hb1
        exact p σ1 _ d1 G1 H1 g1 s1 xr0
end
end Ck

namespace Ck
open PySem PySem.Spec L2 RZ
theorem Rs.set {g : Gm} {G : Hp} {v : V} {d : D} : ∀ {xs : List V} {ds : List D} {m : Nat}, Rs g G xs ds → R g G v d → Rs g G (xs.set m v) (ds.set m d)
  | _, _, _, .nil, _ => .nil
  | _, _, 0, .cons _ t, h => .cons h t
  | _, _, _ + 1, .cons h t, k => .cons h (Rs.set t k)
/-! ### a list of one's own lists, in slot i -/
inductive Al2 (g : Gm) (H0 G H : Hp) : List Addr → List (List D) → Prop
  | nil : Al2 g H0 G H [] []
  | cons {a : Addr} {as : List Addr} {xs : List V} {ds : List D} {rows : List (List D)} : H a = some (.lst xs) → Rs g G xs ds → G a = none → H0 a = none → Al2 g H0 G H as rows → Al2 g H0 G H (a :: as) (ds :: rows)
def Own2 (g : Gm) (H0 G H : Hp) (σ : L2.St) (i : Nat) (rows : List (List D)) : Prop :=
  ∃ L as, σ[i]? = some (some (.ref L)) ∧ H L = some (.lst (as.map V.ref)) ∧ G L = none ∧ H0 L = none ∧ L ∉ as ∧ as.Nodup ∧ Al2 g H0 G H as rows
section
variable {g : Gm} {H0 G G' H H' : Hp} {as : List Addr} {rows : List (List D)}
theorem Al2.mono (t : Same H H') (e : Same G G') (n : ∀ a, a ∈ as → G' a = none) (h : Al2 g H0 G H as rows) : Al2 g H0 G' H' as rows := by
  induction h with
  | nil => exact .nil
  | cons h1 h2 h3 h4 _ ih => exact .cons (t _ _ h1) (h2.mono e) (n _ List.mem_cons_self) h4 (ih fun a ha => n a (List.mem_cons_of_mem _ ha))
theorem Al2.upd {p : Addr} {o : HO} (hp : p ∉ as) (h : Al2 g H0 G H as rows) : Al2 g H0 G (upd H p o) as rows := by
  induction h with
  | nil => exact .nil
  | @cons a as xs ds rows h1 h2 h3 h4 _ ih => exact .cons (by rw [upd_ne (fun z => hp (by rw [z]; exact List.mem_cons_self))]; exact h1) h2 h3 h4 (ih fun ha => hp (List.mem_cons_of_mem _ ha))
theorem Al2.len (h : Al2 g H0 G H as rows) : as.length = rows.length := by
  induction h with
  | nil => rfl
  | cons _ _ _ _ _ ih => simp [ih]
theorem Al2.of_mem (h : Al2 g H0 G H as rows) : ∀ {a : Addr}, a ∈ as → (∃ xs, H a = some (.lst xs)) ∧ G a = none ∧ H0 a = none := by
  induction h with
  | nil => intro a ha; cases ha
  | cons h1 h2 h3 h4 _ ih =>
    intro a ha
    rcases List.mem_cons.mp ha with rfl | ha
    · exact ⟨⟨_, h1⟩, h3, h4⟩
    · exact ih ha
theorem Al2.get (h : Al2 g H0 G H as rows) : ∀ {k : Nat} {ds : List D}, rows[k]? = some ds → ∃ a xs, as[k]? = some a ∧ H a = some (.lst xs) ∧ Rs g G xs ds := by
  induction h with
  | nil => intro k ds e; cases e
  | @cons a as xs ds0 rows h1 h2 h3 h4 _ ih =>
    intro k ds e
    cases k with
    | zero => cases e; exact ⟨a, xs, rfl, h1, h2⟩
    | succ k => exact ih e
theorem Al2.snoc {a : Addr} {xs : List V} {ds : List D} (h : Al2 g H0 G H as rows) (h1 : H a = some (.lst xs)) (h2 : Rs g G xs ds) (h3 : G a = none) (h4 : H0 a = none) : Al2 g H0 G H (as ++ [a]) (rows ++ [ds]) := by
  induction h with
  | nil => exact .cons h1 h2 h3 h4 .nil
  | cons k1 k2 k3 k4 _ ih => exact .cons k1 k2 k3 k4 ih
theorem Al2.put {k : Nat} {a : Addr} {xs : List V} {ds : List D} (h : Al2 g H0 G H as rows) (nd : as.Nodup) (hk : as[k]? = some a) (h2 : Rs g G xs ds) : Al2 g H0 G (L2.upd H a (.lst xs)) as (rows.set k ds) := by
  induction h generalizing k with
  | nil => cases hk
  | @cons b as xs0 ds0 rows h1 k2 h3 h4 t ih =>
    cases k with
    | zero =>
      cases hk
      exact .cons upd_same h2 h3 h4 (t.upd (List.nodup_cons.mp nd).1)
    | succ k =>
      have hm : a ∈ as := List.mem_of_getElem? hk
      exact .cons (by rw [upd_ne (fun z => (List.nodup_cons.mp nd).1 (by rw [z]; exact hm))]; exact h1) k2 h3 h4 (ih (List.nodup_cons.mp nd).2 hk)
theorem Al2.good {G1 : Hp} (h : Al2 g H0 G H as rows) (e : Same G G1) (k : ∀ a, a ∈ as → G1 a = H a) : Rs g G1 (as.map V.ref) (rows.map .lst) := by
  induction h with
  | nil => exact .nil
  | cons h1 h2 h3 h4 _ ih => exact .cons (.lst (.inl ((k _ List.mem_cons_self).trans h1)) (h2.mono e)) (ih fun a ha => k a (List.mem_cons_of_mem _ ha))
end
def noOwn (env : EnvD) : Bool := env.all fun s => match s with
  | .own _ => false
  | _ => true
theorem noOwn_no {env : EnvD} (h : noOwn env = true) (j : Nat) (d : D) : env[j]? ≠ some (.own d) := fun e => by
  have := List.all_eq_true.mp h _ (List.mem_of_getElem? e)
  cases this
@[simp] def rowsD (rows : List (List D)) : D := .lst (rows.map .lst)
theorem Own2.freeze {g : Gm} {H0 G0 G H : Hp} {σ : L2.St} {env : EnvD} {i : Nat} {rows : List (List D)} (s : SR g H0 G0 G H σ env) (o : Own2 g H0 G H σ i rows) (no : noOwn env = true) :
    ∃ G', Same G G' ∧ SR g H0 G0 G' H σ (env.set i (.val (rowsD rows))) := by
  obtain ⟨L, as, h1, h2, h3, h4, h5, h6, h7⟩ := o
  let G' : Hp := fun b => if b = L ∨ b ∈ as then H b else G b
  have hin : ∀ b, b ∈ as → G' b = H b := fun b hb => if_pos (.inr hb)
  have hL : G' L = H L := if_pos (.inl rfl)
  have e : Same G G' := fun b o q => by
    show (if b = L ∨ b ∈ as then H b else G b) = some o
    split
    · exact s.gh b o q
    · exact q
  refine ⟨G', e, fun b o q => ?_, s.g0.trans e, s.h0, fun a o n q => ?_, by rw [List.length_set]; exact s.len, fun j sl q => ?_, fun j l d e' a q1 q2 q3 q4 => ?_⟩
  · have q : (if b = L ∨ b ∈ as then H b else G b) = some o := q
    split at q
    · exact q
    · exact s.gh b o q
  · have hn : ¬ (a = L ∨ a ∈ as) := by
      rintro (rfl | hm)
      · rw [h4] at q; cases q
      · rw [(h7.of_mem hm).2.2] at q; cases q
    exact (if_neg hn).trans (s.sep a o n q)
  · rcases get_set q with ⟨rfl, hl, rfl⟩ | ⟨hne, q⟩
    · exact ⟨_, h1, .lst (.inl (hL.trans h2)) (h7.good e hin)⟩
    · have h := s.slot j sl q
      cases sl with
      | un => trivial
      | val d => obtain ⟨v, e1, e2⟩ := h; exact ⟨v, e1, e2.mono e⟩
      | bor d => obtain ⟨v, e1, e2⟩ := h; exact ⟨v, e1, e2.mono (.refl _) e⟩
      | own d => exact (noOwn_no no j d q).elim
  · rcases get_set q1 with ⟨_, _, z⟩ | ⟨n1, q1⟩
    · cases z
    · exact (noOwn_no no _ _ q1).elim
theorem Own2.stay {g : Gm} {H0 G H H' : Hp} {σ : L2.St} {i : Nat} {rows : List (List D)} (o : Own2 g H0 G H σ i rows) (t : Same H H') : Own2 g H0 G H' σ i rows := by
  obtain ⟨L, as, h1, h2, h3, h4, h5, h6, h7⟩ := o
  exact ⟨L, as, h1, t _ _ h2, h3, h4, h5, h6, h7.mono t (.refl _) fun a ha => (h7.of_mem ha).2.1⟩
theorem Own2.grow {g : Gm} {H0 G H G' H' : Hp} {σ : L2.St} {i : Nat} {rows : List (List D)} (o : Own2 g H0 G H σ i rows) (r : Gr G H G' H') : Own2 g H0 G' H' σ i rows := by
  obtain ⟨L, as, h1, h2, h3, h4, h5, h6, h7⟩ := o
  exact ⟨L, as, h1, r.h _ _ h2, r.sep _ _ h3 h2, h4, h5, h6, h7.mono r.h r.g fun a ha => by
    obtain ⟨⟨xs, q⟩, n, _⟩ := h7.of_mem ha
    exact r.sep _ _ n q⟩
theorem Own2.set {g : Gm} {H0 G H : Hp} {σ : L2.St} {i j : Nat} {rows : List (List D)} (o : Own2 g H0 G H σ i rows) (n : j ≠ i) (v : Option V) : Own2 g H0 G H (σ.set j v) i rows := by
  obtain ⟨L, as, h1, h⟩ := o
  exact ⟨L, as, by rw [List.getElem?_set_ne n]; exact h1, h⟩

/-! ### statements over it -/
inductive Out2 where
  | nx (rows : List (List D)) (env : EnvD) | rt (d : D) | stuck
abbrev S2 := List (List D) → EnvD → Out2
section
variable (g : Gm) (P : PP)
def PstS2 (H0 G0 G : Hp) (D : Ends) (i : Nat) : Out2 → Prop
  | .nx rows env => ∀ σ G' H', Same G G' → SR g H0 G0 G' H' σ env → Own2 g H0 G' H' σ i rows → D.nx σ H'
  | .rt d => ∀ v G' H', Gr G0 H0 G' H' → P H0 G' H' v d → D.rt v H'
  | .stuck => False
def tS2 (i : Nat) (f : S2) : TS := fun D σ H => ∃ H0 G0 G env rows, SR g H0 G0 G H σ env ∧ Own2 g H0 G H σ i rows ∧ PstS2 g P H0 G0 G D i (f rows env)
end
theorem PstS2.grow {g : Gm} {P : PP} {H0 G0 G G1 : Hp} {D : Ends} {i : Nat} {r : Out2} (e : Same G G1) (p : PstS2 g P H0 G0 G D i r) : PstS2 g P H0 G0 G1 D i r := by
  cases r with
  | nx rows env => exact fun σ G' H' e' s => p σ G' H' (e.trans e') s
  | rt d => exact p
  | stuck => exact p
section
variable {X : Cx} {W : WX} {P : PP}
def s2Seq (f h : S2) : S2 := fun rows env => match f rows env with
  | .nx r e => h r e
  | o => o
def s2Nil : S2 := fun rows env => .nx rows env
theorem css2_one {i : Nat} {st : Stmt} {f : S2} (h : PS X st (tS2 X.gm P i f)) : PSs X [st] (tS2 X.gm P i f) := pss_one h
theorem css2_nil {i : Nat} : PSs X [] (tS2 X.gm P i s2Nil) := pss_nil.imp fun D σ H ⟨H0, G0, G, env, rows, s, o, p⟩ => p σ G H (.refl _) s o
theorem css2_cons {i : Nat} {st : Stmt} {rest : List Stmt} {f h : S2} (h1 : PS X st (tS2 X.gm P i f)) (h2 : PSs X rest (tS2 X.gm P i h)) : PSs X (st :: rest) (tS2 X.gm P i (s2Seq f h)) :=
  (pss_cons h1 h2).imp fun D σ H ⟨H0, G0, G, env, rows, s, o, p⟩ => by
    refine ⟨H0, G0, G, env, rows, s, o, ?_⟩
    unfold s2Seq at p
    cases e : f rows env with
    | nx r' e' => rw [e] at p; exact fun σ' G' H' g' s' o' => ⟨H0, G0, G', e', r', s', o', p.grow g'⟩
    | rt d => rw [e] at p; exact p
    | stuck => rw [e] at p; exact p
/-- the rest of the suite, the rows as they are from here on -/
def s2Fix (i : Nat) (f : SD) : S2 := fun rows env => if noOwn env = true then match f (env.set i (.val (rowsD rows))) with
  | .rt d => .rt d
  | _ => .stuck else .stuck
theorem css2_fix (i : Nat) {sts : List Stmt} {f : SD} (h : CSs X W P sts f) : PSs X sts (tS2 X.gm P i (s2Fix i f)) := h.imp fun D σ H ⟨H0, G0, G, env, rows, s, o, p⟩ => by
  unfold s2Fix at p
  by_cases no : noOwn env = true
  · rw [if_pos no] at p
    obtain ⟨G', e, s'⟩ := o.freeze s no
    refine ⟨H0, G0, G', _, s', ?_⟩
    cases e1 : f (env.set i (.val (rowsD rows))) with
    | rt d => rw [e1] at p; exact p
    | nx _ => rw [e1] at p; exact p.elim
    | exc _ _ => rw [e1] at p; exact p.elim
    | stuck => rw [e1] at p; exact p.elim
  · rw [if_neg no] at p; exact p.elim
@[simp] def scal : D → Bool
  | .int _ => true
  | .str _ => true
  | .bl _ => true
  | .non => true
  | _ => false
theorem R.scal {g : Gm} {G G' : Hp} {v : V} {d : D} (h : Ck.scal d = true) (r : R g G v d) : R g G' v d := by
  cases r with
  | non => exact .non
  | bl b => exact .bl b
  | int b => exact .int b
  | str b => exact .str b
  | _ => cases h
/-- an expression read while the rows are looked at: a scalar -/
def e2v (i : Nat) (f : ED) (rows : List (List D)) (env : EnvD) (k : D → Out2) : Out2 := if noOwn env = true then match f (env.set i (.val (rowsD rows))) with
  | .ok d => if scal d = true then k d else .stuck
  | _ => .stuck else .stuck
theorem tE2 {i : Nat} {f : ED} {σ : L2.St} {H H0 G0 G : Hp} {env : EnvD} {rows : List (List D)} {Q' : VK} {k : D → Out2} {D : Ends} (s : SR X.gm H0 G0 G H σ env) (o : Own2 X.gm H0 G H σ i rows)
    (p : PstS2 X.gm P H0 G0 G D i (e2v i f rows env k))
    (c : ∀ d v H1, noOwn env = true → Same H H1 → SR X.gm H0 G0 G H1 σ env → Own2 X.gm H0 G H1 σ i rows → R X.gm G v d → Ck.scal d = true → PstS2 X.gm P H0 G0 G D i (k d) → Q' v H1) : tE X.gm W (PR X.gm) f σ H Q' := by
  unfold e2v at p
  by_cases no : noOwn env = true
  · rw [if_pos no] at p
    obtain ⟨G', e, s'⟩ := o.freeze s no
    refine ⟨H0, G0, G', _, s', ?_⟩
    cases e1 : f (env.set i (.val (rowsD rows))) with
    | exc _ => rw [e1] at p; exact p.elim
    | stuck => rw [e1] at p; exact p.elim
    | ok d =>
      rw [e1] at p
      have p : PstS2 X.gm P H0 G0 G D i (if Ck.scal d = true then k d else .stuck) := p
      by_cases hd : Ck.scal d = true
      · rw [if_pos hd] at p
        intro v G1 H1 gr r
        have gr' : Gr G H G H1 := ⟨.refl _, gr.h, s.gh.trans gr.h, fun _ _ q _ => q⟩
        exact c d v H1 no gr.h (s.grow gr') (o.grow gr') (R.scal hd r) hd p
      · rw [if_neg hd] at p; exact p.elim
  · rw [if_neg no] at p; exact p.elim
def s2Set (i j : Nat) (f : ED) : S2 := fun rows env => if j = i then .stuck else e2v i f rows env fun d => .nx rows (env.set j (.val d))
theorem c2_set (i j : Nat) {x : Str} {e : Expr} {f : ED} {pos pos' : Pos} (hN : X.N.Nodup) (he : CE X W e f) (hi : X.N[j]? = some x := by rfl) (hx : Loc X.env.scope x := by first | exact .inl rfl | exact .inr rfl)
    (hs : swapsWith e (some (.Name x pos')) pos.line X.env = pure false := by rfl) (hf : X.fn x = true ∨ X.env.scope.names.lookup x = some .local := by first | exact .inl rfl | exact .inr rfl) : PS X (.Assign [.Name x pos'] e pos) (tS2 X.gm P i (s2Set i j f)) :=
  (ps_set hN hi hx he hs hf).imp fun D σ H ⟨H0, G0, G, env, rows, s, o, p⟩ => by
    unfold s2Set at p
    by_cases hj : j = i
    · rw [if_pos hj] at p; exact p.elim
    · rw [if_neg hj] at p
      exact tE2 s o p fun d v H1 _ t s1 o1 r hd p1 => p1 _ G H1 (.refl _) (s1.set_val j r) (o1.set hj _)
/-- rows[a][b] = e -/
def row2 (rows : List (List D)) (r c : D) (d : D) : Option (List (List D)) := match r, c with
  | .int r, .int c => (ixN rows.length r).bind fun k => (rows[k]?).bind fun row => (ixN row.length c).map fun m => rows.set k (row.set m d)
  | _, _ => none
def s2Put (i : Nat) (fa fb fe : ED) : S2 := fun rows env => e2v i fe rows env fun d => e2v i fa rows env fun r => e2v i fb rows env fun c => match row2 rows r c d with
  | some rows' => .nx rows' env
  | none => .stuck
theorem c2_put (i : Nat) {x : Str} {a b e : Expr} {fa fb fe : ED} {xpos pos1 pos2 pos : Pos} (ha : CE X W a fa) (hb : CE X W b fb) (he : CE X W e fe) (hN : X.N[i]? = some x := by rfl) (hv : Vis X.env.scope x := by first | exact Or.inl rfl | exact Or.inr (Or.inl rfl) | exact Or.inr (Or.inr rfl)) (hd : (x == ("__debug__" : Str)) = false := by decide)
    (hcd : (x == ("__classdict__" : Str)) = false := by decide) (hs : swapsWithSole [.Subscript (.Subscript (.Name x xpos) a pos1) b pos2] e pos.line X.env = pure false := by rfl) (hw : swappedStores [.Subscript (.Subscript (.Name x xpos) a pos1) b pos2] e X.env = pure none := by rfl)
    (h1 : (assignEach [.Subscript (.Subscript (.Name x xpos) a pos1) b pos2] X.env).map (·.2) = [assign (.Subscript (.Subscript (.Name x xpos) a pos1) b pos2) X.env] := by rfl) (hpl : PlainIx a := by first | exact (fun _ _ => rfl) | (intro _ _; rfl))
    (hst : ∀ v, assign (.Subscript (.Subscript (.Name x xpos) a pos1) b pos2) X.env v = (do
      let ov ← holding [v] (eval (.Subscript (.Name x xpos) a pos1) X.env)
      let iv ← holding [v, ov] (eval b X.env)
      standAt pos2
      holding [v, ov, iv] (setItem ov iv v)
      release [v, ov, iv] []) := by intro _; rfl) :
    PS X (.Assign [.Subscript (.Subscript (.Name x xpos) a pos1) b pos2] e pos) (tS2 X.gm P i (s2Put i fa fb fe)) :=
  (ps_asg he (pg_sub (pe_ix ix_list (pe_var hN hv hd hcd) ha hpl) hb set_list hst) hs hw h1).imp fun D σ H ⟨H0, G0, G, env, rows, s, o, p⟩ => by
    refine tE2 s o p fun d v H1 no t1 s1 o1 r1 k1 p1 => ?_
    obtain ⟨L, as, g1, _⟩ := id o1
    refine ⟨.ref L, g1, tE2 s1 o1 p1 fun r vr H2 _ t2 s2 o2 r2 k2 p2 => ?_⟩
    obtain ⟨L', as', g1', g2, g3, g4, g5, g6, g7⟩ := id o2
    rw [g1] at g1'
    cases g1'
    -- the index must be whole
    have key : ∃ kr, r = .int kr ∧ ∃ k row, ixN rows.length kr = some k ∧ rows[k]? = some row := by
      unfold e2v at p2
      by_cases no : noOwn env = true
      · rw [if_pos no] at p2
        cases e1 : fb (env.set i (.val (rowsD rows))) with
        | exc _ => rw [e1] at p2; exact p2.elim
        | stuck => rw [e1] at p2; exact p2.elim
        | ok c =>
          rw [e1] at p2
          have p2 : PstS2 X.gm P H0 G0 G D i (if Ck.scal c = true then (match row2 rows r c d with | some rows' => .nx rows' env | none => .stuck) else .stuck) := p2
          by_cases hc : Ck.scal c = true
          · rw [if_pos hc] at p2
            cases e2 : row2 rows r c d with
            | none => rw [e2] at p2; exact p2.elim
            | some rows' =>
              unfold row2 at e2
              split at e2
              · obtain ⟨k, z1, e2⟩ := Option.bind_eq_some_iff.mp e2
                obtain ⟨row, z2, e2⟩ := Option.bind_eq_some_iff.mp e2
                exact ⟨_, rfl, k, row, z1, z2⟩
              · cases e2
          · rw [if_neg hc] at p2; exact p2.elim
      · rw [if_neg no] at p2; exact p2.elim
    obtain ⟨kr, rfl, k, row, z1, z2⟩ := key
    obtain ⟨a1, xs1, y1, y2, y3⟩ := g7.get z2
    have evr : vr = .int kr := r2.int_inv
    subst evr
    refine ⟨L, as'.map V.ref, kr, .ref a1, rfl, rfl, .of g2, ?_, ?_⟩
    · unfold atI
      rw [List.length_map, g7.len, z1]
      show (as'.map V.ref)[k]? = some (.ref a1)
      rw [List.getElem?_map, y1]
      rfl
    · refine tE2 s2 o2 p2 fun c vc H3 _ t3 s3 o3 r3 k3 p3 => ?_
      cases e2 : row2 rows (.int kr) c d with
      | none => rw [e2] at p3; exact p3.elim
      | some rows' =>
        rw [e2] at p3
        cases c with
        | int c' =>
          replace e2 : (ixN rows.length kr).bind (fun k => (rows[k]?).bind fun row => (ixN row.length c').map fun m => rows.set k (row.set m d)) = some rows' := e2
          rw [z1] at e2
          replace e2 : (rows[k]?).bind (fun row => (ixN row.length c').map fun m => rows.set k (row.set m d)) = some rows' := e2
          rw [z2] at e2
          replace e2 : (ixN row.length c').map (fun m => rows.set k (row.set m d)) = some rows' := e2
          cases z3 : ixN row.length c' with
          | none => rw [z3] at e2; cases e2
          | some m =>
            rw [z3] at e2
            cases e2
            have evc : vc = .int c' := r3.int_inv
            subst evc
            obtain ⟨L3, as3, w1, w2, w3, w4, w5, w6, w7⟩ := o3
            rw [g1] at w1
            cases w1
            have eas : as3 = as' := by
              have q := (t3 _ _ g2).symm.trans w2
              have q2 : as'.map V.ref = as3.map V.ref := by injection q with q; injection q
              have q3 := congrArg (List.map fun v => match v with | V.ref a => a | _ => 0) q2
              simpa [List.map_map, Function.comp_def] using q3.symm
            subst eas
            have y2' : H3 a1 = some (.lst xs1) := t3 _ _ y2
            have nL : a1 ≠ L := fun z => w5 (z ▸ List.mem_of_getElem? y1)
            refine ⟨a1, xs1, c', m, rfl, rfl, y2', by rw [y3.length]; exact z3, ?_⟩
            have al := w7.put (xs := xs1.set m v) (ds := row.set m d) w6 y1 (y3.set r1)
            refine p3 σ G _ (.refl _) ?_ ⟨L, as3, g1, by rw [upd_ne nL.symm]; exact w2, w3, w4, w5, w6, al⟩
            have na : G a1 = none := (w7.of_mem (List.mem_of_getElem? y1)).2.1
            have n0 : H0 a1 = none := (w7.of_mem (List.mem_of_getElem? y1)).2.2
            refine ⟨fun b o q => ?_, s3.g0, fun b o q => ?_, s3.sep, s3.len, fun j sl q => ?_, fun j l d e a q1 _ _ _ => ?_⟩
            · rw [upd_ne (ne_of_none q na)]; exact s3.gh b o q
            · rw [upd_ne (ne_of_none q n0)]; exact s3.h0 b o q
            · have h := s3.slot j sl q
              cases sl with
              | un => trivial
              | val d => exact h
              | bor d => exact h
              | own d => exact (noOwn_no no j d q).elim
            · exact (noOwn_no no _ _ q1).elim
        | _ => cases e2
def for2D (set : GD) (f : S2) : List D → S2
  | [], rows, env => .nx rows env
  | d :: ds, rows, env => match set d env with
    | some env' => (match f rows env' with
      | .nx r e => for2D set f ds r e
      | o => o)
    | none => .stuck
def s2For (it : AD) (set : GD) (f : S2) : S2 := fun rows env => match it env with
  | .ok ds => for2D set f ds rows env
  | _ => .stuck
/-- a target that leaves slot i -/
def GOff (i : Nat) (X : Cx) (tg : Expr) (set : GD) : Prop := PG X tg (fun v σ H Q => ∃ H0 G0 G env d env', SR X.gm H0 G0 G H σ env ∧ R X.gm G v d ∧ set d env = some env' ∧ ∀ σ', SR X.gm H0 G0 G H σ' env' → σ'[i]? = σ[i]? → Q σ' H)
theorem goff_var (i j : Nat) {x : Str} {pos : Pos} (hN : X.N.Nodup) (hij : j ≠ i := by decide) (hi : X.N[j]? = some x := by rfl) (hx : Loc X.env.scope x := by first | exact .inl rfl | exact .inr rfl) (hf : X.fn x = true ∨ X.env.scope.names.lookup x = some .local := by first | exact .inl rfl | exact .inr rfl) :
    GOff i X (.Name x pos) (gVar j) := (pg_name hN hi hx hf).imp fun v σ H Q ⟨H0, G0, G, env, d, env', s, r, e, k⟩ => by
  cases e
  exact k _ (s.set_val j r) (List.getElem?_set_ne hij)
theorem c2_for (i : Nat) {tg iter : Expr} {body : List Stmt} {it : AD} {set : GD} {f : S2} {pos : Pos} (hp : PassesOwn (model X.prog X.w) X.A X.env X.xe) (hi : CI X W false tg iter it) (hg : GOff i X tg set) (hb : PSs X body (tS2 X.gm P i f))
    (hc : X.calm = true := by rfl) (hs : ∀ x, foldedSetIterable iter X.env x = pure x := by intro _; rfl) : PS X (.For tg iter body [] pos) (tS2 X.gm P i (s2For it set f)) :=
  (ps_for hp hc hi hg hb hs).imp fun D σ H ⟨H0, G0, G, env, rows, s, o, p⟩ => by
    refine ⟨H0, G0, G, env, s, ?_⟩
    unfold s2For at p
    cases e : it env with
    | exc x => rw [e] at p; exact p.elim
    | stuck => rw [e] at p; exact p.elim
    | ok ds =>
      rw [e] at p
      intro J G1 H1 gr wk
      have p : PstS2 X.gm P H0 G0 G D i (for2D set f ds rows env) := p
      have p1 := PstS2.grow gr.g p
      refine ⟨fun k m σ H => ∃ G env rows, Same G1 G ∧ SR X.gm H0 G0 G H σ env ∧ Own2 X.gm H0 G H σ i rows ∧ m = ds.length - k ∧ PstS2 X.gm P H0 G0 G D i (for2D set f (ds.drop k) rows env), ⟨ds.length, G1, env, rows, .refl _, s.grow gr, o.grow gr, rfl, p1⟩, ?_⟩
      rintro k m σ2 H2 ⟨G2, env2, rows2, sg, s2, o2, rfl, p2⟩
      by_cases hi : k < ds.length
      · refine .inr ⟨wk.go k G2 H2 sg s2.gh s2.h0 hi, fun σ' H' => ∃ G env rows, Same G1 G ∧ SR X.gm H0 G0 G H' σ' env ∧ Own2 X.gm H0 G H' σ' i rows ∧ PstS2 X.gm P H0 G0 G D i (for2D set f (ds.drop (k + 1)) rows env), ?_, ?_⟩
        · rintro σ' H' ⟨G', env', rows', h1, h2, h4, h3⟩
          exact ⟨ds.length - (k + 1), by omega, G', env', rows', h1, h2, h4, rfl, h3⟩
        · intro x H' y
          obtain ⟨G', gr', r⟩ := wk.yld k ds[k] x G2 H2 H' sg s2.gh s2.h0 (List.getElem?_eq_getElem hi) y
          have s3 := s2.grow gr'
          have o3 := o2.grow gr'
          have p3 := PstS2.grow gr'.g p2
          rw [List.drop_eq_getElem_cons hi] at p3
          unfold for2D at p3
          cases e4 : set ds[k] env2 with
          | none => rw [e4] at p3; exact p3.elim
          | some env3 =>
            rw [e4] at p3
            refine ⟨H0, G0, G', env2, ds[k], env3, s3, r, e4, fun σ' s4 hs4 => ⟨H0, G0, G', env3, rows2, s4, by
              obtain ⟨L, as, h1, h⟩ := o3
              exact ⟨L, as, hs4.trans h1, h⟩, ?_⟩⟩
            dsimp only at p3
            cases e5 : f rows2 env3 with
            | nx rows4 env4 =>
              rw [e5] at p3
              exact fun σ5 G5 H5 g5 s5 o5 => ⟨G5, env4, rows4, (sg.trans gr'.g).trans g5, s5, o5, PstS2.grow g5 p3⟩
            | rt d => rw [e5] at p3; exact p3
            | stuck => rw [e5] at p3; exact p3
      · refine .inl ⟨wk.stop k G2 H2 sg s2.gh s2.h0 (by omega), ?_⟩
        rw [List.drop_eq_nil_of_le (by omega)] at p2
        exact p2 σ2 G2 H2 (.refl _) s2 o2
/-! ### x = [a new list for .. in ..] -/
@[simp] def allL : List D → Option (List (List D))
  | [] => some []
  | .lst l :: r => (allL r).map (l :: ·)
  | _ => none
theorem allL_cons {d : D} {l : List D} {rows : List (List D)} (h : allL (d :: l) = some rows) : ∃ ds rest, d = .lst ds ∧ allL l = some rest ∧ rows = ds :: rest := by
  cases d with
  | lst ds =>
    obtain ⟨rest, e1, e2⟩ := Option.map_eq_some_iff.mp h
    exact ⟨ds, rest, rfl, e1, e2.symm⟩
  | _ => cases h
theorem lc_own {it : AD} {vs : List Nat} {set : GD} {t : TD} {f : ED} (σ : L2.St) (H H0 G0 G : Hp) (env : EnvD) (Q : VK) (ds : List D) (tot : List D) (rows : List (List D)) (s : SR X.gm H0 G0 G H σ env) (e : it env = .ok ds) (hsz : ds.length ≤ 1000000) (e2 : lcD set t f (wipeD env vs) ds = some tot) (e3 : allL tot = some rows)
    (q : ∀ L as G' H', Gr G H G' H' → H' L = some (.lst (as.map V.ref)) → H L = none → G' L = none → L ∉ as → as.Nodup → Al2 X.gm H G' H' as rows → Q (.ref L) H') :
    tLc (tI X.gm W true it) (tGT X.gm vs set) (tT X.gm W0 t) (tE X.gm W0 (PN X.gm) f) vs σ H Q := by
  refine ⟨H0, G0, G, env, s, ?_⟩
  rw [e]
  intro J G1 H1 gr wk D nD
  have nH : H D = none := gr.h.free nD
  have s1 := s.grow gr
  rw [if_pos rfl] at wk
  have hln : 1000000 < sizeLine := by decide
  refine ⟨fun i m H2 => m = ds.length - i ∧ i ≤ ds.length ∧ ∃ G2 as out rest restR, Gr G1 H1 G2 H2 ∧ G2 D = none ∧ H2 D = some (.lst (as.map V.ref)) ∧ D ∉ as ∧ as.Nodup ∧ Al2 X.gm H G2 H2 as out ∧ as.length ≤ i ∧ lcD set t f (wipeD env vs) (ds.drop i) = some rest ∧ allL rest = some restR ∧ out ++ restR = rows,
    ⟨ds.length, rfl, Nat.zero_le _, G1, [], [], tot, rows, Gr.fresh s1.gh nD, s1.gh.free nD, upd_same, (fun z => by cases z), List.nodup_nil, .nil, Nat.le_refl _, e2, e3, rfl⟩, ?_⟩
  rintro i m H2 ⟨rfl, hle, G2, as, out, rest, restR, g2, nG, hD, hnD, nd, al, hacc, er, eR, etot⟩
  by_cases hi : i < ds.length
  · refine .inr ⟨wk.go i G2 H2 g2.g g2.gh g2.h hi, fun H' => ∃ G2 as out rest restR, Gr G1 H1 G2 H' ∧ G2 D = none ∧ H' D = some (.lst (as.map V.ref)) ∧ D ∉ as ∧ as.Nodup ∧ Al2 X.gm H G2 H' as out ∧ as.length ≤ i + 1 ∧ lcD set t f (wipeD env vs) (ds.drop (i + 1)) = some rest ∧ allL rest = some restR ∧ out ++ restR = rows, ?_, ?_⟩
    · intro H' hN
      exact ⟨ds.length - (i + 1), by omega, rfl, hi, hN⟩
    · intro x H' y
      obtain ⟨G3, g3, r3⟩ := wk.yld i ds[i] x G2 H2 H' g2.g g2.gh g2.h (List.getElem?_eq_getElem hi) y
      have g13 := g2.trans g3
      have n3 : G3 D = none := g3.sep D _ nG hD
      have h3 : H' D = some (.lst (as.map V.ref)) := g3.h D _ hD
      have al3 : Al2 X.gm H G3 H' as out := al.mono g3.h g3.g fun a ha => by
        obtain ⟨⟨xs, q⟩, n, _⟩ := al.of_mem ha
        exact g3.sep _ _ n q
      rw [List.drop_eq_getElem_cons hi] at er
      unfold lcD at er
      obtain ⟨env2, es, er⟩ := Option.bind_eq_some_iff.mp er
      obtain ⟨b, eb, er⟩ := Option.bind_eq_some_iff.mp er
      have sw := (s1.grow g13).wipes vs
      refine ⟨H0, G0, G3, wipeD env vs, ds[i], env2, sw, r3, es, fun σ2 s2 tc => ⟨tc.wipe, H0, G0, G3, env2, s2, ?_⟩⟩
      cases e4 : t env2 with
      | exc x => rw [e4] at eb; cases eb
      | stuck => rw [e4] at eb; cases eb
      | ok b' =>
        rw [e4] at eb
        have eb : b' = b := Option.some.inj eb
        subst eb
        intro G4 H4 g4
        have s4 := s2.grow g4
        have g14 := g13.trans g4
        have n4 : G4 D = none := g4.sep D _ n3 h3
        have h4 : H4 D = some (.lst (as.map V.ref)) := g4.h D _ h3
        have al4 : Al2 X.gm H G4 H4 as out := al3.mono g4.h g4.g fun a ha => by
          obtain ⟨⟨xs, q⟩, n, _⟩ := al3.of_mem ha
          exact g4.sep _ _ n q
        cases b' with
        | false => exact ⟨G4, as, out, rest, restR, g14, n4, h4, hnD, nd, al4, by omega, er, eR, etot⟩
        | true =>
          rw [if_pos rfl] at er ⊢
          obtain ⟨y', ey, er⟩ := Option.bind_eq_some_iff.mp er
          refine ⟨H0, G0, G4, env2, s4, ?_⟩
          cases e5 : f env2 with
          | exc x => rw [e5] at ey; cases ey
          | stuck => rw [e5] at ey; cases ey
          | ok d5 =>
            rw [e5] at ey
            have ey : d5 = y' := Option.some.inj ey
            subst ey
            intro v5 G5 H5 g5 r5
            have h5 : H5 D = some (.lst (as.map V.ref)) := g5.h D _ h4
            have n5 : G5 D = none := g5.sep D _ n4 h4
            have al5 : Al2 X.gm H G5 H5 as out := al4.mono g5.h g5.g fun a ha => by
              obtain ⟨⟨xs, q⟩, n, _⟩ := al4.of_mem ha
              exact g5.sep _ _ n q
            cases e6 : lcD set t f (wipeD env vs) (ds.drop (i + 1)) with
            | none => rw [e6] at er; cases er
            | some rest' =>
              rw [e6] at er
              cases er
              obtain ⟨d5', restR', rfl, eR', rfl⟩ := allL_cons eR
              rcases r5 with ⟨z, _⟩ | ⟨a, rfl, na, nga, ow⟩
              · cases z
              · cases ow with
                | lst o1 o2 =>
                  have nas : a ∉ as := fun ha => by
                    obtain ⟨⟨xs, q⟩, _, _⟩ := al4.of_mem ha
                    rw [na] at q; cases q
                  have naD : a ≠ D := fun z => by rw [z, h4] at na; cases na
                  have al6 := al5.snoc o1 o2 nga (gr.h.free (g14.h.free na))
                  have nmem : D ∉ as ++ [a] := fun z => by
                    rcases List.mem_append.mp z with z | z
                    · exact hnD z
                    · exact naD (List.mem_singleton.mp z).symm
                  refine ⟨as.map V.ref, h5, by rw [List.length_map]; omega, G5, as ++ [a], out ++ [d5'], rest', restR', (g14.trans g5).own nD n5, n5, by rw [upd_same]; simp, nmem, ?_, al6.upd nmem, by simp; omega, rfl, eR', ?_⟩
                  · rw [List.nodup_append]
                    refine ⟨nd, by simp, fun x hx y hy => ?_⟩
                    rcases List.mem_singleton.mp hy with rfl
                    exact fun z => nas (z ▸ hx)
                  · rw [List.append_assoc]; exact etot
  · refine .inl ⟨wk.stop i G2 H2 g2.g g2.gh g2.h (by omega), ?_⟩
    rw [List.drop_eq_nil_of_le (by omega)] at er
    unfold lcD at er
    cases er
    cases eR
    rw [List.append_nil] at etot
    subst etot
    exact q D as G2 H2 (gr.trans g2) hD nH nG hnD nd al
def sRows (i : Nat) (it : AD) (vs : List Nat) (set : GD) (t : TD) (f : ED) (h : S2) : SD := fun env => match it env with
  | .ok ds => if ds.length ≤ 1000000 then (match lcD set t f (wipeD env vs) ds with
    | some tot => (match allL tot with
      | some rows => if i < env.length then (match h rows (env.set i .un) with
        | .rt d => .rt d
        | _ => .stuck) else .stuck
      | none => .stuck)
    | none => .stuck) else .stuck
  | _ => .stuck
theorem css_rows (i : Nat) {y : Str} {py : Pos} {elt tg iter : Expr} {ifs : List Expr} {scope : Scope} (own : List (Str × Nat)) {pos spos : Pos} {it : AD} {set : GD} {t : TD} {f : ED} {rest : List Stmt} {h : S2} (hN : X.N.Nodup) (hi : CI X W true tg iter it) (ok : BlkOk X.N X.env.scope scope own)
    (hg : ∀ (s : Shared) (H : Hp) (C : Addr) (cl : List (Str × Addr)) (fp : List Addr), CGT (X.blk s H scope (compEnvC scope cl C X.env) fp) (own.map (·.2)) tg set)
    (ht : ∀ (s : Shared) (H : Hp) (C : Addr) (cl : List (Str × Addr)) (fp : List Addr), PTs (X.blk s H scope (compEnvC scope cl C X.env) fp) ifs (tT X.gm W0 t))
    (he : ∀ (s : Shared) (H : Hp) (C : Addr) (cl : List (Str × Addr)) (fp : List Addr), CN (X.blk s H scope (compEnvC scope cl C X.env) fp) W0 elt f) (hr : PSs X rest (tS2 X.gm P i h)) (hsw : swapsWith (.ListComp elt [⟨tg, iter, ifs, 0⟩] scope pos) (some (.Name y py)) spos.line X.env = pure true)
    (hy : X.N[i]? = some y := by rfl) (hyl : X.env.scope.names.lookup y = some .local := by rfl) (hc : X.calm = true := by rfl) (hs : ∀ x, foldedSetIterable iter X.env x = pure x := by intro _; rfl) :
    CSs X W P (.Assign [.Name y py] (.ListComp elt [⟨tg, iter, ifs, 0⟩] scope pos) spos :: rest) (sRows i it (own.map (·.2)) set t f h) :=
  (pss_cons (ps_setLc (g := tGT X.gm (own.map (·.2)) set) (te := tE X.gm W0 (PN X.gm) f) hc hN hy hyl hsw hi ok hg ht he hs) hr).imp fun D σ H ⟨H0, G0, G, env, s, p⟩ => by
    unfold sRows at p
    cases e : it env with
    | exc x => rw [e] at p; exact p.elim
    | stuck => rw [e] at p; exact p.elim
    | ok ds =>
      rw [e] at p
      dsimp only at p
      by_cases hsz : ds.length ≤ 1000000
      case neg => rw [if_neg hsz] at p; exact p.elim
      rw [if_pos hsz] at p
      cases e2 : lcD set t f (wipeD env (own.map (·.2))) ds with
      | none => rw [e2] at p; exact p.elim
      | some tot =>
        rw [e2] at p
        dsimp only at p
        cases e3 : allL tot with
        | none => rw [e3] at p; exact p.elim
        | some rows =>
          rw [e3] at p
          dsimp only at p
          by_cases hl : i < env.length
          case neg => rw [if_neg hl] at p; exact p.elim
          rw [if_pos hl] at p
          unfold tSeq tAsg
          dsimp only
          refine lc_own (W := W) σ H H0 G0 G env _ ds tot rows s e hsz e2 e3 fun L as G' H' gr hL nL ngL nas nd al => ?_
          have s' := (s.grow gr).set_un i (some (.ref L))
          refine ⟨H0, G0, G', env.set i .un, rows, s', ⟨L, as, by rw [List.getElem?_set_self (by rw [s.len]; exact hl)], hL, ngL, s.h0.free nL, nas, nd, ?_⟩, ?_⟩
          · have : ∀ {as rows}, Al2 X.gm H G' H' as rows → Al2 X.gm H0 G' H' as rows := fun h => by
              induction h with
              | nil => exact .nil
              | cons h1 h2 h3 h4 _ ih => exact .cons h1 h2 h3 (s.h0.free h4) ih
            exact this al
          · cases e6 : h rows (env.set i .un) with
            | rt d => rw [e6] at p; exact p
            | nx _ _ => rw [e6] at p; exact p.elim
            | stuck => rw [e6] at p; exact p.elim
end
end Ck

namespace Ck
open PySem PySem.Spec L2 RZ
section
variable {X : Cx} {W : WX} {P : PP}
/-! ### names that are not read any more -/
theorem SR.fgt {g : Gm} {H0 G0 G H : Hp} {σ : L2.St} {env : EnvD} (s : SR g H0 G0 G H σ env) (j : Nat) : SR g H0 G0 G H σ (env.set j .un) := by
  refine ⟨s.gh, s.g0, s.h0, s.sep, by rw [List.length_set]; exact s.len, fun k t e => ?_, fun k l d e a h1 h2 h3 h4 => ?_⟩
  · rcases get_set e with ⟨rfl, hl, rfl⟩ | ⟨hne, e⟩
    · trivial
    · exact s.slot k t e
  · rcases get_set h1 with ⟨_, _, z⟩ | ⟨n1, h1⟩
    · cases z
    · rcases get_set h2 with ⟨_, _, z⟩ | ⟨n2, h2⟩
      · cases z
      · exact s.dist k l d e a h1 h2 h3 h4
@[simp] def fgtD (env : EnvD) : List Nat → EnvD
  | [] => env
  | i :: r => fgtD (env.set i .un) r
theorem SR.fgts {g : Gm} {H0 G0 G H : Hp} {σ : L2.St} : ∀ (vs : List Nat) (env : EnvD), SR g H0 G0 G H σ env → SR g H0 G0 G H σ (fgtD env vs)
  | [], _, s => s
  | i :: vs, _, s => SR.fgts vs _ (s.fgt i)
def sFgt (vs : List Nat) (f : SD) : SD := fun env => match f env with
  | .nx e => .nx (fgtD e vs)
  | o => o
def fgtO (vs : List Nat) : Out → Out
  | .nx e => .nx (fgtD e vs)
  | o => o
@[simp] theorem fgtO_nx (vs : List Nat) (e : EnvD) : fgtO vs (.nx e) = .nx (fgtD e vs) := rfl
@[simp] theorem fgtO_rt (vs : List Nat) (d : D) : fgtO vs (.rt d) = .rt d := rfl
@[simp] theorem fgtO_exc (vs : List Nat) (x : Exn) (e : EnvD) : fgtO vs (.exc x e) = .exc x e := rfl
@[simp] theorem sFgt_ev (vs : List Nat) (f : SD) (env : EnvD) : sFgt vs f env = fgtO vs (f env) := rfl
theorem css_fgt (vs : List Nat) {sts : List Stmt} {f : SD} (h : CSs X W P sts f) : CSs X W P sts (sFgt vs f) := h.imp fun D σ H ⟨H0, G0, G, env, s, p⟩ => by
  refine ⟨H0, G0, G, env, s, ?_⟩
  unfold sFgt at p
  cases e : f env with
  | nx e1 => rw [e] at p; exact fun σ' G' H' g s' => p σ' G' H' g (s'.fgts _ _)
  | rt d => rw [e] at p; exact p
  | exc x e1 => rw [e] at p; exact p
  | stuck => rw [e] at p; exact p
/-! ### x.clear() of a dict, x one's own -/
theorem ownK_of {g : Gm} {H0 G0 G H : Hp} {σ : L2.St} {i : Nat} {env : EnvD} (s : SR g H0 G0 G H σ env) (h : ownK env i = true) : ∃ a kvs, σ[i]? = some (some (.ref a)) ∧ H a = some (.dK kvs) := by
  unfold ownK at h
  split at h
  · rename_i e
    obtain ⟨a, e1, _, _, e4⟩ := s.slot i _ e
    cases e4 with
    | dk h1 _ => exact ⟨a, _, e1, h1⟩
  · cases h
theorem cs_clearD (i : Nat) {x : Str} {xpos apos cpos pos : Pos} (hN : X.N[i]? = some x := by rfl) (hv : Vis X.env.scope x := by first | exact Or.inl rfl | exact Or.inr (Or.inl rfl) | exact Or.inr (Or.inr rfl)) (hd : (x == ("__debug__" : Str)) = false := by decide)
    (hcd : (x == ("__classdict__" : Str)) = false := by decide)
    (hbase : attributeBase (.Name x xpos) "clear" X.env (eval (.Name x xpos) X.env) = eval (.Name x xpos) X.env := by rfl) (hline : (apos.endLine == cpos.line) = true := by rfl)
    (hsw : swapsWith (.Call (.Attribute (.Name x xpos) "clear" apos) [] [] cpos) none pos.line X.env = pure false := by rfl) :
    CS X W P (.Expr (.Call (.Attribute (.Name x xpos) "clear" apos) [] [] cpos) pos) (sClearD i) :=
  (ps_expr (pe_dclear (pe_var hN hv hd hcd) hbase hline) hsw).imp fun D σ H ⟨H0, G0, G, env, s, p⟩ => by
    unfold sClearD at p
    by_cases ho : ownK env i = true
    · rw [if_pos ho] at p
      obtain ⟨a, kvs, e1, h1⟩ := ownK_of s ho
      obtain ⟨d0, d', a', k1, k2, k3, k4, k5, k6⟩ := updO_own s p
      rw [e1] at k3
      cases k3
      cases k2
      exact ⟨.ref a, e1, .inr (.inr (.inl ⟨rfl, .inl ⟨kvs, h1⟩⟩)), a, kvs, rfl, rfl, h1, k6 _ (.dk upd_same .nil)⟩
    · rw [if_neg ho] at p; exact p.elim
/-! ### isinstance(e, C) in the suite that holds e -/
theorem pe_isE {a : Addr} {oe : Obj} {pn : List (Addr × Obj)} {D : Addr} {n y : Str} {cv : Value} {c : V} {b : Bool} {i : Nat} {p p1 p2 pos : Pos} (C : ExcC X.K D) (hz : Zc (.ref D) none oe) (hf : ∃ vs, oe.data = .fields vs) (hm : X.mg "isinstance" = none)
    (hc : PE (X.suite a ((a, oe) :: pn)) (.Name y p2) (tC c)) (hcv : ∀ u, RelV c u → u = cv) (hk : PySem.W.kitOne X.K (.ref D) cv = some b)
    (hN : X.N[i]? = some n := by rfl) (hv : Vis X.env.scope n := by first | exact Or.inl rfl | exact Or.inr (Or.inl rfl) | exact Or.inr (Or.inr rfl)) (hd : (n == ("__debug__" : Str)) = false := by decide)
    (hcd : (n == ("__classdict__" : Str)) = false := by decide) (hg : Gl X "isinstance" := by rfl) (he : starEach [.Name n p1, .Name y p2] X.env = (false, eval (.Name n p1) X.env) :: starEach [.Name y p2] X.env := by rfl) (he2 : starEach [.Name y p2] X.env = (false, eval (.Name y p2) X.env) :: starEach [] X.env := by rfl) (hpl : (backTo pos (starEach [.Name y p2] X.env)).any (·.1) = false := by rfl) :
    PE (X.suite a ((a, oe) :: pn)) (.Call (.Name "isinstance" p) [.Name n p1, .Name y p2] [] pos) (fun σ H Q => σ[i]? = some (some (.ref a)) ∧ Q (.bl b) H) :=
  (pe_callB (call_isE C hz hf) hg hm (by decide +kernel) (pa_cons (pe_var hN hv hd hcd) (pa_cons hc pa_nil he2) he) (by decide) (by decide) he hpl).imp fun σ H Q ⟨e, q⟩ => ⟨.ref a, e, c, cv, b, rfl, hcv, hk, q⟩
/-- the suite where the class or its fields are other ones -/
theorem pss_absurd {sts : List Stmt} {t : TS} (h : ∀ D σ H, ¬ t D σ H) : PSs X sts t := ⟨fun pins s σ H D I q => (h D σ H q).elim⟩
/-- return ['m'] * int(isinstance(e, C1) and isinstance(e, C2)), both so -/
theorem suite_rep {a : Addr} {oe : Obj} {pn : List (Addr × Obj)} {C : Addr} {n y1 y2 m : Str} {cv1 cv2 : Value} {c1 c2 : V} {i j : Nat} {x : Str} {k : Str → Option Bool} {h : Exn → SD}
    {pc pl pn1 pn2 pi1 pi2 pp1 pp2 pq1 pq2 pb pint pcall pmul pos : Pos} (cls : Value) (d : Option Addr) (gC : X.mg x = some (.ref C)) (E : ExcC X.K C) (hz : L2N.Zn cls d oe) (hf : ∃ vs, oe.data = .fields vs) (hm : X.mg "isinstance" = none) (hint : X.mg "int" = none)
    (hh : ∀ y env, h y env = if y.cls = x ∧ y.fs = [] then .rt (.lst [.str m]) else .stuck)
    (hc1 : PE (X.suite a ((a, oe) :: pn)) (.Name y1 pp1) (tC c1)) (hcv1 : ∀ u, RelV c1 u → u = cv1) (hk1 : PySem.W.kitOne X.K (.ref C) cv1 = some true)
    (hc2 : PE (X.suite a ((a, oe) :: pn)) (.Name y2 pp2) (tC c2)) (hcv2 : ∀ u, RelV c2 u → u = cv2) (hk2 : PySem.W.kitOne X.K (.ref C) cv2 = some true)
    (hN : X.N[i]? = some n := by rfl) (hv : Vis X.env.scope n := by first | exact Or.inl rfl | exact Or.inr (Or.inl rfl) | exact Or.inr (Or.inr rfl)) (hd : (n == ("__debug__" : Str)) = false := by decide)
    (hcd : (n == ("__classdict__" : Str)) = false := by decide) (hg : Gl X "isinstance" := by rfl) (hgi : Gl X "int" := by rfl)
    (he : ∀ p1 y p2, starEach [.Name n p1, .Name y p2] X.env = (false, eval (.Name n p1) X.env) :: starEach [.Name y p2] X.env := by intros; rfl) (he2 : ∀ y p2, starEach [.Name y p2] X.env = (false, eval (.Name y p2) X.env) :: starEach [] X.env := by intros; rfl) (hpl : ∀ pos y p2, (backTo pos (starEach [.Name y p2] X.env)).any (·.1) = false := by intros; rfl)
    (he3 : starEach [.Constant (.str m) j pc] X.env = (false, eval (.Constant (.str m) j pc) X.env) :: starEach [] X.env := by rfl)
    (he4 : ∀ e2, starEach [.BoolOp .And e2 pb] X.env = (false, eval (.BoolOp .And e2 pb) X.env) :: starEach [] X.env := by intros; rfl) :
    PSs (X.suite a ((a, oe) :: pn)) [.Return (some (.BinOp (.List [.Constant (.str m) j pc] pl) .Mult (.Call (.Name "int" pint) [.BoolOp .And [.Call (.Name "isinstance" pn1) [.Name n pi1, .Name y1 pp1] [] pq1, .Call (.Name "isinstance" pn2) [.Name n pi2, .Name y2 pp2] [] pq2] pb] [] pcall) pmul)) pos]
      (tSu X.gm (PN X.gm) i k h a cls d) := by
  by_cases hcd' : cls = .ref C ∧ d = none
  · obtain ⟨rfl, rfl⟩ := hcd'
    have p1 : PE (X.suite a ((a, oe) :: pn)) (.Call (.Name "isinstance" pn1) [.Name n pi1, .Name y1 pp1] [] pq1) _ := pe_isE E hz.zc hf hm hc1 hcv1 hk1 hN hv hd hcd hg (he _ _ _) (he2 _ _) (hpl _ _ _)
    have p2 : PE (X.suite a ((a, oe) :: pn)) (.Call (.Name "isinstance" pn2) [.Name n pi2, .Name y2 pp2] [] pq2) _ := pe_isE E hz.zc hf hm hc2 hcv2 hk2 hN hv hd hcd hg (he _ _ _) (he2 _ _) (hpl _ _ _)
    have pm : PE (X.suite a ((a, oe) :: pn)) (.BinOp (.List [.Constant (.str m) j pc] pl) .Mult (.Call (.Name "int" pint) [.BoolOp .And [.Call (.Name "isinstance" pn1) [.Name n pi1, .Name y1 pp1] [] pq1, .Call (.Name "isinstance" pn2) [.Name n pi2, .Name y2 pp2] [] pq2] pb] [] pcall) pmul) _ :=
      pe_op op_rep (pe_lst (pa_cons pe_str pa_nil he3)) (pe_callTy call_int1 hgi hint (by decide +kernel) (pa_cons (pe_and p1 (pe_one p2)) pa_nil (he4 _)) (by decide) (by decide) (he4 _) (by rfl))
    refine (pss_one (ps_ret pm)).imp fun D σ H ⟨H0, G0, G, env, y, s, xr, ky, hs, p⟩ => ?_
    rw [hh] at p
    by_cases hy : y.cls = x ∧ y.fs = []
    · rw [if_pos hy] at p
      refine ⟨show 1 ≤ sizeLine by decide, fun q hq => ?_⟩
      refine ⟨hs, true, rfl, ?_⟩
      rw [if_pos rfl]
      refine ⟨hs, .inr ⟨true, rfl, q, 1, [.str m], rfl, rfl, upd_same, by decide, by decide, show 1 * Int.toNat 1 ≤ sizeLine by decide, fun r hr => ?_⟩⟩
      have hHr : H r = none := by
        by_cases hrq : r = q
        · subst hrq; exact hq
        · rw [upd_ne hrq] at hr; exact hr
      have nrq : r ≠ q := fun z => by subst z; rw [upd_same] at hr; cases hr
      have g1 : Gr G H G (upd H q (.lst [.str m])) := Gr.fresh s.gh hq
      have g2 : Gr G (upd H q (.lst [.str m])) G (upd (upd H q (.lst [.str m])) r (.lst [.str m])) := Gr.fresh (g1.gh) hr
      refine p _ G _ (s.gr0.trans (g1.trans g2)) (.inr ⟨r, rfl, s.h0.free hHr, s.gh.free hHr, .lst upd_same (.cons (.str m) .nil)⟩)
    · rw [if_neg hy] at p; exact p.elim
  · refine pss_absurd fun D σ H ⟨H0, G0, G, env, y, s, xr, ky, hs, p⟩ => ?_
    rw [hh] at p
    by_cases hy : y.cls = x ∧ y.fs = []
    · obtain ⟨C', e1, e2, e3⟩ := xr
      rw [hy.1] at e1
      have e1 := Option.some.inj (gC.symm.trans e1)
      cases e1
      rcases e3 with ⟨_, e4⟩ | ⟨e5, _⟩
      · exact hcd' ⟨e2, e4⟩
      · exact e5 hy.2
    · rw [if_neg hy] at p; exact p.elim
end
end Ck

namespace Ck
open PySem PySem.Spec L2 RZ
/-! ### the end: the law's own def at a script -/
def spEnd (K : PySem.W.Frag) : Sp := fun vs H Q _ => ∃ (a : Addr) (ns : List Int), vs = [.ref a] ∧ SqL K H a (ns.map V.int) ∧ ns.length ≤ 63 ∧ ∀ H', Q (.bl true) H'
theorem end_law {P : Program} {w : World} {K : PySem.W.Frag} {mg : Str → Option Value} {base : Heap} {CX : CXT} {k : Nat} {fa : Addr} {fd : FuncData} {x : Str} {m : List D → Res D} (F : FnOk P w K mg base CX k fa fd [x] (spD ⟨K, mg⟩ [true] (PR ⟨K, mg⟩) m))
    (hm : ∀ ns : List Int, ns.length ≤ 63 → m [.lst (ns.map .int)] = .ok (.bl true)) : FnOk P w K mg base CX k fa fd [x] (spEnd K) :=
  F.imp fun vs H Q E ⟨a, ns, e, hs, hl, q⟩ => by
    subst e
    refine ⟨(fun _ => none), [.lst (ns.map .int)], (fun _ _ z => by cases z), .view (.sq hs (ints_rs ns)) .nil, ?_⟩
    rw [hm ns hl]
    intro v G' H' gr r
    have r : R ⟨K, mg⟩ G' v (.bl true) := r
    rw [r.bl_inv]
    exact q H'
theorem walk_end {l : PySem.W.OpenLaw} {k : Nat} {x : Str} {q : Program} {loose : List Str} {XP : (Str → Option Value) → Heap → Prop} {YP : World → Heap → Prop} {d : DefRec} {K : Params → PySem.W.Frag} (hn : l.most = some 63) (hdf : d.params.defaults = []) (hr : Room k callerA)
    (hY : ∀ (w : World) (h : Heap), YP w h → (K w.params).In h)
    (F : ∀ (w : World) (mg : Str → Option Value) (fa : Addr) (h : Heap), (K w.params).In h → h.Ns mainGlobals mg → mg d.name = some (.ref fa) →
      ∃ fd : FuncData, (∀ (s : Shared) (u : Value), BindsTo s fd ⟨[u], []⟩ [(x, u)]) ∧ ∀ base : Heap, (K w.params).In base → base.Ns mainGlobals mg → FnOk l.prog w (K w.params) mg base (L2N.CX l.prog w) k fa fd [x] (spEnd (K w.params))) :
    PySem.W.WalkO q loose XP YP l.row.toRowW d [] (fun f vs => PySem.call f vs) :=
  L2.walk_of (n := 63) (k := k) (x := x) (CX := fun w => L2N.CX l.prog w) (sp := fun w => spEnd (K w.params)) hn (by decide) hdf hr hY F (fun _ _ a ns hl _ hS => ⟨a, ns, rfl, hS, hl, fun _ => rfl⟩) fun _ _ _ _ _ z => by
    obtain ⟨_, _, _, _, _, _, _, _, _, _, _, _, z⟩ := z
    exact z
/-- a class of the text and what an except clause names -/
theorem exm_of {K : PySem.W.Frag} {C : Addr} {cls : Value} {b : Bool} (h1 : PySem.W.subIn K (.ref C) (.type "BaseException") = some true) (hdct : PySem.W.hasDictIn K C = true) (ht : PySem.W.typeIn K (.ref C) = some (.type "type")) (h4 : PySem.W.subIn K cls (.ref C) = some b) : PySem.W.exmOne K cls (.ref C) = some b :=
  PySem.W.exm_ref h1 hdct ht h4
theorem kit_ty {K : PySem.W.Frag} {C : Addr} {T : String} {b : Bool} (hm : PySem.W.kitMeta T = true) (h : PySem.W.subIn K (.ref C) (.type T) = some b) : PySem.W.kitOne K (.ref C) (.type T) = some b := by
  unfold PySem.W.kitOne
  rw [if_neg (by simp)]
  show (if PySem.W.kitMeta T = true then PySem.W.subIn K (.ref C) (.type T) else none) = some b
  rw [if_pos hm]
  exact h
end Ck

namespace Ck
open PySem PySem.Spec L2 RZ
/-! ### indices -/
theorem ixN_nat {n k : Nat} (h : k < n) : ixN n (k : Int) = some k := by
  unfold ixN
  rw [if_pos (by omega), if_pos (by omega)]; simp
theorem ixN_int {n : Nat} {i : Int} (h0 : 0 ≤ i) (h : i < n) : ixN n i = some i.toNat := by
  unfold ixN
  rw [if_pos h0, if_pos h]
theorem atI_int {α : Type} {xs : List α} {i : Int} (h0 : 0 ≤ i) (h : i < xs.length) : atI xs i = xs[i.toNat]? := by
  unfold atI
  rw [ixN_int h0 h]; rfl
@[simp] theorem atI_zero {α : Type} (x : α) (xs : List α) : atI (x :: xs) 0 = some x := by
  have : (0 : Int) = ((0 : Nat) : Int) := rfl
  rw [this]
  exact atI_nat rfl
theorem atI_get' {α : Type} {xs : List α} {k : Nat} (h : k < xs.length) : atI xs (k : Int) = some xs[k] := atI_nat (List.getElem?_eq_getElem h)
/-! ### loops over ranges and mapped lists -/
theorem forD_range {set : GD} {f : SD} {n : Nat} {env : EnvD} (I : Nat → EnvD → Prop) (h0 : I 0 env)
    (hs : ∀ i env, i < n → I i env → ∃ e env', set (.int i) env = some e ∧ f e = .nx env' ∧ I (i + 1) env') : ∃ env', forD set f (rangeD 0 n) env = .nx env' ∧ I n env' := by
  have hl : (rangeD 0 n).length = n := by simp [rangeD]
  obtain ⟨env', e1, e2⟩ := forD_inv (items := rangeD 0 n) (set := set) (f := f) I h0 fun i d env hd hI => by
    have hi : i < n := by have := (List.getElem?_eq_some_iff.mp hd).1; omega
    have : d = .int i := by
      simp [rangeD, hi] at hd
      exact hd.symm
    subst this
    exact hs i env hi hI
  rw [hl] at e2
  exact ⟨env', e1, e2⟩
theorem forD_pre {α : Type} {set : GD} {f : SD} {l : List α} {φ : α → D} {env : EnvD} (I : List α → EnvD → Prop) (h0 : I [] env)
    (hs : ∀ pre a post env, l = pre ++ a :: post → I pre env → ∃ e env', set (φ a) env = some e ∧ f e = .nx env' ∧ I (pre ++ [a]) env') : ∃ env', forD set f (l.map φ) env = .nx env' ∧ I l env' := by
  obtain ⟨env', e1, e2⟩ := forD_inv (items := l.map φ) (set := set) (f := f) (fun i env => I (l.take i) env) h0 fun i d env hd hI => by
    rw [List.getElem?_map] at hd
    obtain ⟨a, ha, rfl⟩ := Option.map_eq_some_iff.mp hd
    obtain ⟨hi, rfl⟩ := List.getElem?_eq_some_iff.mp ha
    obtain ⟨e, env', h1, h2, h3⟩ := hs (l.take i) l[i] (l.drop (i + 1)) env (by rw [List.getElem_cons_drop]; simp) hI
    refine ⟨e, env', h1, h2, ?_⟩
    rw [List.take_succ_eq_append_getElem hi]
    exact h3
  refine ⟨env', e1, ?_⟩
  simpa using e2
/-- a loop that changes slot i alone -/
theorem forD_acc {α : Type} {set : GD} {f : SD} {l : List α} {φ : α → D} {env : EnvD} (i : Nat) (v : List α → Slot) (h0 : env[i]? = some (v []))
    (hs : ∀ pre a post, l = pre ++ a :: post → ∃ e, set (φ a) (env.set i (v pre)) = some e ∧ f e = .nx (env.set i (v (pre ++ [a])))) : forD set f (l.map φ) env = .nx (env.set i (v l)) := by
  obtain ⟨env', e1, e2⟩ := forD_pre (l := l) (φ := φ) (set := set) (f := f) (env := env) (fun pre e => e = env.set i (v pre)) (by
    obtain ⟨hi, he⟩ := List.getElem?_eq_some_iff.mp h0
    rw [← he, List.set_getElem_self]) fun pre a post e hl he => by
      subst he
      obtain ⟨e, h1, h2⟩ := hs pre a post hl
      exact ⟨e, _, h1, h2, rfl⟩
  rw [e1, e2]
/-- two slots -/
theorem forD_acc2 {α : Type} {set : GD} {f : SD} {l : List α} {φ : α → D} {env : EnvD} (i j : Nat) (v w : List α → Slot) (hij : i ≠ j) (h0 : env[i]? = some (v [])) (h1 : env[j]? = some (w []))
    (hs : ∀ pre a post, l = pre ++ a :: post → ∃ e, set (φ a) ((env.set i (v pre)).set j (w pre)) = some e ∧ f e = .nx ((env.set i (v (pre ++ [a]))).set j (w (pre ++ [a])))) : forD set f (l.map φ) env = .nx ((env.set i (v l)).set j (w l)) := by
  obtain ⟨env', e1, e2⟩ := forD_pre (l := l) (φ := φ) (set := set) (f := f) (env := env) (fun pre e => e = (env.set i (v pre)).set j (w pre)) (by
    obtain ⟨hi, he⟩ := List.getElem?_eq_some_iff.mp h0
    obtain ⟨hj, hf⟩ := List.getElem?_eq_some_iff.mp h1
    rw [← he, List.set_getElem_self, ← hf, List.set_getElem_self]) fun pre a post e hl he => by
      subst he
      obtain ⟨e, h1, h2⟩ := hs pre a post hl
      exact ⟨e, _, h1, h2, rfl⟩
  rw [e1, e2]
/-- a loop that changes nothing -/
theorem forD_same {α : Type} {set : GD} {f : SD} {l : List α} {φ : α → D} {env : EnvD} (hs : ∀ a ∈ l, ∃ e, set (φ a) env = some e ∧ f e = .nx env) : forD set f (l.map φ) env = .nx env := by
  induction l with
  | nil => rfl
  | cons a l ih =>
    obtain ⟨e, h1, h2⟩ := hs a List.mem_cons_self
    rw [List.map_cons]
    unfold forD
    rw [h1]
    dsimp only
    rw [h2]
    exact ih fun b hb => hs b (List.mem_cons_of_mem _ hb)
def cutI (ns : List Int) (lo hi : Option Int) : List Int := (ns.drop (HT.sIx ns.length 0 lo)).take (HT.sIx ns.length ns.length hi - HT.sIx ns.length 0 lo)
theorem cutD_int (ns : List Int) (lo hi : Option Int) : cutD (ns.map .int) lo hi = (cutI ns lo hi).map .int := by
  simp [cutD, cutI]
theorem cutI_le (ns : List Int) (lo hi : Option Int) : (cutI ns lo hi).length ≤ ns.length := by
  simp [cutI]; omega
inductive All2 {α β : Type} (G : α → β → Prop) : List α → List β → Prop
  | nil : All2 G [] []
  | cons {a : α} {b : β} {l : List α} {m : List β} : G a b → All2 G l m → All2 G (a :: l) (b :: m)
theorem All2.len {α β : Type} {G : α → β → Prop} {l : List α} {m : List β} (h : All2 G l m) : l.length = m.length := by
  induction h with
  | nil => rfl
  | cons _ _ ih => simp [ih]
theorem All2.right {α β : Type} {G : α → β → Prop} {l : List α} {m : List β} (h : All2 G l m) : ∀ b ∈ m, ∃ a ∈ l, G a b := by
  induction h with
  | nil => intro b hb; cases hb
  | @cons a b l m g _ ih =>
    intro c hc
    rcases List.mem_cons.mp hc with rfl | hc
    · exact ⟨a, List.mem_cons_self, g⟩
    · obtain ⟨x, h1, h2⟩ := ih c hc
      exact ⟨x, List.mem_cons_of_mem _ h1, h2⟩
/-- a comprehension whose values are not told, only what holds of them -/
theorem lcD_ex {α : Type} {set : GD} {f : ED} {env : EnvD} {φ : α → D} {β : Type} {ψ : β → D} (G : α → β → Prop) : ∀ {l : List α}, (∀ a ∈ l, ∃ e b, set (φ a) env = some e ∧ f e = .ok (ψ b) ∧ G a b) → ∃ bs : List β, lcD set tTrue f env (l.map φ) = some (bs.map ψ) ∧ All2 G l bs
  | [], _ => ⟨[], rfl, .nil⟩
  | a :: l, hs => by
    obtain ⟨e, b, e1, e2, g⟩ := hs a List.mem_cons_self
    obtain ⟨bs, h1, h2⟩ := lcD_ex G (l := l) fun b hb => hs b (List.mem_cons_of_mem _ hb)
    refine ⟨b :: bs, ?_, .cons g h2⟩
    rw [List.map_cons]
    unfold lcD
    rw [e1, h1]
    simp [e2, Res.opt, tTrue]
theorem rangeD_zero (n : Nat) : rangeD 0 n = (List.range n).map fun k => D.int (k : Nat) := by simp [rangeD]
/-! ### texts -/
@[simp] theorem S_eq {a b : List Nat} : (S a = S b) ↔ a = b := ⟨S_inj, fun h => by rw [h]⟩
@[simp] theorem str_nil : ("" : Str) = S [] := rfl
@[simp] theorem S_cps (a : List Nat) : (S a).cps.toList = a := rfl
@[simp] theorem tl_S (a : List Nat) : tl (S a) = a := rfl
abbrev Wd (r : List Nat) : D := .str (S r)
abbrev Sg (c : Nat) : D := .str (S [c])
theorem signsS_S (r : List Nat) : signsS (S r) = r.map fun c => S [c] := rfl
theorem items_S (r : List Nat) : items (Wd r) = some (r.map Sg) := rfl
theorem catS_S (ys : List (List Nat)) : catS (ys.map S) = S ys.flatten := by
  simp [catS, List.map_map, Function.comp_def]
@[simp] theorem S_add (a b : List Nat) : S a ++ S b = S (a ++ b) := by
  apply str_ext
  show ((S a).cps ++ (S b).cps).toList = _
  simp
theorem joinD_S {ys : List (List Nat)} (h : (ys.map List.length).sum ≤ 1000000) : joinD (Wd []) [.lst (ys.map Wd)] = some (Wd ys.flatten) := by
  have e : ys.map Wd = (ys.map S).map D.str := by rw [List.map_map]; rfl
  have e0 : (S []).length = 0 := rfl
  have e1 : ((ys.map S).map fun x => x.length) = ys.map List.length := by rw [List.map_map]; exact List.map_congr_left fun a _ => S_len a
  unfold joinD
  dsimp only
  rw [e, strsD_map]
  show (if _ then _ else _) = _
  rw [e0, e1, if_pos (by omega), ← str_nil, join_nil, catS_S]
theorem joinD_St {ys : List (List Nat)} (h : (ys.map List.length).sum ≤ 1000000) : joinD (Wd []) [.tup (ys.map Wd)] = some (Wd ys.flatten) := joinD_S h
theorem joinD_signs {cs : List Nat} (h : cs.length ≤ 1000000) : joinD (Wd []) [.lst (cs.map Sg)] = some (Wd cs) := by
  have e : cs.map Sg = (cs.map fun c => [c]).map Wd := by rw [List.map_map]; rfl
  rw [e, joinD_S]
  · congr 3
    induction cs with
    | nil => rfl
    | cons a l ih => simp at ih ⊢; exact ih (by simp at h; omega)
  · rw [List.map_map]
    have : (List.length ∘ fun c : Nat => [c]) = fun _ => 1 := rfl
    rw [this]
    have : ∀ l : List Nat, (l.map fun _ => 1).sum = l.length := fun l => by induction l <;> simp_all [Nat.add_comm]
    rw [this]; exact h
theorem ixD_str {r : List Nat} {i : Int} (h : r.length ≤ 1000000) (h0 : 0 ≤ i) (h1 : i < r.length) : ixD (Wd r) (.int i) = some (Sg (r[i.toNat]'(by omega))) := by
  show (if _ then _ else _) = _
  rw [if_pos (by rw [S_len]; exact h)]
  show (atI r i).map _ = _
  rw [atI_int h0 h1, List.getElem?_eq_getElem (by omega)]
  rfl
/-! ### dicts -/
section
variable {α β : Type} [DecidableEq α]
def lookA (kv : List (α × β)) (a : α) : Option β := (kv.find? fun p => decide (p.1 = a)).map (·.2)
def putA (kv : List (α × β)) (a : α) (b : β) : List (α × β) := if (kv.any fun p => decide (p.1 = a)) = true then kv.map (fun p => if p.1 = a then (p.1, b) else p) else kv ++ [(a, b)]
def encA (κ : α → D) (ν : β → D) (kv : List (α × β)) : List (D × D) := kv.map fun p => (κ p.1, ν p.2)
variable {κ : α → D} {ν : β → D} (hκ : ∀ a b, κ a = κ b → a = b)
include hκ in
theorem lookD_enc (kv : List (α × β)) (a : α) : lookD (encA κ ν kv) (κ a) = (lookA kv a).map ν := by
  unfold lookD lookA encA
  induction kv with
  | nil => rfl
  | cons p kv ih =>
    rw [List.map_cons, List.find?_cons, List.find?_cons]
    by_cases h : p.1 = a
    · simp [h]
    · have h2 : ¬ κ p.1 = κ a := fun z => h (hκ _ _ z)
      simp only [h, h2, decide_false]
      exact ih
include hκ in
theorem putD_enc (kv : List (α × β)) (a : α) (b : β) : putD (encA κ ν kv) (κ a) (ν b) = encA κ ν (putA kv a b) := by
  unfold putD putA encA
  have e : ((kv.map fun p => (κ p.1, ν p.2)).any fun p => decide (p.1 = κ a)) = kv.any fun p => decide (p.1 = a) := by
    rw [List.any_map]
    congr 1
    funext p
    simp only [Function.comp]
    exact decide_eq_decide.mpr ⟨fun z => hκ _ _ z, fun z => by rw [z]⟩
  rw [e]
  split
  · rw [List.map_map, List.map_map]
    refine List.map_congr_left fun p _ => ?_
    simp only [Function.comp]
    by_cases h : p.1 = a
    · simp [h]
    · have h2 : ¬ κ p.1 = κ a := fun z => h (hκ _ _ z)
      simp [h, h2]
  · simp
theorem lookA_cons (p : α × β) (kv : List (α × β)) (a : α) : lookA (p :: kv) a = if p.1 = a then some p.2 else lookA kv a := by
  unfold lookA
  rw [List.find?_cons]
  by_cases h : p.1 = a
  · simp [h]
  · simp [h]
theorem lookA_app (kv kw : List (α × β)) (a : α) : lookA (kv ++ kw) a = (lookA kv a).or (lookA kw a) := by
  induction kv with
  | nil => simp [lookA]
  | cons p kv ih =>
    rw [List.cons_append, lookA_cons, lookA_cons]
    split
    · simp
    · exact ih
theorem lookA_none {kv : List (α × β)} {a : α} : lookA kv a = none ↔ a ∉ kv.map (·.1) := by
  induction kv with
  | nil => simp [lookA]
  | cons p kv ih =>
    rw [lookA_cons]
    by_cases h : p.1 = a
    · simp [h]
    · simp only [h, if_false, ih, List.map_cons, List.mem_cons, not_or]
      exact ⟨fun z => ⟨fun y => h y.symm, z⟩, fun z => z.2⟩
theorem any_key {kv : List (α × β)} {a : α} : (kv.any fun p => decide (p.1 = a)) = true ↔ a ∈ kv.map (·.1) := by
  rw [List.any_eq_true]
  constructor
  · rintro ⟨p, hp, e⟩
    exact List.mem_map.mpr ⟨p, hp, of_decide_eq_true e⟩
  · intro h
    obtain ⟨p, hp, e⟩ := List.mem_map.mp h
    exact ⟨p, hp, decide_eq_true e⟩
theorem lookA_upd (kv : List (α × β)) (a c : α) (b : β) : lookA (kv.map fun p => if p.1 = a then (p.1, b) else p) c = if c = a then (if a ∈ kv.map (·.1) then some b else none) else lookA kv c := by
  induction kv with
  | nil => simp [lookA]
  | cons p kv ih =>
    rw [List.map_cons, lookA_cons, lookA_cons, ih]
    by_cases hp : p.1 = a
    · by_cases hc : c = a
      · have e : a = c := hc.symm
        simp [hp, e]
      · have e : ¬ a = c := fun z => hc z.symm
        simp [hp, hc, e]
    · by_cases hc : c = a
      · have e : ¬ p.1 = c := fun z => hp (z.trans hc)
        have e2 : ¬ a = p.1 := fun z => hp z.symm
        rw [if_neg hp, if_neg e, if_pos hc, if_pos hc, List.map_cons]
        simp only [List.mem_cons, e2, false_or]
      · simp [hp, hc]
theorem lookA_put (kv : List (α × β)) (a c : α) (b : β) : lookA (putA kv a b) c = if c = a then some b else lookA kv c := by
  unfold putA
  by_cases h : a ∈ kv.map (·.1)
  · rw [if_pos (any_key.mpr h), lookA_upd, if_pos h]
  · rw [if_neg (fun z => h (any_key.mp z)), lookA_app]
    by_cases hc : c = a
    · subst hc
      rw [lookA_none.mpr h]
      simp [lookA]
    · rw [if_neg hc]
      have e : ¬ a = c := fun z => hc z.symm
      have : lookA [(a, b)] c = none := by simp [lookA, e]
      rw [this]; simp
theorem keys_put (kv : List (α × β)) (a : α) (b : β) : (putA kv a b).map (·.1) = if a ∈ kv.map (·.1) then kv.map (·.1) else kv.map (·.1) ++ [a] := by
  unfold putA
  by_cases h : a ∈ kv.map (·.1)
  · rw [if_pos (any_key.mpr h), if_pos h, List.map_map]
    refine List.map_congr_left fun p _ => ?_
    simp only [Function.comp]
    split <;> rfl
  · rw [if_neg (fun z => h (any_key.mp z)), if_neg h]; simp
theorem nodup_put {kv : List (α × β)} (h : (kv.map (·.1)).Nodup) (a : α) (b : β) : ((putA kv a b).map (·.1)).Nodup := by
  rw [keys_put]
  split
  · exact h
  · rename_i hn
    rw [List.nodup_append]
    refine ⟨h, by simp, fun x hx y hy z => hn ?_⟩
    rw [← List.mem_singleton.mp hy, ← z]
    exact hx
theorem len_put (kv : List (α × β)) (a : α) (b : β) : (putA kv a b).length ≤ kv.length + 1 := by
  unfold putA
  split <;> simp
/-- how often each is there, in the order of the first time -/
def bump (kv : List (α × Nat)) (a : α) : List (α × Nat) := putA kv a ((lookA kv a).getD 0 + 1)
def cnt (l : List α) : List (α × Nat) := l.foldl bump []
theorem bump_inv {kv : List (α × Nat)} {l : List α} (a : α) (h1 : (kv.map (·.1)).Nodup) (h2 : ∀ c, lookA kv c = if c ∈ l then some (l.count c) else none) :
    ((bump kv a).map (·.1)).Nodup ∧ ∀ c, lookA (bump kv a) c = if c ∈ l ++ [a] then some ((l ++ [a]).count c) else none := by
  refine ⟨nodup_put h1 _ _, fun c => ?_⟩
  unfold bump
  rw [lookA_put, h2, h2]
  by_cases hc : c = a
  · subst hc
    have hm : c ∈ l ++ [c] := List.mem_append.mpr (.inr List.mem_cons_self)
    rw [if_pos rfl, if_pos hm, List.count_append]
    have e1 : [c].count c = 1 := by simp
    rw [e1]
    by_cases hl : c ∈ l
    · rw [if_pos hl]; rfl
    · rw [if_neg hl, List.count_eq_zero_of_not_mem hl]; rfl
  · rw [if_neg hc]
    have e : (l ++ [a]).count c = l.count c := by
      rw [List.count_append]
      have : [a].count c = 0 := List.count_eq_zero_of_not_mem (by simpa using hc)
      omega
    rw [e]
    by_cases hl : c ∈ l
    · simp [hl]
    · simp [hl, hc]
theorem cnt_inv (l : List α) : ((cnt l).map (·.1)).Nodup ∧ ∀ c, lookA (cnt l) c = if c ∈ l then some (l.count c) else none := by
  have key : ∀ (pre post : List α) (kv : List (α × Nat)), (kv.map (·.1)).Nodup → (∀ c, lookA kv c = if c ∈ pre then some (pre.count c) else none) →
      ((post.foldl bump kv).map (·.1)).Nodup ∧ ∀ c, lookA (post.foldl bump kv) c = if c ∈ pre ++ post then some ((pre ++ post).count c) else none := by
    intro pre post
    induction post generalizing pre with
    | nil => intro kv h1 h2; exact ⟨h1, fun c => by rw [List.append_nil]; exact h2 c⟩
    | cons a post ih =>
      intro kv h1 h2
      obtain ⟨b1, b2⟩ := bump_inv a h1 h2
      have := ih (pre ++ [a]) (bump kv a) b1 b2
      rw [List.append_assoc] at this
      exact this
  exact key [] l [] List.nodup_nil (fun c => by simp [lookA])
theorem cnt_keys (l : List α) (c : α) : c ∈ (cnt l).map (·.1) ↔ c ∈ l := by
  have h := (cnt_inv l).2 c
  constructor
  · intro z
    apply Classical.byContradiction
    intro hn
    rw [if_neg hn] at h
    exact lookA_none.mp h z
  · intro z
    apply Classical.byContradiction
    intro hn
    rw [lookA_none.mpr hn, if_pos z] at h
    cases h
theorem cnt_len (l : List α) : (cnt l).length ≤ l.length := by
  have key : ∀ (l : List α) (kv : List (α × Nat)), (l.foldl bump kv).length ≤ kv.length + l.length := by
    intro l
    induction l with
    | nil => intro kv; simp
    | cons a l ih =>
      intro kv
      have := ih (bump kv a)
      have h2 : (bump kv a).length ≤ kv.length + 1 := len_put _ _ _
      simp only [List.foldl_cons, List.length_cons]
      omega
  simpa [cnt] using key l []
theorem lookA_mem {kv : List (α × β)} (hn : (kv.map (·.1)).Nodup) {p : α × β} (hp : p ∈ kv) : lookA kv p.1 = some p.2 := by
  induction kv with
  | nil => cases hp
  | cons q kv ih =>
    rw [lookA_cons]
    rcases List.mem_cons.mp hp with rfl | hp
    · simp
    · have : q.1 ≠ p.1 := fun z => by
        simp only [List.map_cons, List.nodup_cons] at hn
        exact hn.1 (z ▸ List.mem_map_of_mem hp)
      rw [if_neg this]
      exact ih (List.nodup_cons.mp hn).2 hp
end
theorem perm_of_mem {α : Type} [DecidableEq α] {a b : List α} (h1 : a.Nodup) (h2 : b.Nodup) (h : ∀ x, x ∈ a ↔ x ∈ b) : a.Perm b := by
  rw [List.perm_iff_count]
  intro x
  rw [h1.count, h2.count]
  simp [h x]
end Ck
namespace Ck
open PySem PySem.Spec L2 RZ
theorem mul_ok {i j : Int} (h : (-18446744073709551616 < i ∧ i < 18446744073709551616) ∨ (-18446744073709551616 < j ∧ j < 18446744073709551616)) : mulD (.int i) (.int j) = some (.int (i * j)) := by
  unfold mulD
  dsimp only
  rw [if_pos]
  exact decide_eq_true (by omega)
@[simp] theorem mul_okL {i j : Int} (h : -18446744073709551616 < i) (h2 : i < 18446744073709551616) : mulD (.int i) (.int j) = some (.int (i * j)) := mul_ok (.inl ⟨h, h2⟩)
@[simp] theorem mul_okR {i j : Int} (h : -18446744073709551616 < j) (h2 : j < 18446744073709551616) : mulD (.int i) (.int j) = some (.int (i * j)) := mul_ok (.inr ⟨h, h2⟩)
theorem rng1_ok {j : Int} (h0 : 0 ≤ j) (h : j < 4611686018427387904) : rng1 [.int j] = some ((List.range j.toNat).map fun k => D.int (k : Nat)) := by
  unfold rng1
  dsimp only
  rw [if_pos (by omega), rangeD_zero]
theorem rng1_nat {n : Nat} (h : n < 4611686018427387904) : rng1 [.int (n : Nat)] = some ((List.range n).map fun k => D.int (k : Nat)) := by
  rw [rng1_ok (by omega) (by omega)]; simp
end Ck
namespace Ck
open PySem PySem.Spec L2 RZ
/-! ### sorting -/
theorem ins_map {α β : Type} {lt : α → α → Bool} {lt' : β → β → Bool} {f : α → β} (h : ∀ a b, lt' (f a) (f b) = lt a b) (x : α) : ∀ l : List α, ins lt' (f x) (l.map f) = (ins lt x l).map f
  | [] => rfl
  | y :: r => by
    rw [List.map_cons]
    unfold ins
    rw [h]
    split
    · rw [ins_map h x r]; rfl
    · rfl
theorem srt_map {α β : Type} {lt : α → α → Bool} {lt' : β → β → Bool} {f : α → β} (h : ∀ a b, lt' (f a) (f b) = lt a b) : ∀ l : List α, srt lt' (l.map f) = (srt lt l).map f
  | [] => rfl
  | x :: r => by
    rw [List.map_cons]
    show ins lt' (f x) (srt lt' (r.map f)) = _
    rw [srt_map h r, ins_map h]
    rfl
theorem srt_perm_eq {α : Type} {lt : α → α → Bool} {P : α → Prop} (T : Tot lt P) {l m : List α} (hP : ∀ y ∈ l, P y) (h : l.Perm m) : srt lt l = srt lt m :=
  sorted_one T (fun y hy => hP y ((srt_perm lt l).mem_iff.mp hy)) ((srt_perm lt l).trans (h.trans (srt_perm lt m).symm)) (srt_sorted T hP) (srt_sorted T fun y hy => hP y (h.mem_iff.mpr hy))
def ltN (a b : Nat) : Bool := decide (a < b)
def sortN (l : List Nat) : List Nat := srt ltN l
theorem tot_nat : Tot ltN fun _ => True := by
  refine ⟨fun x y _ _ h => ?_, fun x y z _ _ _ h1 h2 => ?_, fun x y _ _ h1 h2 => ?_⟩
  · have := of_decide_eq_true h
    exact decide_eq_false (by omega)
  · have a := of_decide_eq_false h1
    have b := of_decide_eq_false h2
    exact decide_eq_false (by omega)
  · have a := of_decide_eq_false h1
    have b := of_decide_eq_false h2
    omega
theorem sortN_perm (l : List Nat) : (sortN l).Perm l := srt_perm _ _
theorem sortN_eq {l m : List Nat} (h : l.Perm m) : sortN l = sortN m := srt_perm_eq tot_nat (fun _ _ => trivial) h
theorem ltStr_S (a b : Nat) : ltStr (S [a]) (S [b]) = ltN a b := by
  unfold ltStr ltN
  apply decide_eq_decide.mpr
  show [a] < [b] ↔ a < b
  constructor
  · intro h
    rcases List.cons_lt_cons_iff.mp h with h | ⟨_, h⟩
    · exact h
    · exact absurd h (List.lt_irrefl _)
  · intro h
    exact List.cons_lt_cons_iff.mpr (.inl h)
theorem sortStrs_sg {l : List Nat} (h : l.length ≤ 1000000) : sortStrs (l.map fun c => S [c]) = some (.lst ((sortN l).map Sg)) := by
  unfold sortStrs
  rw [if_pos (by rw [List.length_map]; exact h), srt_map (f := fun c => S [c]) ltStr_S, List.map_map]
  rfl
theorem sortedD_S {l : List Nat} (h : l.length ≤ 1000000) : sortedD [Wd l] = some (.lst ((sortN l).map Sg)) := by
  show (if _ then _ else _) = _
  rw [if_pos (by rw [S_len]; exact h), signsS_S]
  exact sortStrs_sg h
/-! ### a dict of signs, counted -/
theorem Sg_inj (a b : Nat) (h : Sg a = Sg b) : a = b := by simpa using h
theorem Wd_inj (a b : List Nat) (h : Wd a = Wd b) : a = b := by simpa using h
def natD (n : Nat) : D := .int n
abbrev encC (kv : List (Nat × Nat)) : D := .dct false (encA Sg natD kv)
theorem enc_len {α β : Type} (κ : α → D) (ν : β → D) (kv : List (α × β)) : (encA κ ν kv).length = kv.length := by simp [encA]
theorem sortedD_enc {kv : List (Nat × Nat)} (h : kv.length ≤ 1000000) : sortedD [encC kv] = some (.lst ((sortN (kv.map (·.1))).map Sg)) := by
  show (strsD ((encA Sg natD kv).map (·.1))).bind sortStrs = _
  have e : (encA Sg natD kv).map (·.1) = ((kv.map (·.1)).map fun c => S [c]).map D.str := by
    simp [encA, List.map_map, Function.comp_def]
  rw [e, strsD_map]
  exact sortStrs_sg (by simpa using h)
theorem bump_step {env : EnvD} {i j : Nat} {kv : List (Nat × Nat)} {c : Nat} (hi : env[i]? = some (.own (encC kv))) (hj : env[j]? = some (.val (Sg c))) (hl : kv.length ≤ 1000000) :
    sPutD i (eVar j) (e2 addD (eGet2 (vVar i) (eVar j) (eC (.int 0))) (eC (.int 1))) env = .nx (env.set i (.own (encC (bump kv c)))) := by
  have hl2 : (encA Sg natD kv).length ≤ 1000000 := by rw [enc_len]; exact hl
  simp [hi, hj, lookD_enc Sg_inj, hl2]
  have e : addD (((lookA kv c).map natD).getD (.int 0)) (.int 1) = some (natD ((lookA kv c).getD 0 + 1)) := by
    cases lookA kv c with
    | none => rfl
    | some n => simp [natD]
  rw [e]
  simp [hj, hi, hl2, putD_enc Sg_inj, bump]
theorem cnt_snoc {α : Type} [DecidableEq α] (l : List α) (c : α) : cnt (l ++ [c]) = bump (cnt l) c := by simp [cnt]
/-- equal counts, whatever the order -/
theorem cnt_perm_keys {α : Type} [DecidableEq α] {l m : List α} (h : l.Perm m) : ((cnt l).map (·.1)).Perm ((cnt m).map (·.1)) :=
  perm_of_mem (cnt_inv l).1 (cnt_inv m).1 fun x => by rw [cnt_keys, cnt_keys]; exact h.mem_iff
theorem sameDct_cnt {l m : List Nat} (h : l.Perm m) : sameDct (encC (cnt l)) (encC (cnt m)) = true := by
  unfold sameDct
  simp only [Bool.and_eq_true, decide_eq_true_eq, List.all_eq_true]
  constructor
  · rw [enc_len, enc_len]
    have := (cnt_perm_keys h).length_eq
    simpa using this
  · intro p hp
    obtain ⟨q, hq, rfl⟩ := List.mem_map.mp hp
    refine ⟨?_, rfl⟩
    show lookD (encA Sg natD (cnt m)) (Sg q.1) = some (natD q.2)
    rw [lookD_enc Sg_inj]
    have h1 := lookA_mem (cnt_inv l).1 hq
    rw [(cnt_inv l).2] at h1
    rw [(cnt_inv m).2]
    by_cases hc : q.1 ∈ l
    · rw [if_pos hc] at h1
      rw [if_pos (h.mem_iff.mp hc), ← h.count_eq]
      rw [Option.some.inj h1]
      rfl
    · rw [if_neg hc] at h1; cases h1
/-! ### equality of deep things -/
theorem okNs_all (n : Nat) : ∀ l : List D, okNs n l = l.all (okN n)
  | [] => by unfold okNs; rfl
  | d :: l => by unfold okNs; rw [okNs_all n l]; rfl
theorem noBs_all (b : Bool) : ∀ l : List D, noBs b l = l.all (noB b)
  | [] => by unfold noBs; rfl
  | d :: l => by unfold noBs; rw [noBs_all b l]; rfl
/-- all signs are code points -/
def Cp (r : List Nat) : Prop := ∀ c ∈ r, c < 1114112
theorem strOk_S {r : List Nat} (h : Cp r) : PyData.strOk (S r) = true := by
  unfold PyData.strOk
  rw [Array.all_eq_true_iff_forall_mem]
  intro x hx
  exact decide_eq_true (h x (by simpa using hx))
theorem okN_Wd {r : List Nat} (n : Nat) (h : Cp r) : okN n (Wd r) = true := by
  cases n <;> exact strOk_S h
@[simp] theorem noB_Wd (b : Bool) (r : List Nat) : noB b (Wd r) = true := rfl
theorem ok_texts {l : List (List Nat)} {n : Nat} (h : ∀ r ∈ l, Cp r) : okNs n (l.map Wd) = true := by
  rw [okNs_all, List.all_map, List.all_eq_true]
  exact fun r hr => okN_Wd n (h r hr)
theorem nb_texts (l : List (List Nat)) (b : Bool) : noBs b (l.map Wd) = true := by
  rw [noBs_all, List.all_map, List.all_eq_true]
  exact fun r hr => rfl
theorem eqW_tupT {l m : List (List Nat)} (h1 : ∀ r ∈ l, Cp r) (h2 : ∀ r ∈ m, Cp r) : eqW (.tup (l.map Wd)) (.tup (m.map Wd)) = some (.bl (decide (l = m))) := by
  have e : ((D.tup (l.map Wd)) = .tup (m.map Wd)) ↔ l = m := by
    constructor
    · intro h
      exact (List.map_inj_right (f := Wd) Wd_inj).mp (D.tup.inj h)
    · intro h; rw [h]
  rw [eqW_deep rfl]
  · show some (D.bl (decide (D.tup (l.map Wd) = .tup (m.map Wd)))) = _
    rw [decide_eq_decide.mpr e]
  · show (okNs 59 (l.map Wd) && okNs 59 (m.map Wd) && (noBs false (l.map Wd) && noBs false (m.map Wd) || _)) = true
    rw [ok_texts h1, ok_texts h2, nb_texts, nb_texts]; rfl
theorem neW_tupT {l m : List (List Nat)} (h1 : ∀ r ∈ l, Cp r) (h2 : ∀ r ∈ m, Cp r) : neW (.tup (l.map Wd)) (.tup (m.map Wd)) = some (.bl (!decide (l = m))) := by
  have e : ((D.tup (l.map Wd)) = .tup (m.map Wd)) ↔ l = m := by
    constructor
    · intro h
      exact (List.map_inj_right (f := Wd) Wd_inj).mp (D.tup.inj h)
    · intro h; rw [h]
  rw [neW_deep rfl]
  · show some (D.bl (!decide (D.tup (l.map Wd) = .tup (m.map Wd)))) = _
    rw [decide_eq_decide.mpr e]
  · show (okNs 59 (l.map Wd) && okNs 59 (m.map Wd) && (noBs false (l.map Wd) && noBs false (m.map Wd) || _)) = true
    rw [ok_texts h1, ok_texts h2, nb_texts, nb_texts]; rfl
/-- a list like itself -/
theorem neW_self {l : List D} (h1 : okNs 59 l = true) (h2 : noBs false l = true) : neW (.lst l) (.lst l) = some (.bl false) := by
  rw [neW_deep rfl]
  · show some (D.bl (!decide (D.lst l = .lst l))) = _
    rw [decide_eq_true rfl]; rfl
  · show (okNs 59 l && okNs 59 l && (noBs false l && noBs false l || _)) = true
    rw [h1, h2]; rfl
theorem ixD_S {r : List Nat} {c : Nat} (h : r.length ≤ 1000000) (hc : c < r.length) : ixD (Wd r) (.int c) = some (Sg (r[c]?.getD 0)) := by
  rw [ixD_str h (by omega) (by omega)]
  simp [hc]
end Ck
namespace Ck
theorem flatMap_le {α β : Type} {f : α → List β} {K : Nat} (h : ∀ a, (f a).length ≤ K) : ∀ l : List α, (l.flatMap f).length ≤ l.length * K
  | [] => by simp
  | a :: l => by
    rw [List.flatMap_cons, List.length_append, List.length_cons, Nat.succ_mul]
    have := flatMap_le h l
    have := h a
    omega
end Ck
namespace Ck
open PySem PySem.Spec L2 RZ
theorem for2D_pre {α : Type} {set : GD} {f : S2} {φ : α → D} (I : List (List D) → EnvD → Prop) : ∀ {l : List α} {rows : List (List D)} {env : EnvD}, I rows env →
    (∀ a ∈ l, ∀ rows env, I rows env → ∃ e r' e', set (φ a) env = some e ∧ f rows e = .nx r' e' ∧ I r' e') → ∃ r' e', for2D set f (l.map φ) rows env = .nx r' e' ∧ I r' e'
  | [], rows, env, h, _ => ⟨rows, env, rfl, h⟩
  | a :: l, rows, env, h, hs => by
    obtain ⟨e, r1, e1, h1, h2, h3⟩ := hs a List.mem_cons_self rows env h
    obtain ⟨r2, e2, h4, h5⟩ := for2D_pre I (l := l) h3 fun b hb => hs b (List.mem_cons_of_mem _ hb)
    refine ⟨r2, e2, ?_, h5⟩
    rw [List.map_cons]
    unfold for2D
    rw [h1]
    dsimp only
    rw [h2]
    exact h4
section
variable (rows : List (List D)) (env : EnvD)
def seq2 (h : S2) : Out2 → Out2
  | .nx r e => h r e
  | o => o
@[simp] theorem seq2_nx (h : S2) (r : List (List D)) (e : EnvD) : seq2 h (.nx r e) = h r e := rfl
@[simp] theorem seq2_rt (h : S2) (d : D) : seq2 h (.rt d) = .rt d := rfl
@[simp] theorem s2Seq_ev (f h : S2) : s2Seq f h rows env = seq2 h (f rows env) := by
  unfold s2Seq seq2
  cases f rows env <;> rfl
def ee2 (k : D → Out2) : Res D → Out2
  | .ok d => if scal d = true then k d else .stuck
  | _ => .stuck
@[simp] theorem ee2_int (k : D → Out2) (x : Int) : ee2 k (.ok (.int x)) = k (.int x) := rfl
@[simp] theorem ee2_str (k : D → Out2) (x : Str) : ee2 k (.ok (.str x)) = k (.str x) := rfl
theorem e2v_ev (i : Nat) (f : ED) (k : D → Out2) (no : noOwn env = true) : e2v i f rows env k = ee2 k (f (env.set i (.val (rowsD rows)))) := by
  unfold e2v ee2
  refine (if_pos no).trans ?_
  cases f (env.set i (.val (rowsD rows))) <;> rfl
end
end Ck

namespace Ck
open PySem PySem.Spec L2 RZ
def kNoFit (n : Str) : Option Bool := if n = "NoFit" then some true else none
def hNoFit : Exn → SD := fun y env => if y.cls = "NoFit" ∧ y.fs = [] then .rt (.lst [.str "NoFit"]) else .stuck

/-! sign, one, other -/
def b_other_colour : SD := (sSeq (sIf (tB (e2 eqW (vVar 0) (vVar 1))) (sRet (eVar 2)) sNil)
    (sSeq (sIf (tB (e2 eqW (vVar 0) (vVar 2))) (sRet (eVar 1)) sNil)
    (sRet (eVar 0))))
def m_other_colour : List D → Res D := runD b_other_colour [false, false, false] 3
/-! cloth, one, other -/
def b_dyed_two : SD := (sRet (eB tupD (aCons (eLc (iAny (vVar 0)) [3] (gVar 3) tTrue (eM isStr joinD (eC (.str "")) (aCons (eLc (iAny (vVar 3)) [4] (gVar 4) tTrue (eCall m_other_colour (aCons (eVar 4) (aCons (eVar 1) (aCons (eVar 2) aNil))))) aNil))) aNil)))
def m_dyed_two : List D → Res D := runD b_dyed_two [false, false, false] 5
/-! cloth -/
def b_knots_by_colour : SD := (sSeq (sNew 1 (eC (.dct false [])))
    (sSeq (sFor (iAny (eB sortedD (aCons (eM isStr joinD (eC (.str "")) (aCons (vVar 0) aNil)) aNil))) (gVar 2) (sFgt [2] (sPutD 1 (eVar 2) (e2 addD (eGet2 (vVar 1) (eVar 2) (eC (.int 0))) (eC (.int 1))))))
    (sRetV 1)))
def m_knots_by_colour : List D → Res D := runD b_knots_by_colour [false] 3
/-! cloth -/
def b_colours_of : SD := (sRet (eB sortedD (aCons (eCall m_knots_by_colour (aCons (eVar 0) aNil)) aNil)))
def m_colours_of : List D → Res D := runD b_colours_of [false] 1
/-! one, other -/
def b_unlike : SD := (sSeq (sIf (tOrD (tB (e2 neW (eB lenD (aCons (vVar 0) aNil)) (eB lenD (aCons (vVar 1) aNil)))) (tB (e2 neW (eB lenD (aCons (e2 ixD (vVar 0) (eC (.int 0))) aNil)) (eB lenD (aCons (e2 ixD (vVar 1) (eC (.int 0))) aNil))))) (sRaise "NoFit") sNil)
    (sSeq (sNew 2 (eLst aNil))
    (sSeq (sFor (iB rng1 (aCons (eB lenD (aCons (vVar 0) aNil)) aNil)) (gVar 3) (sFgt [3, 4] (sFor (iB rng1 (aCons (eB lenD (aCons (e2 ixD (vVar 0) (eC (.int 0))) aNil)) aNil)) (gVar 4) (sFgt [4] (sIf (tB (e2 neW (e2 ixD (e2 ixD (vVar 0) (eVar 3)) (eVar 4)) (e2 ixD (e2 ixD (vVar 1) (eVar 3)) (eVar 4)))) (sApp 2 (eTup (aCons (eVar 3) (aCons (eVar 4) aNil)))) sNil)))))
    (sRetV 2))))
def m_unlike : List D → Res D := runD b_unlike [false, false] 5
/-! _law_script, _law_k -/
def b__law_cell_at : SD := (sSeq (sIf (tB (e2 ltD (vVar 1) (eB lenD (aCons (vVar 0) aNil)))) (sRet (e2 ixD (vVar 0) (eVar 1))) sNil)
    (sRet (eC (.int 0))))
def m__law_cell_at : List D → Res D := runD b__law_cell_at [true, false] 2
/-! _law_cell -/
def b__law_number : SD := (sRet (e2 modD (e2 mulD (e2 addD (e2 modD (eVar 0) (eC (.int 2147483629))) (eC (.int 48611))) (eC (.int 69621))) (eC (.int 2147483629))))
def m__law_number : List D → Res D := runD b__law_number [false] 1
/-! _law_cell, _law_many -/
def b__law_letters : SD := (sSeq (sSet 2 (eCall m__law_number (aCons (eVar 0) aNil)))
    (sRet (eLc (iB rng1 (aCons (vVar 1) aNil)) [3] (gVar 3) tTrue (e2 ixD (eC (.str "abcdefghijklmnopqrstuvwxyz")) (e2 modD (e2 addD (e2 divD (eVar 2) (eC (.int 26))) (e2 mulD (eVar 3) (e2 addD (eC (.int 1)) (e2 mulD (eC (.int 2)) (e2 modD (eVar 2) (eC (.int 13))))))) (eC (.int 26)))))))
def m__law_letters : List D → Res D := runD b__law_letters [false, false] 4
/-! _law_script, _law_at, _law_most, _law_carpet -/
def b__law_cloth : SD := (sSeq (sSet 4 (eCall m__law_number (aCons (eCall m__law_cell_at (aCons (vVar 0) (aCons (eVar 1) aNil))) aNil)))
    (sSeq (sSet 5 (e2 addD (eC (.int 1)) (e2 modD (eVar 4) (eVar 2))))
    (sSeq (sSet 6 (eVar 5))
    (sSeq (sIf (tNotD (tB (eVar 3))) (sSet 6 (e2 addD (eC (.int 1)) (e2 modD (e2 divD (eVar 4) (eC (.int 24))) (eVar 2)))) sNil)
    (sSeq (sSet 7 (eCall m__law_letters (aCons (eCall m__law_cell_at (aCons (vVar 0) (aCons (e2 addD (eVar 1) (eC (.int 1))) aNil))) (aCons (e2 addD (eC (.int 1)) (e2 modD (e2 divD (eVar 4) (eC (.int 576))) (eC (.int 4)))) aNil))))
    (sSeq (sSet 8 (e2 addD (eSl (vVar 0) (oSome (e2 addD (eVar 1) (eC (.int 2)))) (oSome (e2 addD (eVar 1) (eC (.int 26))))) (eLst (aCons (eVar 4) aNil))))
    (sSeq (sNew 9 (eLst aNil))
    (sSeq (sFor (iB rng1 (aCons (vVar 5) aNil)) (gVar 10) (sFgt [10, 11, 12, 13] (sSeq (sSet 11 (eC (.str "")))
    (sSeq (sFor (iB rng1 (aCons (vVar 6) aNil)) (gVar 12) (sFgt [12, 13] (sSeq (sSet 13 (e2 divD (eCall m__law_number (aCons (e2 ixD (vVar 8) (e2 modD (e2 addD (e2 mulD (eVar 10) (eVar 6)) (eVar 12)) (eB lenD (aCons (vVar 8) aNil)))) aNil)) (e2 addD (eC (.int 1)) (e2 divD (e2 addD (e2 mulD (eVar 10) (eVar 6)) (eVar 12)) (eB lenD (aCons (vVar 8) aNil))))))
    (sSet 11 (e2 addD (eVar 11) (e2 ixD (vVar 7) (e2 modD (eVar 13) (eB lenD (aCons (vVar 7) aNil)))))))))
    (sApp 9 (eVar 11))))))
    (sRet (eB tupD (aCons (vVar 9) aNil)))))))))))
def m__law_cloth : List D → Res D := runD b__law_cloth [true, false, false, false] 14
/-! _law_cloth_here -/
def b__law_counts : SD := (sSeq (sNew 1 (eC (.dct false [])))
    (sSeq (sFor (iAny (eVar 0)) (gVar 2) (sFgt [2, 3] (sFor (iAny (eVar 2)) (gVar 3) (sFgt [3] (sPutD 1 (eVar 3) (e2 addD (eGet2 (vVar 1) (eVar 3) (eC (.int 0))) (eC (.int 1))))))))
    (sFrz 1 (sRet (eVar 1)))))
def m__law_counts : List D → Res D := runD b__law_counts [false] 4
/-! _law_cloth_here, _law_one, _law_other_here -/
def b__law_dyed : SD := (sSeq (sNew 3 (eLst aNil))
    (sSeq (sFor (iAny (eVar 0)) (gVar 4) (sFgt [4, 5, 6] (sSeq (sNew 5 (eLst aNil))
    (sSeq (sFor (iAny (eVar 4)) (gVar 6) (sFgt [6] (sIf (tB (e2 eqW (vVar 6) (vVar 1))) (sApp 5 (eVar 2)) (sIf (tB (e2 eqW (vVar 6) (vVar 2))) (sApp 5 (eVar 1)) (sApp 5 (eVar 6))))))
    (sApp 3 (eM isStr joinD (eC (.str "")) (aCons (vVar 5) aNil)))))))
    (sRet (eB tupD (aCons (vVar 3) aNil)))))
def m__law_dyed : List D → Res D := runD b__law_dyed [false, false, false] 7
/-! _law_one, _law_other_here -/
def b__law_unlike : SD := (sSeq (sTryU 3 kNoFit (sNew 2 (eCall m_unlike (aCons (eVar 0) (aCons (eVar 1) aNil)))) hNoFit) (sRetV 2))
def m__law_unlike : List D → Res D := runD b__law_unlike [false, false] 4
/-! _law_one, _law_other_here -/
def b__law_due_unlike : SD := (sSeq (sIf (tOrD (tB (e2 neW (eB lenD (aCons (vVar 0) aNil)) (eB lenD (aCons (vVar 1) aNil)))) (tB (e2 neW (eB lenD (aCons (e2 ixD (vVar 0) (eC (.int 0))) aNil)) (eB lenD (aCons (e2 ixD (vVar 1) (eC (.int 0))) aNil))))) (sRet (eLst (aCons (eC (.str "NoFit")) aNil))) sNil)
    (sSeq (sNew 2 (eLst aNil))
    (sSeq (sFor (iB rng1 (aCons (eB lenD (aCons (vVar 0) aNil)) aNil)) (gVar 3) (sFgt [3, 4] (sFor (iB rng1 (aCons (eB lenD (aCons (e2 ixD (vVar 0) (eC (.int 0))) aNil)) aNil)) (gVar 4) (sFgt [4] (sIf (tB (e2 neW (e2 ixD (e2 ixD (vVar 0) (eVar 3)) (eVar 4)) (e2 ixD (e2 ixD (vVar 1) (eVar 3)) (eVar 4)))) (sApp 2 (eTup (aCons (eVar 3) (aCons (eVar 4) aNil)))) sNil)))))
    (sFrz 2 (sRet (eVar 2))))))
def m__law_due_unlike : List D → Res D := runD b__law_due_unlike [false, false] 5
/-! _law_script, _law_cloth_here -/
def b__law_other : SD := (sSeq (sSet 2 (eCall m__law_number (aCons (eCall m__law_cell_at (aCons (vVar 0) (aCons (eC (.int 26)) aNil))) aNil)))
    (sSeq (sIf (tB (e2 eqW (e2 modD (eVar 2) (eC (.int 4))) (eC (.int 0)))) (sRet (eCall m__law_cloth (aCons (vVar 0) (aCons (eC (.int 27)) (aCons (eC (.int 10)) (aCons (eC (.bl false)) aNil)))))) sNil)
    (sRows 3 (iAny (vVar 1)) [8] (gVar 8) tTrue (eB listA (aCons (vVar 8) aNil))
    (s2Seq (s2For (iAny (eSl (vVar 0) (oSome (eC (.int 27))) (oSome (e2 addD (eC (.int 27)) (e2 modD (e2 divD (eVar 2) (eC (.int 4))) (eC (.int 9))))))) (gVar 4) (s2Seq (s2Set 3 5 (eCall m__law_number (aCons (eVar 4) aNil)))
    (s2Seq (s2Set 3 6 (e2 modD (eVar 5) (eB lenD (aCons (vVar 3) aNil))))
    (s2Seq (s2Set 3 7 (e2 modD (e2 divD (eVar 5) (eC (.int 16))) (eB lenD (aCons (e2 ixD (vVar 3) (eC (.int 0))) aNil))))
    (s2Put 3 (eVar 6) (eVar 7) (e2 ixD (eC (.str "abcxyz")) (e2 modD (e2 divD (eVar 5) (eC (.int 256))) (eC (.int 6)))))))))
    (s2Fix 3 (sRet (eB tupD (aCons (eLc (iAny (vVar 3)) [8] (gVar 8) tTrue (eM isStr joinD (eC (.str "")) (aCons (vVar 8) aNil))) aNil))))))))
def m__law_other : List D → Res D := runD b__law_other [true, false] 9
/-! _law_script -/
def b_law : SD := (sSeq (sSet 1 (eCall m__law_cloth (aCons (vVar 0) (aCons (eC (.int 0)) (aCons (eC (.int 10)) (aCons (eC (.bl false)) aNil))))))
    (sSeq (sSet 2 (eCall m__law_other (aCons (vVar 0) (aCons (eVar 1) aNil))))
    (sSeq (sSet 3 (eCall m__law_counts (aCons (eVar 1) aNil)))
    (sSeq (sFor (iB rng1 (aCons (eC (.int 2)) aNil)) (gVar 4) (sFgt [4, 6, 7] (sSeq (sNew 5 (eCall m_colours_of (aCons (eVar 1) aNil)))
    (sSeq (sNew 6 (eCall m_knots_by_colour (aCons (eVar 1) aNil)))
    (sSeq (sNew 7 (eCall m__law_unlike (aCons (eVar 1) (aCons (eVar 2) aNil))))
    (sSeq (sIf (tOrD (tB (e2 neW (vVar 5) (eB sortedD (aCons (vVar 3) aNil)))) (tOrD (tB (e2 (eqC false) (vVar 6) (vVar 3))) (tB (e2 neW (vVar 7) (eCall m__law_due_unlike (aCons (eVar 1) (aCons (eVar 2) aNil))))))) (sRet (eC (.bl false))) sNil)
    (sSeq (sClearL 5)
    (sSeq (sClearD 6)
    (sApp 7 (eTup (aCons (eC (.int 0)) (aCons (eC (.int 0)) aNil))))))))))))
    (sSeq (sFor (iAny (e2 addD (eSl (vVar 0) (oSome (eC (.int 52))) (oSome (eC (.int 82)))) (eLst (aCons (eC (.int 1)) aNil)))) (gVar 8) (sFgt [8, 9, 10, 11] (sSeq (sSet 9 (eCall m__law_number (aCons (eVar 8) aNil)))
    (sSeq (sSet 10 (e2 ixD (eC (.str "abcdefghijklmnopqrstuvwxyz")) (e2 modD (eVar 9) (eC (.int 26)))))
    (sSeq (sIf (tB (e2 gtD (e2 modD (e2 divD (eVar 9) (eC (.int 26))) (eC (.int 3))) (eC (.int 0)))) (sSet 10 (e2 ixD (eB sortedD (aCons (vVar 3) aNil)) (e2 modD (e2 divD (eVar 9) (eC (.int 78))) (eB lenD (aCons (vVar 3) aNil))))) sNil)
    (sSeq (sSet 11 (e2 ixD (eB sortedD (aCons (vVar 3) aNil)) (e2 modD (e2 divD (eVar 9) (eC (.int 312))) (eB lenD (aCons (vVar 3) aNil)))))
    (sSeq (sSet 5 (eCall m_dyed_two (aCons (eVar 1) (aCons (eVar 10) (aCons (eVar 11) aNil)))))
    (sSeq (sIf (tOrD (tNotD (tB (e1 (isTD "tuple") (vVar 5)))) (tB (e2 neW (vVar 5) (eCall m__law_dyed (aCons (eVar 1) (aCons (eVar 10) (aCons (eVar 11) aNil))))))) (sRet (eC (.bl false))) sNil)
    (sFrz 5 (sIf (tB (e2 neW (eCall m_dyed_two (aCons (eVar 5) (aCons (eVar 11) (aCons (eVar 10) aNil)))) (vVar 1))) (sRet (eC (.bl false))) sNil))))))))))
    (sRet (eC (.bl true))))))))
def m_law : List D → Res D := runD b_law [true] 12
end Ck

namespace Ck
open PySem PySem.Spec L2 RZ
def topS (i : Nat) : Stmt := PySem.Challenge.pw_carpetkin_k06_colours.main.body.getD i (.Pass ⟨0, 0, 0, 0⟩)
abbrev s_other_colour : Stmt := topS 4
abbrev s_dyed_two : Stmt := topS 5
abbrev s_knots_by_colour : Stmt := topS 6
abbrev s_colours_of : Stmt := topS 7
abbrev s_unlike : Stmt := topS 8
abbrev s__law_cell_at : Stmt := topS 10
abbrev s__law_number : Stmt := topS 11
abbrev s__law_letters : Stmt := topS 12
abbrev s__law_cloth : Stmt := topS 13
abbrev s__law_counts : Stmt := topS 14
abbrev s__law_dyed : Stmt := topS 15
abbrev s__law_unlike : Stmt := topS 16
abbrev s__law_due_unlike : Stmt := topS 17
abbrev s__law_other : Stmt := topS 18
abbrev s_law : Stmt := topS 19
structure TX (K : PySem.W.Frag) (mg : Str → Option Value) where
  z_int : mg "int" = none
  z_isinstance : mg "isinstance" = none
  z_len : mg "len" = none
  z_list : mg "list" = none
  z_range : mg "range" = none
  z_sorted : mg "sorted" = none
  z_tuple : mg "tuple" = none
  a_other_colour : Addr
  d_other_colour : FuncData
  f_other_colour : Fun K "other_colour" "other_colour" s_other_colour a_other_colour d_other_colour
  g_other_colour : mg "other_colour" = some (.ref a_other_colour)
  b_other_colour : Binds K d_other_colour ["sign", "one", "other"] []
  a_dyed_two : Addr
  d_dyed_two : FuncData
  f_dyed_two : Fun K "dyed_two" "dyed_two" s_dyed_two a_dyed_two d_dyed_two
  g_dyed_two : mg "dyed_two" = some (.ref a_dyed_two)
  b_dyed_two : Binds K d_dyed_two ["cloth", "one", "other"] []
  a_knots_by_colour : Addr
  d_knots_by_colour : FuncData
  f_knots_by_colour : Fun K "knots_by_colour" "knots_by_colour" s_knots_by_colour a_knots_by_colour d_knots_by_colour
  g_knots_by_colour : mg "knots_by_colour" = some (.ref a_knots_by_colour)
  b_knots_by_colour : Binds K d_knots_by_colour ["cloth"] []
  a_colours_of : Addr
  d_colours_of : FuncData
  f_colours_of : Fun K "colours_of" "colours_of" s_colours_of a_colours_of d_colours_of
  g_colours_of : mg "colours_of" = some (.ref a_colours_of)
  b_colours_of : Binds K d_colours_of ["cloth"] []
  a_unlike : Addr
  d_unlike : FuncData
  f_unlike : Fun K "unlike" "unlike" s_unlike a_unlike d_unlike
  g_unlike : mg "unlike" = some (.ref a_unlike)
  b_unlike : Binds K d_unlike ["one", "other"] []
  a__law_cell_at : Addr
  d__law_cell_at : FuncData
  f__law_cell_at : Fun K "_law_cell_at" "_law_cell_at" s__law_cell_at a__law_cell_at d__law_cell_at
  g__law_cell_at : mg "_law_cell_at" = some (.ref a__law_cell_at)
  b__law_cell_at : Binds K d__law_cell_at ["_law_script", "_law_k"] []
  a__law_number : Addr
  d__law_number : FuncData
  f__law_number : Fun K "_law_number" "_law_number" s__law_number a__law_number d__law_number
  g__law_number : mg "_law_number" = some (.ref a__law_number)
  b__law_number : Binds K d__law_number ["_law_cell"] []
  a__law_letters : Addr
  d__law_letters : FuncData
  f__law_letters : Fun K "_law_letters" "_law_letters" s__law_letters a__law_letters d__law_letters
  g__law_letters : mg "_law_letters" = some (.ref a__law_letters)
  b__law_letters : Binds K d__law_letters ["_law_cell", "_law_many"] []
  a__law_cloth : Addr
  d__law_cloth : FuncData
  f__law_cloth : Fun K "_law_cloth" "_law_cloth" s__law_cloth a__law_cloth d__law_cloth
  g__law_cloth : mg "_law_cloth" = some (.ref a__law_cloth)
  b__law_cloth : Binds K d__law_cloth ["_law_script", "_law_at", "_law_most", "_law_carpet"] []
  a__law_counts : Addr
  d__law_counts : FuncData
  f__law_counts : Fun K "_law_counts" "_law_counts" s__law_counts a__law_counts d__law_counts
  g__law_counts : mg "_law_counts" = some (.ref a__law_counts)
  b__law_counts : Binds K d__law_counts ["_law_cloth_here"] []
  a__law_dyed : Addr
  d__law_dyed : FuncData
  f__law_dyed : Fun K "_law_dyed" "_law_dyed" s__law_dyed a__law_dyed d__law_dyed
  g__law_dyed : mg "_law_dyed" = some (.ref a__law_dyed)
  b__law_dyed : Binds K d__law_dyed ["_law_cloth_here", "_law_one", "_law_other_here"] []
  a__law_unlike : Addr
  d__law_unlike : FuncData
  f__law_unlike : Fun K "_law_unlike" "_law_unlike" s__law_unlike a__law_unlike d__law_unlike
  g__law_unlike : mg "_law_unlike" = some (.ref a__law_unlike)
  b__law_unlike : Binds K d__law_unlike ["_law_one", "_law_other_here"] []
  a__law_due_unlike : Addr
  d__law_due_unlike : FuncData
  f__law_due_unlike : Fun K "_law_due_unlike" "_law_due_unlike" s__law_due_unlike a__law_due_unlike d__law_due_unlike
  g__law_due_unlike : mg "_law_due_unlike" = some (.ref a__law_due_unlike)
  b__law_due_unlike : Binds K d__law_due_unlike ["_law_one", "_law_other_here"] []
  a__law_other : Addr
  d__law_other : FuncData
  f__law_other : Fun K "_law_other" "_law_other" s__law_other a__law_other d__law_other
  g__law_other : mg "_law_other" = some (.ref a__law_other)
  b__law_other : Binds K d__law_other ["_law_script", "_law_cloth_here"] []
  a_law : Addr
  d_law : FuncData
  f_law : Fun K "law" "law" s_law a_law d_law
  g_law : mg "law" = some (.ref a_law)
  b_law : Binds K d_law ["_law_script"] []
  c_NoFit : Addr
  xq_NoFit : PySem.W.excIn K c_NoFit [.type "ValueError", .type "Exception", .type "BaseException", .type "object"] "ValueError.__new__" = true
  xg_NoFit : mg "NoFit" = some (.ref c_NoFit)
  xk_NoFit : PySem.W.keepIn K (.ref c_NoFit) = true
  xb_NoFit : PySem.W.subIn K (.ref c_NoFit) (.type "BaseException") = some true
  xt_NoFit : PySem.W.typeIn K (.ref c_NoFit) = some (.type "type")
  z_ValueError : mg "ValueError" = none
  c_CarpetError : Addr
  xg_CarpetError : mg "CarpetError" = some (.ref c_CarpetError)
  em_NoFit : PySem.W.exmOne K (.ref c_NoFit) (.ref c_CarpetError) = some true
  ec_NoFit : ExcC K c_NoFit
  k1_NoFit : PySem.W.kitOne K (.ref c_NoFit) (.ref c_NoFit) = some true
  k2_NoFit : PySem.W.kitOne K (.ref c_NoFit) (.type "ValueError") = some true
section
variable {Pg : Program} {w : World} {K : PySem.W.Frag} {mg : Str → Option Value} {base : Heap}
theorem sc_other_colour : FnScope ["sign", "one", "other"] ["sign", "one", "other"] (defScope s_other_colour) := ⟨rfl, rfl, rfl, by decide +kernel, rfl, by decide +kernel, by decide +kernel⟩
theorem ok_other_colour (T : TX K mg) : FnOk Pg w K mg base (L2N.CX Pg w) 1 T.a_other_colour T.d_other_colour ["sign", "one", "other"] (spD ⟨K, mg⟩ [false, false, false] (PR ⟨K, mg⟩) m_other_colour) :=
  fun_ok (N := ["sign", "one", "other"]) [false, false, false] _ PR.nn T.f_other_colour sc_other_colour rfl (by decide) fun cdv A outer s H E hr => by
    have nd := (sc_other_colour).nd
    have tk : L2N.Takes (cxD Pg w K mg base ["sign", "one", "other"] "other_colour" (defScope s_other_colour) T.a_other_colour cdv A outer s H E) (WE0 E) := L2N.takes_of rfl rfl rfl rfl
    have hp : PassesOwn (model (cxD Pg w K mg base ["sign", "one", "other"] "other_colour" (defScope s_other_colour) T.a_other_colour cdv A outer s H E).prog (cxD Pg w K mg base ["sign", "one", "other"] "other_colour" (defScope s_other_colour) T.a_other_colour cdv A outer s H E).w) _ _ _ := passes_of (X := cxD Pg w K mg base ["sign", "one", "other"] "other_colour" (defScope s_other_colour) T.a_other_colour cdv A outer s H E) rfl
    exact (css_cons (cs_if (ct_cmp (od_eq hr) (cv_var 0) (cv_var 1)) (css_one (cs_ret (ce_var 2))) css_nil)
    (css_cons (cs_if (ct_cmp (od_eq hr) (cv_var 0) (cv_var 2)) (css_one (cs_ret (ce_var 1))) css_nil)
    (css_one (cs_ret (ce_var 0)))))
theorem sc_dyed_two : FnScope ["cloth", "one", "other", "row", "sign"] ["cloth", "one", "other"] (defScope s_dyed_two) := ⟨rfl, rfl, rfl, by decide +kernel, rfl, by decide +kernel, by decide +kernel⟩
theorem ok_dyed_two (T : TX K mg) : FnOk Pg w K mg base (L2N.CX Pg w) 2 T.a_dyed_two T.d_dyed_two ["cloth", "one", "other"] (spD ⟨K, mg⟩ [false, false, false] (PR ⟨K, mg⟩) m_dyed_two) :=
  fun_ok (N := ["cloth", "one", "other", "row", "sign"]) [false, false, false] _ PR.nn T.f_dyed_two sc_dyed_two rfl (by decide) fun cdv A outer s H E hr => by
    have nd := (sc_dyed_two).nd
    have tk : L2N.Takes (cxD Pg w K mg base ["cloth", "one", "other", "row", "sign"] "dyed_two" (defScope s_dyed_two) T.a_dyed_two cdv A outer s H E) (WE0 E) := L2N.takes_of rfl rfl rfl rfl
    have hp : PassesOwn (model (cxD Pg w K mg base ["cloth", "one", "other", "row", "sign"] "dyed_two" (defScope s_dyed_two) T.a_dyed_two cdv A outer s H E).prog (cxD Pg w K mg base ["cloth", "one", "other", "row", "sign"] "dyed_two" (defScope s_dyed_two) T.a_dyed_two cdv A outer s H E).w) _ _ _ := passes_of (X := cxD Pg w K mg base ["cloth", "one", "other", "row", "sign"] "dyed_two" (defScope s_dyed_two) T.a_dyed_two cdv A outer s H E) rfl
    exact (css_one (cs_ret (CN.ce (cn_bt cl_tuple T.z_tuple (ca_v (CN.view (cn_lc [("row", 3)] nd (ci_v (cv_var 0)) (blkOk_by (by rfl)) (fun _ _ _ _ _ => (ct_var 3 nd)) (fun _ _ _ _ _ => pts_true) (fun _ _ _ _ _ => (CN.ce (cn_bm PySem.F.plainAttrs_str PySem.F.slot_str_join PySem.F.type_str_join ms_join (CE.view ce_str) (ca_v (CN.view (cn_lc [("sign", 4)] nd (ci_v (cv_var 3)) (blkOk_by (by rfl)) (fun _ _ _ _ _ => (ct_var 4 nd)) (fun _ _ _ _ _ => pts_true) (fun _ _ _ _ _ => (ce_call tk0 (ok_other_colour T) (hr.mono (by decide)) T.g_other_colour T.f_other_colour.kp T.b_other_colour (ca_g (ce_var 4) (ca_g (ce_var 1) (ca_g (ce_var 2) ca_nil))))))) ca_nil)))))) ca_nil)))))
theorem sc_knots_by_colour : FnScope ["cloth", "found", "sign"] ["cloth"] (defScope s_knots_by_colour) := ⟨rfl, rfl, rfl, by decide +kernel, rfl, by decide +kernel, by decide +kernel⟩
theorem ok_knots_by_colour (T : TX K mg) : FnOk Pg w K mg base (L2N.CX Pg w) 1 T.a_knots_by_colour T.d_knots_by_colour ["cloth"] (spD ⟨K, mg⟩ [false] (PN ⟨K, mg⟩) m_knots_by_colour) :=
  fun_ok (N := ["cloth", "found", "sign"]) [false] _ PN.nn T.f_knots_by_colour sc_knots_by_colour rfl (by decide) fun cdv A outer s H E hr => by
    have nd := (sc_knots_by_colour).nd
    have tk : L2N.Takes (cxD Pg w K mg base ["cloth", "found", "sign"] "knots_by_colour" (defScope s_knots_by_colour) T.a_knots_by_colour cdv A outer s H E) (WE0 E) := L2N.takes_of rfl rfl rfl rfl
    have hp : PassesOwn (model (cxD Pg w K mg base ["cloth", "found", "sign"] "knots_by_colour" (defScope s_knots_by_colour) T.a_knots_by_colour cdv A outer s H E).prog (cxD Pg w K mg base ["cloth", "found", "sign"] "knots_by_colour" (defScope s_knots_by_colour) T.a_knots_by_colour cdv A outer s H E).w) _ _ _ := passes_of (X := cxD Pg w K mg base ["cloth", "found", "sign"] "knots_by_colour" (defScope s_knots_by_colour) T.a_knots_by_colour cdv A outer s H E) rfl
    exact (css_cons (cs_new 1 nd cn_dK)
    (css_cons (cs_for hp (ci_e (CN.ce (cn_bf (cl_sorted rfl) T.z_sorted (ca_v (CN.view (cn_bm PySem.F.plainAttrs_str PySem.F.slot_str_join PySem.F.type_str_join ms_join (CE.view ce_str) (ca_v (cv_var 0) ca_nil))) ca_nil)))) (cg_var 2 nd) (css_fgt [2] (css_one (cs_dput 1 hr (ce_var 2) (ce_op og_add (ce_get2 hr (cv_var 1) (ce_var 2) ce_int) ce_int)))))
    (css_one (cs_retV 1))))
theorem sc_colours_of : FnScope ["cloth"] ["cloth"] (defScope s_colours_of) := ⟨rfl, rfl, rfl, by decide +kernel, rfl, by decide +kernel, by decide +kernel⟩
theorem ok_colours_of (T : TX K mg) : FnOk Pg w K mg base (L2N.CX Pg w) 2 T.a_colours_of T.d_colours_of ["cloth"] (spD ⟨K, mg⟩ [false] (PN ⟨K, mg⟩) m_colours_of) :=
  fun_ok (N := ["cloth"]) [false] _ PN.nn T.f_colours_of sc_colours_of rfl (by decide) fun cdv A outer s H E hr => by
    have nd := (sc_colours_of).nd
    have tk : L2N.Takes (cxD Pg w K mg base ["cloth"] "colours_of" (defScope s_colours_of) T.a_colours_of cdv A outer s H E) (WE0 E) := L2N.takes_of rfl rfl rfl rfl
    have hp : PassesOwn (model (cxD Pg w K mg base ["cloth"] "colours_of" (defScope s_colours_of) T.a_colours_of cdv A outer s H E).prog (cxD Pg w K mg base ["cloth"] "colours_of" (defScope s_colours_of) T.a_colours_of cdv A outer s H E).w) _ _ _ := passes_of (X := cxD Pg w K mg base ["cloth"] "colours_of" (defScope s_colours_of) T.a_colours_of cdv A outer s H E) rfl
    exact (css_one (cs_retN (cn_bf (cl_sorted rfl) T.z_sorted (ca_v (CN.view (cn_call tk (ok_knots_by_colour T) (hr.mono (by decide)) T.g_knots_by_colour T.f_knots_by_colour.kp T.b_knots_by_colour (ca_g (ce_var 0) ca_nil))) ca_nil))))
theorem sc_unlike : FnScope ["one", "other", "found", "r", "c"] ["one", "other"] (defScope s_unlike) := ⟨rfl, rfl, rfl, by decide +kernel, rfl, by decide +kernel, by decide +kernel⟩
theorem ok_unlike (T : TX K mg) : FnOk Pg w K mg base (L2N.CX Pg w) 1 T.a_unlike T.d_unlike ["one", "other"] (spD ⟨K, mg⟩ [false, false] (PN ⟨K, mg⟩) m_unlike) :=
  fun_ok (N := ["one", "other", "found", "r", "c"]) [false, false] _ PN.nn T.f_unlike sc_unlike rfl (by decide) fun cdv A outer s H E hr => by
    have nd := (sc_unlike).nd
    have tk : L2N.Takes (cxD Pg w K mg base ["one", "other", "found", "r", "c"] "unlike" (defScope s_unlike) T.a_unlike cdv A outer s H E) (WE0 E) := L2N.takes_of rfl rfl rfl rfl
    have hp : PassesOwn (model (cxD Pg w K mg base ["one", "other", "found", "r", "c"] "unlike" (defScope s_unlike) T.a_unlike cdv A outer s H E).prog (cxD Pg w K mg base ["one", "other", "found", "r", "c"] "unlike" (defScope s_unlike) T.a_unlike cdv A outer s H E).w) _ _ _ := passes_of (X := cxD Pg w K mg base ["one", "other", "found", "r", "c"] "unlike" (defScope s_unlike) T.a_unlike cdv A outer s H E) rfl
    exact (css_cons (cs_if (cw_t (cw_or (ct_cmp (od_ne hr) (CN.view (cn_bf cl_len T.z_len (ca_v (cv_var 0) ca_nil))) (CN.view (cn_bf cl_len T.z_len (ca_v (cv_var 1) ca_nil)))) (cw_or1 (ct_cmp (od_ne hr) (CN.view (cn_bf cl_len T.z_len (ca_v (CE.view (ce_ix hr (cv_var 0) ce_int)) ca_nil))) (CN.view (cn_bf cl_len T.z_len (ca_v (CE.view (ce_ix hr (cv_var 1) ce_int)) ca_nil))))))) (css_one (cs_raise tk PySem.F.excBase_ValueError T.xq_NoFit T.xg_NoFit T.xk_NoFit (raises_own T.xb_NoFit T.xt_NoFit))) css_nil)
    (css_cons (cs_new 2 nd (cn_lst ca_nil))
    (css_cons (cs_for hp (ci_r1 T.z_range (ca_v (CN.view (cn_bf cl_len T.z_len (ca_v (cv_var 0) ca_nil))) ca_nil)) (cg_var 3 nd) (css_fgt [3, 4] (css_one (cs_for hp (ci_r1 T.z_range (ca_v (CN.view (cn_bf cl_len T.z_len (ca_v (CE.view (ce_ix hr (cv_var 0) ce_int)) ca_nil))) ca_nil)) (cg_var 4 nd) (css_fgt [4] (css_one (cs_if (ct_cmp (od_ne hr) (CE.view (ce_ix hr (CE.view (ce_ix hr (cv_var 0) (ce_var 3))) (ce_var 4))) (CE.view (ce_ix hr (CE.view (ce_ix hr (cv_var 1) (ce_var 3))) (ce_var 4)))) (css_one (cs_app 2 (ce_tup (ca_g (ce_var 3) (ca_g (ce_var 4) ca_nil))))) css_nil)))))))
    (css_one (cs_retV 2)))))
theorem sc__law_cell_at : FnScope ["_law_script", "_law_k"] ["_law_script", "_law_k"] (defScope s__law_cell_at) := ⟨rfl, rfl, rfl, by decide +kernel, rfl, by decide +kernel, by decide +kernel⟩
theorem ok__law_cell_at (T : TX K mg) : FnOk Pg w K mg base (L2N.CX Pg w) 1 T.a__law_cell_at T.d__law_cell_at ["_law_script", "_law_k"] (spD ⟨K, mg⟩ [true, false] (PR ⟨K, mg⟩) m__law_cell_at) :=
  fun_ok (N := ["_law_script", "_law_k"]) [true, false] _ PR.nn T.f__law_cell_at sc__law_cell_at rfl (by decide) fun cdv A outer s H E hr => by
    have nd := (sc__law_cell_at).nd
    have tk : L2N.Takes (cxD Pg w K mg base ["_law_script", "_law_k"] "_law_cell_at" (defScope s__law_cell_at) T.a__law_cell_at cdv A outer s H E) (WE0 E) := L2N.takes_of rfl rfl rfl rfl
    have hp : PassesOwn (model (cxD Pg w K mg base ["_law_script", "_law_k"] "_law_cell_at" (defScope s__law_cell_at) T.a__law_cell_at cdv A outer s H E).prog (cxD Pg w K mg base ["_law_script", "_law_k"] "_law_cell_at" (defScope s__law_cell_at) T.a__law_cell_at cdv A outer s H E).w) _ _ _ := passes_of (X := cxD Pg w K mg base ["_law_script", "_law_k"] "_law_cell_at" (defScope s__law_cell_at) T.a__law_cell_at cdv A outer s H E) rfl
    exact (css_cons (cs_if (ct_cmp od_lt (cv_var 1) (CN.view (cn_bf cl_len T.z_len (ca_v (cv_var 0) ca_nil)))) (css_one (cs_ret (ce_ix hr (cv_var 0) (ce_var 1)))) css_nil)
    (css_one (cs_ret ce_int)))
theorem sc__law_number : FnScope ["_law_cell"] ["_law_cell"] (defScope s__law_number) := ⟨rfl, rfl, rfl, by decide +kernel, rfl, by decide +kernel, by decide +kernel⟩
theorem ok__law_number (T : TX K mg) : FnOk Pg w K mg base (L2N.CX Pg w) 1 T.a__law_number T.d__law_number ["_law_cell"] (spD ⟨K, mg⟩ [false] (PR ⟨K, mg⟩) m__law_number) :=
  fun_ok (N := ["_law_cell"]) [false] _ PR.nn T.f__law_number sc__law_number rfl (by decide) fun cdv A outer s H E hr => by
    have nd := (sc__law_number).nd
    have tk : L2N.Takes (cxD Pg w K mg base ["_law_cell"] "_law_number" (defScope s__law_number) T.a__law_number cdv A outer s H E) (WE0 E) := L2N.takes_of rfl rfl rfl rfl
    have hp : PassesOwn (model (cxD Pg w K mg base ["_law_cell"] "_law_number" (defScope s__law_number) T.a__law_number cdv A outer s H E).prog (cxD Pg w K mg base ["_law_cell"] "_law_number" (defScope s__law_number) T.a__law_number cdv A outer s H E).w) _ _ _ := passes_of (X := cxD Pg w K mg base ["_law_cell"] "_law_number" (defScope s__law_number) T.a__law_number cdv A outer s H E) rfl
    exact (css_one (cs_ret (ce_op og_mod (ce_op og_mul (ce_op og_add (ce_op og_mod (ce_var 0) ce_int) ce_int) ce_int) ce_int)))
theorem sc__law_letters : FnScope ["_law_cell", "_law_many", "_law_number_here", "_law_k"] ["_law_cell", "_law_many"] (defScope s__law_letters) := ⟨rfl, rfl, rfl, by decide +kernel, rfl, by decide +kernel, by decide +kernel⟩
theorem ok__law_letters (T : TX K mg) : FnOk Pg w K mg base (L2N.CX Pg w) 2 T.a__law_letters T.d__law_letters ["_law_cell", "_law_many"] (spD ⟨K, mg⟩ [false, false] (PR ⟨K, mg⟩) m__law_letters) :=
  fun_ok (N := ["_law_cell", "_law_many", "_law_number_here", "_law_k"]) [false, false] _ PR.nn T.f__law_letters sc__law_letters rfl (by decide) fun cdv A outer s H E hr => by
    have nd := (sc__law_letters).nd
    have tk : L2N.Takes (cxD Pg w K mg base ["_law_cell", "_law_many", "_law_number_here", "_law_k"] "_law_letters" (defScope s__law_letters) T.a__law_letters cdv A outer s H E) (WE0 E) := L2N.takes_of rfl rfl rfl rfl
    have hp : PassesOwn (model (cxD Pg w K mg base ["_law_cell", "_law_many", "_law_number_here", "_law_k"] "_law_letters" (defScope s__law_letters) T.a__law_letters cdv A outer s H E).prog (cxD Pg w K mg base ["_law_cell", "_law_many", "_law_number_here", "_law_k"] "_law_letters" (defScope s__law_letters) T.a__law_letters cdv A outer s H E).w) _ _ _ := passes_of (X := cxD Pg w K mg base ["_law_cell", "_law_many", "_law_number_here", "_law_k"] "_law_letters" (defScope s__law_letters) T.a__law_letters cdv A outer s H E) rfl
    exact (css_cons (cs_set 2 nd (ce_call tk (ok__law_number T) (hr.mono (by decide)) T.g__law_number T.f__law_number.kp T.b__law_number (ca_g (ce_var 0) ca_nil)))
    (css_one (cs_ret (CN.ce (cn_lc [("_law_k", 3)] nd (ci_r1 T.z_range (ca_v (cv_var 1) ca_nil)) (blkOk_by (by rfl)) (fun _ _ _ _ _ => (ct_var 3 nd)) (fun _ _ _ _ _ => pts_true) (fun _ _ _ _ _ => (ce_ix hr (CE.view ce_str) (ce_op og_mod (ce_op og_add (ce_op og_div (ce_var 2) ce_int) (ce_op og_mul (ce_var 3) (ce_op og_add ce_int (ce_op og_mul ce_int (ce_op og_mod (ce_var 2) ce_int))))) ce_int))))))))
theorem sc__law_cloth : FnScope ["_law_script", "_law_at", "_law_most", "_law_carpet", "_law_number_here", "_law_rows", "_law_knots", "_law_signs", "_law_cells", "_law_found", "_law_r", "_law_row", "_law_c", "_law_own"] ["_law_script", "_law_at", "_law_most", "_law_carpet"] (defScope s__law_cloth) := ⟨rfl, rfl, rfl, by decide +kernel, rfl, by decide +kernel, by decide +kernel⟩
theorem ok__law_cloth (T : TX K mg) : FnOk Pg w K mg base (L2N.CX Pg w) 3 T.a__law_cloth T.d__law_cloth ["_law_script", "_law_at", "_law_most", "_law_carpet"] (spD ⟨K, mg⟩ [true, false, false, false] (PR ⟨K, mg⟩) m__law_cloth) :=
  fun_ok (N := ["_law_script", "_law_at", "_law_most", "_law_carpet", "_law_number_here", "_law_rows", "_law_knots", "_law_signs", "_law_cells", "_law_found", "_law_r", "_law_row", "_law_c", "_law_own"]) [true, false, false, false] _ PR.nn T.f__law_cloth sc__law_cloth rfl (by decide) fun cdv A outer s H E hr => by
    have nd := (sc__law_cloth).nd
    have tk : L2N.Takes (cxD Pg w K mg base ["_law_script", "_law_at", "_law_most", "_law_carpet", "_law_number_here", "_law_rows", "_law_knots", "_law_signs", "_law_cells", "_law_found", "_law_r", "_law_row", "_law_c", "_law_own"] "_law_cloth" (defScope s__law_cloth) T.a__law_cloth cdv A outer s H E) (WE0 E) := L2N.takes_of rfl rfl rfl rfl
    have hp : PassesOwn (model (cxD Pg w K mg base ["_law_script", "_law_at", "_law_most", "_law_carpet", "_law_number_here", "_law_rows", "_law_knots", "_law_signs", "_law_cells", "_law_found", "_law_r", "_law_row", "_law_c", "_law_own"] "_law_cloth" (defScope s__law_cloth) T.a__law_cloth cdv A outer s H E).prog (cxD Pg w K mg base ["_law_script", "_law_at", "_law_most", "_law_carpet", "_law_number_here", "_law_rows", "_law_knots", "_law_signs", "_law_cells", "_law_found", "_law_r", "_law_row", "_law_c", "_law_own"] "_law_cloth" (defScope s__law_cloth) T.a__law_cloth cdv A outer s H E).w) _ _ _ := passes_of (X := cxD Pg w K mg base ["_law_script", "_law_at", "_law_most", "_law_carpet", "_law_number_here", "_law_rows", "_law_knots", "_law_signs", "_law_cells", "_law_found", "_law_r", "_law_row", "_law_c", "_law_own"] "_law_cloth" (defScope s__law_cloth) T.a__law_cloth cdv A outer s H E) rfl
    exact (css_cons (cs_set 4 nd (ce_call tk (ok__law_number T) (hr.mono (by decide)) T.g__law_number T.f__law_number.kp T.b__law_number (ca_g (ce_call tk (ok__law_cell_at T) (hr.mono (by decide)) T.g__law_cell_at T.f__law_cell_at.kp T.b__law_cell_at (ca_v (cv_var 0) (ca_g (ce_var 1) ca_nil))) ca_nil)))
    (css_cons (cs_set 5 nd (ce_op og_add ce_int (ce_op og_mod (ce_var 4) (ce_var 2))))
    (css_cons (cs_set 6 nd (ce_var 5))
    (css_cons (cs_if (ct_not (ct_val (ce_var 3))) (css_one (cs_set 6 nd (ce_op og_add ce_int (ce_op og_mod (ce_op og_div (ce_var 4) ce_int) (ce_var 2))))) css_nil)
    (css_cons (cs_set 7 nd (ce_call tk (ok__law_letters T) (hr.mono (by decide)) T.g__law_letters T.f__law_letters.kp T.b__law_letters (ca_g (ce_call tk (ok__law_cell_at T) (hr.mono (by decide)) T.g__law_cell_at T.f__law_cell_at.kp T.b__law_cell_at (ca_v (cv_var 0) (ca_g (ce_op og_add (ce_var 1) ce_int) ca_nil))) (ca_g (ce_op og_add ce_int (ce_op og_mod (ce_op og_div (ce_var 4) ce_int) ce_int)) ca_nil))))
    (css_cons (cs_set 8 nd (ce_op og_add (CN.ce (cn_sl (cv_var 0) (co_some (ce_op og_add (ce_var 1) ce_int)) (co_some (ce_op og_add (ce_var 1) ce_int)))) (CN.ce (cn_lst (ca_g (ce_var 4) ca_nil)))))
    (css_cons (cs_new 9 nd (cn_lst ca_nil))
    (css_cons (cs_for hp (ci_r1 T.z_range (ca_v (cv_var 5) ca_nil)) (cg_var 10 nd) (css_fgt [10, 11, 12, 13] (css_cons (cs_set 11 nd ce_str)
    (css_cons (cs_for hp (ci_r1 T.z_range (ca_v (cv_var 6) ca_nil)) (cg_var 12 nd) (css_fgt [12, 13] (css_cons (cs_set 13 nd (ce_op og_div (ce_call tk (ok__law_number T) (hr.mono (by decide)) T.g__law_number T.f__law_number.kp T.b__law_number (ca_g (ce_ix hr (cv_var 8) (ce_op og_mod (ce_op og_add (ce_op og_mul (ce_var 10) (ce_var 6)) (ce_var 12)) (CN.ce (cn_bf cl_len T.z_len (ca_v (cv_var 8) ca_nil))))) ca_nil)) (ce_op og_add ce_int (ce_op og_div (ce_op og_add (ce_op og_mul (ce_var 10) (ce_var 6)) (ce_var 12)) (CN.ce (cn_bf cl_len T.z_len (ca_v (cv_var 8) ca_nil)))))))
    (css_one (cs_set 11 nd (ce_op og_add (ce_var 11) (ce_ix hr (cv_var 7) (ce_op og_mod (ce_var 13) (CN.ce (cn_bf cl_len T.z_len (ca_v (cv_var 7) ca_nil)))))))))))
    (css_one (cs_app 9 (ce_var 11)))))))
    (css_one (cs_ret (CN.ce (cn_bt cl_tuple T.z_tuple (ca_v (cv_var 9) ca_nil)))))))))))))
theorem sc__law_counts : FnScope ["_law_cloth_here", "_law_found", "_law_row", "_law_sign"] ["_law_cloth_here"] (defScope s__law_counts) := ⟨rfl, rfl, rfl, by decide +kernel, rfl, by decide +kernel, by decide +kernel⟩
theorem ok__law_counts (T : TX K mg) : FnOk Pg w K mg base (L2N.CX Pg w) 1 T.a__law_counts T.d__law_counts ["_law_cloth_here"] (spD ⟨K, mg⟩ [false] (PR ⟨K, mg⟩) m__law_counts) :=
  fun_ok (N := ["_law_cloth_here", "_law_found", "_law_row", "_law_sign"]) [false] _ PR.nn T.f__law_counts sc__law_counts rfl (by decide) fun cdv A outer s H E hr => by
    have nd := (sc__law_counts).nd
    have tk : L2N.Takes (cxD Pg w K mg base ["_law_cloth_here", "_law_found", "_law_row", "_law_sign"] "_law_counts" (defScope s__law_counts) T.a__law_counts cdv A outer s H E) (WE0 E) := L2N.takes_of rfl rfl rfl rfl
    have hp : PassesOwn (model (cxD Pg w K mg base ["_law_cloth_here", "_law_found", "_law_row", "_law_sign"] "_law_counts" (defScope s__law_counts) T.a__law_counts cdv A outer s H E).prog (cxD Pg w K mg base ["_law_cloth_here", "_law_found", "_law_row", "_law_sign"] "_law_counts" (defScope s__law_counts) T.a__law_counts cdv A outer s H E).w) _ _ _ := passes_of (X := cxD Pg w K mg base ["_law_cloth_here", "_law_found", "_law_row", "_law_sign"] "_law_counts" (defScope s__law_counts) T.a__law_counts cdv A outer s H E) rfl
    exact (css_cons (cs_new 1 nd cn_dK)
    (css_cons (cs_for hp (ci_e (ce_var 0)) (cg_var 2 nd) (css_fgt [2, 3] (css_one (cs_for hp (ci_e (ce_var 2)) (cg_var 3 nd) (css_fgt [3] (css_one (cs_dput 1 hr (ce_var 3) (ce_op og_add (ce_get2 hr (cv_var 1) (ce_var 3) ce_int) ce_int))))))))
    (css_one (cs_frz 1 (cs_ret (ce_var 1))))))
theorem sc__law_dyed : FnScope ["_law_cloth_here", "_law_one", "_law_other_here", "_law_rows", "_law_row", "_law_signs", "_law_sign"] ["_law_cloth_here", "_law_one", "_law_other_here"] (defScope s__law_dyed) := ⟨rfl, rfl, rfl, by decide +kernel, rfl, by decide +kernel, by decide +kernel⟩
theorem ok__law_dyed (T : TX K mg) : FnOk Pg w K mg base (L2N.CX Pg w) 1 T.a__law_dyed T.d__law_dyed ["_law_cloth_here", "_law_one", "_law_other_here"] (spD ⟨K, mg⟩ [false, false, false] (PR ⟨K, mg⟩) m__law_dyed) :=
  fun_ok (N := ["_law_cloth_here", "_law_one", "_law_other_here", "_law_rows", "_law_row", "_law_signs", "_law_sign"]) [false, false, false] _ PR.nn T.f__law_dyed sc__law_dyed rfl (by decide) fun cdv A outer s H E hr => by
    have nd := (sc__law_dyed).nd
    have tk : L2N.Takes (cxD Pg w K mg base ["_law_cloth_here", "_law_one", "_law_other_here", "_law_rows", "_law_row", "_law_signs", "_law_sign"] "_law_dyed" (defScope s__law_dyed) T.a__law_dyed cdv A outer s H E) (WE0 E) := L2N.takes_of rfl rfl rfl rfl
    have hp : PassesOwn (model (cxD Pg w K mg base ["_law_cloth_here", "_law_one", "_law_other_here", "_law_rows", "_law_row", "_law_signs", "_law_sign"] "_law_dyed" (defScope s__law_dyed) T.a__law_dyed cdv A outer s H E).prog (cxD Pg w K mg base ["_law_cloth_here", "_law_one", "_law_other_here", "_law_rows", "_law_row", "_law_signs", "_law_sign"] "_law_dyed" (defScope s__law_dyed) T.a__law_dyed cdv A outer s H E).w) _ _ _ := passes_of (X := cxD Pg w K mg base ["_law_cloth_here", "_law_one", "_law_other_here", "_law_rows", "_law_row", "_law_signs", "_law_sign"] "_law_dyed" (defScope s__law_dyed) T.a__law_dyed cdv A outer s H E) rfl
    exact (css_cons (cs_new 3 nd (cn_lst ca_nil))
    (css_cons (cs_for hp (ci_e (ce_var 0)) (cg_var 4 nd) (css_fgt [4, 5, 6] (css_cons (cs_new 5 nd (cn_lst ca_nil))
    (css_cons (cs_for hp (ci_e (ce_var 4)) (cg_var 6 nd) (css_fgt [6] (css_one (cs_if (ct_cmp (od_eq hr) (cv_var 6) (cv_var 1)) (css_one (cs_app 5 (ce_var 2))) (css_one (cs_if (ct_cmp (od_eq hr) (cv_var 6) (cv_var 2)) (css_one (cs_app 5 (ce_var 1))) (css_one (cs_app 5 (ce_var 6)))))))))
    (css_one (cs_app 3 (CN.ce (cn_bm PySem.F.plainAttrs_str PySem.F.slot_str_join PySem.F.type_str_join ms_join (CE.view ce_str) (ca_v (cv_var 5) ca_nil)))))))))
    (css_one (cs_ret (CN.ce (cn_bt cl_tuple T.z_tuple (ca_v (cv_var 3) ca_nil)))))))
theorem sc__law_unlike : FnScope ["_law_one", "_law_other_here", "_law_found", "e"] ["_law_one", "_law_other_here"] (defScope s__law_unlike) := ⟨rfl, rfl, rfl, by decide +kernel, rfl, by decide +kernel, by decide +kernel⟩
theorem ok__law_unlike (T : TX K mg) : FnOk Pg w K mg base (L2N.CX Pg w) 2 T.a__law_unlike T.d__law_unlike ["_law_one", "_law_other_here"] (spD ⟨K, mg⟩ [false, false] (PN ⟨K, mg⟩) m__law_unlike) :=
  fun_ok (N := ["_law_one", "_law_other_here", "_law_found", "e"]) [false, false] _ PN.nn T.f__law_unlike sc__law_unlike rfl (by decide) fun cdv A outer s H E hr => by
    have nd := (sc__law_unlike).nd
    have tk : L2N.Takes (cxD Pg w K mg base ["_law_one", "_law_other_here", "_law_found", "e"] "_law_unlike" (defScope s__law_unlike) T.a__law_unlike cdv A outer s H E) (WE0 E) := L2N.takes_of rfl rfl rfl rfl
    have hp : PassesOwn (model (cxD Pg w K mg base ["_law_one", "_law_other_here", "_law_found", "e"] "_law_unlike" (defScope s__law_unlike) T.a__law_unlike cdv A outer s H E).prog (cxD Pg w K mg base ["_law_one", "_law_other_here", "_law_found", "e"] "_law_unlike" (defScope s__law_unlike) T.a__law_unlike cdv A outer s H E).w) _ _ _ := passes_of (X := cxD Pg w K mg base ["_law_one", "_law_other_here", "_law_found", "e"] "_law_unlike" (defScope s__law_unlike) T.a__law_unlike cdv A outer s H E) rfl
    exact (css_cons (cs_tryU 3 nd tk (x := "CarpetError") ⟨rfl, by decide, .inl T.xg_CarpetError⟩ (fun n C b h1 h2 => by
        unfold kNoFit at h2
        split at h2
        · rename_i en
          subst en
          cases h2
          have := Option.some.inj (h1.symm.trans T.xg_NoFit)
          cases this
          exact T.em_NoFit
        · cases h2) (fun W' pn xe tk' hp' => css_one (cs_new 2 nd (cn_call tk' (ok_unlike T) (hr.mono (by decide)) T.g_unlike T.f_unlike.kp T.b_unlike (ca_g (ce_var 0) (ca_g (ce_var 1) ca_nil)))))
      (fun a oe cls d pn hz hf => suite_rep (c1 := .ref T.c_NoFit) (cv1 := .ref T.c_NoFit) (c2 := .ty "ValueError") (cv2 := .type "ValueError") cls d T.xg_NoFit T.ec_NoFit hz hf T.z_isinstance T.z_int (fun _ _ => rfl) (pe_glob rfl T.xg_NoFit rfl) (fun u h => h) T.k1_NoFit (pe_bltn rfl T.z_ValueError (by decide) rfl) (fun u h => h) T.k2_NoFit))
    (css_one (cs_retV 2)))
theorem sc__law_due_unlike : FnScope ["_law_one", "_law_other_here", "_law_found", "_law_r", "_law_c"] ["_law_one", "_law_other_here"] (defScope s__law_due_unlike) := ⟨rfl, rfl, rfl, by decide +kernel, rfl, by decide +kernel, by decide +kernel⟩
theorem ok__law_due_unlike (T : TX K mg) : FnOk Pg w K mg base (L2N.CX Pg w) 1 T.a__law_due_unlike T.d__law_due_unlike ["_law_one", "_law_other_here"] (spD ⟨K, mg⟩ [false, false] (PR ⟨K, mg⟩) m__law_due_unlike) :=
  fun_ok (N := ["_law_one", "_law_other_here", "_law_found", "_law_r", "_law_c"]) [false, false] _ PR.nn T.f__law_due_unlike sc__law_due_unlike rfl (by decide) fun cdv A outer s H E hr => by
    have nd := (sc__law_due_unlike).nd
    have tk : L2N.Takes (cxD Pg w K mg base ["_law_one", "_law_other_here", "_law_found", "_law_r", "_law_c"] "_law_due_unlike" (defScope s__law_due_unlike) T.a__law_due_unlike cdv A outer s H E) (WE0 E) := L2N.takes_of rfl rfl rfl rfl
    have hp : PassesOwn (model (cxD Pg w K mg base ["_law_one", "_law_other_here", "_law_found", "_law_r", "_law_c"] "_law_due_unlike" (defScope s__law_due_unlike) T.a__law_due_unlike cdv A outer s H E).prog (cxD Pg w K mg base ["_law_one", "_law_other_here", "_law_found", "_law_r", "_law_c"] "_law_due_unlike" (defScope s__law_due_unlike) T.a__law_due_unlike cdv A outer s H E).w) _ _ _ := passes_of (X := cxD Pg w K mg base ["_law_one", "_law_other_here", "_law_found", "_law_r", "_law_c"] "_law_due_unlike" (defScope s__law_due_unlike) T.a__law_due_unlike cdv A outer s H E) rfl
    exact (css_cons (cs_if (cw_t (cw_or (ct_cmp (od_ne hr) (CN.view (cn_bf cl_len T.z_len (ca_v (cv_var 0) ca_nil))) (CN.view (cn_bf cl_len T.z_len (ca_v (cv_var 1) ca_nil)))) (cw_or1 (ct_cmp (od_ne hr) (CN.view (cn_bf cl_len T.z_len (ca_v (CE.view (ce_ix hr (cv_var 0) ce_int)) ca_nil))) (CN.view (cn_bf cl_len T.z_len (ca_v (CE.view (ce_ix hr (cv_var 1) ce_int)) ca_nil))))))) (css_one (cs_ret (CN.ce (cn_lst (ca_g ce_str ca_nil))))) css_nil)
    (css_cons (cs_new 2 nd (cn_lst ca_nil))
    (css_cons (cs_for hp (ci_r1 T.z_range (ca_v (CN.view (cn_bf cl_len T.z_len (ca_v (cv_var 0) ca_nil))) ca_nil)) (cg_var 3 nd) (css_fgt [3, 4] (css_one (cs_for hp (ci_r1 T.z_range (ca_v (CN.view (cn_bf cl_len T.z_len (ca_v (CE.view (ce_ix hr (cv_var 0) ce_int)) ca_nil))) ca_nil)) (cg_var 4 nd) (css_fgt [4] (css_one (cs_if (ct_cmp (od_ne hr) (CE.view (ce_ix hr (CE.view (ce_ix hr (cv_var 0) (ce_var 3))) (ce_var 4))) (CE.view (ce_ix hr (CE.view (ce_ix hr (cv_var 1) (ce_var 3))) (ce_var 4)))) (css_one (cs_app 2 (ce_tup (ca_g (ce_var 3) (ca_g (ce_var 4) ca_nil))))) css_nil)))))))
    (css_one (cs_frz 2 (cs_ret (ce_var 2)))))))
theorem sc__law_other : FnScope ["_law_script", "_law_cloth_here", "_law_number_here", "_law_rows", "_law_cell", "_law_own", "_law_r", "_law_c", "_law_row"] ["_law_script", "_law_cloth_here"] (defScope s__law_other) := ⟨rfl, rfl, rfl, by decide +kernel, rfl, by decide +kernel, by decide +kernel⟩
theorem ok__law_other (T : TX K mg) : FnOk Pg w K mg base (L2N.CX Pg w) 4 T.a__law_other T.d__law_other ["_law_script", "_law_cloth_here"] (spD ⟨K, mg⟩ [true, false] (PR ⟨K, mg⟩) m__law_other) :=
  fun_ok (N := ["_law_script", "_law_cloth_here", "_law_number_here", "_law_rows", "_law_cell", "_law_own", "_law_r", "_law_c", "_law_row"]) [true, false] _ PR.nn T.f__law_other sc__law_other rfl (by decide) fun cdv A outer s H E hr => by
    have nd := (sc__law_other).nd
    have tk : L2N.Takes (cxD Pg w K mg base ["_law_script", "_law_cloth_here", "_law_number_here", "_law_rows", "_law_cell", "_law_own", "_law_r", "_law_c", "_law_row"] "_law_other" (defScope s__law_other) T.a__law_other cdv A outer s H E) (WE0 E) := L2N.takes_of rfl rfl rfl rfl
    have hp : PassesOwn (model (cxD Pg w K mg base ["_law_script", "_law_cloth_here", "_law_number_here", "_law_rows", "_law_cell", "_law_own", "_law_r", "_law_c", "_law_row"] "_law_other" (defScope s__law_other) T.a__law_other cdv A outer s H E).prog (cxD Pg w K mg base ["_law_script", "_law_cloth_here", "_law_number_here", "_law_rows", "_law_cell", "_law_own", "_law_r", "_law_c", "_law_row"] "_law_other" (defScope s__law_other) T.a__law_other cdv A outer s H E).w) _ _ _ := passes_of (X := cxD Pg w K mg base ["_law_script", "_law_cloth_here", "_law_number_here", "_law_rows", "_law_cell", "_law_own", "_law_r", "_law_c", "_law_row"] "_law_other" (defScope s__law_other) T.a__law_other cdv A outer s H E) rfl
    exact (css_cons (cs_set 2 nd (ce_call tk (ok__law_number T) (hr.mono (by decide)) T.g__law_number T.f__law_number.kp T.b__law_number (ca_g (ce_call tk (ok__law_cell_at T) (hr.mono (by decide)) T.g__law_cell_at T.f__law_cell_at.kp T.b__law_cell_at (ca_v (cv_var 0) (ca_g ce_int ca_nil))) ca_nil)))
    (css_cons (cs_if (ct_cmp (od_eq hr) (CE.view (ce_op og_mod (ce_var 2) ce_int)) (CE.view ce_int)) (css_one (cs_ret (ce_call tk (ok__law_cloth T) (hr.mono (by decide)) T.g__law_cloth T.f__law_cloth.kp T.b__law_cloth (ca_v (cv_var 0) (ca_g ce_int (ca_g ce_int (ca_g ce_bl ca_nil))))))) css_nil)
    (css_rows 3 [("_law_row", 8)] nd (ci_v (cv_var 1)) (blkOk_by (by rfl)) (fun _ _ _ _ _ => (ct_var 8 nd)) (fun _ _ _ _ _ => pts_true) (fun _ _ _ _ _ => (cn_bt (cl_listA rfl) T.z_list (ca_v (cv_var 8) ca_nil)))
    (css2_cons (c2_for (W := W0) 3 hp (ci_e (CN.ce (cn_sl (cv_var 0) (co_some ce_int) (co_some (ce_op og_add ce_int (ce_op og_mod (ce_op og_div (ce_var 2) ce_int) ce_int)))))) (goff_var 3 4 nd) (css2_cons (c2_set (W := W0) 3 5 nd (ce_call tk0 (ok__law_number T) (hr.mono (by decide)) T.g__law_number T.f__law_number.kp T.b__law_number (ca_g (ce_var 4) ca_nil)))
    (css2_cons (c2_set (W := W0) 3 6 nd (ce_op og_mod (ce_var 5) (CN.ce (cn_bf cl_len T.z_len (ca_v (cv_var 3) ca_nil)))))
    (css2_cons (c2_set (W := W0) 3 7 nd (ce_op og_mod (ce_op og_div (ce_var 5) ce_int) (CN.ce (cn_bf cl_len T.z_len (ca_v (CE.view (ce_ix hr (cv_var 3) ce_int)) ca_nil)))))
    (css2_one (c2_put (W := W0) 3 (ce_var 6) (ce_var 7) (ce_ix hr (CE.view ce_str) (ce_op og_mod (ce_op og_div (ce_var 5) ce_int) ce_int))))))))
    (css2_fix (W := W0) 3 (css_one (cs_ret (CN.ce (cn_bt cl_tuple T.z_tuple (ca_v (CN.view (cn_lc [("_law_row", 8)] nd (ci_v (cv_var 3)) (blkOk_by (by rfl)) (fun _ _ _ _ _ => (ct_var 8 nd)) (fun _ _ _ _ _ => pts_true) (fun _ _ _ _ _ => (CN.ce (cn_bm PySem.F.plainAttrs_str PySem.F.slot_str_join PySem.F.type_str_join ms_join (CE.view ce_str) (ca_v (cv_var 8) ca_nil)))))) ca_nil))))))) (sw_true rfl rfl rfl (by decide +kernel)))))
theorem sc_law : FnScope ["_law_script", "_law_cloth_here", "_law_other_here", "_law_counts_here", "_law_turn", "_law_found", "_law_told", "_law_places", "_law_cell", "_law_number_here", "_law_one", "_law_two"] ["_law_script"] (defScope s_law) := ⟨rfl, rfl, rfl, by decide +kernel, rfl, by decide +kernel, by decide +kernel⟩
theorem ok_law (T : TX K mg) : FnOk Pg w K mg base (L2N.CX Pg w) 5 T.a_law T.d_law ["_law_script"] (spD ⟨K, mg⟩ [true] (PR ⟨K, mg⟩) m_law) :=
  fun_ok (N := ["_law_script", "_law_cloth_here", "_law_other_here", "_law_counts_here", "_law_turn", "_law_found", "_law_told", "_law_places", "_law_cell", "_law_number_here", "_law_one", "_law_two"]) [true] _ PR.nn T.f_law sc_law rfl (by decide) fun cdv A outer s H E hr => by
    have nd := (sc_law).nd
    have tk : L2N.Takes (cxD Pg w K mg base ["_law_script", "_law_cloth_here", "_law_other_here", "_law_counts_here", "_law_turn", "_law_found", "_law_told", "_law_places", "_law_cell", "_law_number_here", "_law_one", "_law_two"] "law" (defScope s_law) T.a_law cdv A outer s H E) (WE0 E) := L2N.takes_of rfl rfl rfl rfl
    have hp : PassesOwn (model (cxD Pg w K mg base ["_law_script", "_law_cloth_here", "_law_other_here", "_law_counts_here", "_law_turn", "_law_found", "_law_told", "_law_places", "_law_cell", "_law_number_here", "_law_one", "_law_two"] "law" (defScope s_law) T.a_law cdv A outer s H E).prog (cxD Pg w K mg base ["_law_script", "_law_cloth_here", "_law_other_here", "_law_counts_here", "_law_turn", "_law_found", "_law_told", "_law_places", "_law_cell", "_law_number_here", "_law_one", "_law_two"] "law" (defScope s_law) T.a_law cdv A outer s H E).w) _ _ _ := passes_of (X := cxD Pg w K mg base ["_law_script", "_law_cloth_here", "_law_other_here", "_law_counts_here", "_law_turn", "_law_found", "_law_told", "_law_places", "_law_cell", "_law_number_here", "_law_one", "_law_two"] "law" (defScope s_law) T.a_law cdv A outer s H E) rfl
    exact (css_cons (cs_set 1 nd (ce_call tk (ok__law_cloth T) (hr.mono (by decide)) T.g__law_cloth T.f__law_cloth.kp T.b__law_cloth (ca_v (cv_var 0) (ca_g ce_int (ca_g ce_int (ca_g ce_bl ca_nil))))))
    (css_cons (cs_set 2 nd (ce_call tk (ok__law_other T) (hr.mono (by decide)) T.g__law_other T.f__law_other.kp T.b__law_other (ca_v (cv_var 0) (ca_g (ce_var 1) ca_nil))))
    (css_cons (cs_set 3 nd (ce_call tk (ok__law_counts T) (hr.mono (by decide)) T.g__law_counts T.f__law_counts.kp T.b__law_counts (ca_g (ce_var 1) ca_nil)))
    (css_cons (cs_for hp (ci_r1 T.z_range (ca_v (CE.view ce_int) ca_nil)) (cg_var 4 nd) (css_fgt [4, 6, 7] (css_cons (cs_new 5 nd (cn_call tk (ok_colours_of T) (hr.mono (by decide)) T.g_colours_of T.f_colours_of.kp T.b_colours_of (ca_g (ce_var 1) ca_nil)))
    (css_cons (cs_new 6 nd (cn_call tk (ok_knots_by_colour T) (hr.mono (by decide)) T.g_knots_by_colour T.f_knots_by_colour.kp T.b_knots_by_colour (ca_g (ce_var 1) ca_nil)))
    (css_cons (cs_new 7 nd (cn_call tk (ok__law_unlike T) (hr.mono (by decide)) T.g__law_unlike T.f__law_unlike.kp T.b__law_unlike (ca_g (ce_var 1) (ca_g (ce_var 2) ca_nil))))
    (css_cons (cs_if (cw_t (cw_or (ct_cmp (od_ne hr) (cv_var 5) (CN.view (cn_bf (cl_sorted rfl) T.z_sorted (ca_v (cv_var 3) ca_nil)))) (cw_or (ct_cmp (od_neC hr) (cv_var 6) (cv_var 3)) (cw_or1 (ct_cmp (od_ne hr) (cv_var 7) (CE.view (ce_call tk (ok__law_due_unlike T) (hr.mono (by decide)) T.g__law_due_unlike T.f__law_due_unlike.kp T.b__law_due_unlike (ca_g (ce_var 1) (ca_g (ce_var 2) ca_nil))))))))) (css_one (cs_ret ce_bl)) css_nil)
    (css_cons (cs_clearL 5)
    (css_cons (cs_clearD 6)
    (css_one (cs_app 7 (ce_tup (ca_g ce_int (ca_g ce_int ca_nil)))))))))))))
    (css_cons (cs_for hp (ci_e (ce_op og_add (CN.ce (cn_sl (cv_var 0) (co_some ce_int) (co_some ce_int))) (CN.ce (cn_lst (ca_g ce_int ca_nil))))) (cg_var 8 nd) (css_fgt [8, 9, 10, 11] (css_cons (cs_set 9 nd (ce_call tk (ok__law_number T) (hr.mono (by decide)) T.g__law_number T.f__law_number.kp T.b__law_number (ca_g (ce_var 8) ca_nil)))
    (css_cons (cs_set 10 nd (ce_ix hr (CE.view ce_str) (ce_op og_mod (ce_var 9) ce_int)))
    (css_cons (cs_if (ct_cmp od_gt (CE.view (ce_op og_mod (ce_op og_div (ce_var 9) ce_int) ce_int)) (CE.view ce_int)) (css_one (cs_set 10 nd (ce_ix hr (CN.view (cn_bf (cl_sorted rfl) T.z_sorted (ca_v (cv_var 3) ca_nil))) (ce_op og_mod (ce_op og_div (ce_var 9) ce_int) (CN.ce (cn_bf cl_len T.z_len (ca_v (cv_var 3) ca_nil))))))) css_nil)
    (css_cons (cs_set 11 nd (ce_ix hr (CN.view (cn_bf (cl_sorted rfl) T.z_sorted (ca_v (cv_var 3) ca_nil))) (ce_op og_mod (ce_op og_div (ce_var 9) ce_int) (CN.ce (cn_bf cl_len T.z_len (ca_v (cv_var 3) ca_nil))))))
    (css_cons (cs_set 5 nd (ce_call tk (ok_dyed_two T) (hr.mono (by decide)) T.g_dyed_two T.f_dyed_two.kp T.b_dyed_two (ca_g (ce_var 1) (ca_g (ce_var 10) (ca_g (ce_var 11) ca_nil)))))
    (css_cons (cs_if (cw_t (cw_or (ct_not (ct_val (ce_isT (cv_var 5) T.z_isinstance T.z_tuple (by simp)))) (cw_or1 (ct_cmp (od_ne hr) (cv_var 5) (CE.view (ce_call tk (ok__law_dyed T) (hr.mono (by decide)) T.g__law_dyed T.f__law_dyed.kp T.b__law_dyed (ca_g (ce_var 1) (ca_g (ce_var 10) (ca_g (ce_var 11) ca_nil))))))))) (css_one (cs_ret ce_bl)) css_nil)
    (css_one (cs_frz 5 (cs_if (ct_cmp (od_ne hr) (CE.view (ce_call tk (ok_dyed_two T) (hr.mono (by decide)) T.g_dyed_two T.f_dyed_two.kp T.b_dyed_two (ca_g (ce_var 5) (ca_g (ce_var 11) (ca_g (ce_var 10) ca_nil))))) (cv_var 1)) (css_one (cs_ret ce_bl)) css_nil)))))))))))
    (css_one (cs_ret ce_bl)))))))
end
end Ck

namespace Ck
open PySem PySem.Spec L2 RZ
def oth (a b c : Nat) : Nat := if c = a then b else if c = b then a else c
theorem other_ok (a b c : Nat) : m_other_colour [Sg c, Sg a, Sg b] = .ok (Sg (oth a b c)) := by
  by_cases h1 : c = a
  · subst h1; simp [m_other_colour, b_other_colour, oth]
  · by_cases h2 : c = b
    · subst h2; simp [m_other_colour, b_other_colour, oth, h1]
    · simp [m_other_colour, b_other_colour, oth, h1, h2]
def dye (a b : Nat) (rows : List (List Nat)) : List (List Nat) := rows.map fun r => r.map (oth a b)
theorem dyed_ok {rows : List (List Nat)} {a b : Nat} (h : rows.length ≤ 1000) (h2 : ∀ r ∈ rows, r.length ≤ 1000) : m_dyed_two [.tup (rows.map Wd), Sg a, Sg b] = .ok (.tup ((dye a b rows).map Wd)) := by
  simp [m_dyed_two, b_dyed_two, show rows.length ≤ 1000000 by omega]
  rw [lcD_map (φ := Wd) (h := fun r => Wd (r.map (oth a b))) fun r hr => ?_]
  · simp [dye]
  · refine ⟨_, rfl, ?_⟩
    have hl := h2 r hr
    simp [items, show r.length ≤ 1000000 by omega]
    rw [lcD_map (φ := Sg) (h := fun c => Sg (oth a b c)) fun c hc => ?_]
    · have e := joinD_signs (cs := r.map (oth a b)) (by simp; omega)
      rw [List.map_map] at e
      simp
      rw [show joinD (Wd []) [.lst (r.map fun c => Sg (oth a b c))] = some _ from e]
      rfl
    · refine ⟨_, rfl, ?_⟩
      simp
      exact other_ok a b c
def numI (c : Int) : Int := (c % 2147483629 + 48611) * 69621 % 2147483629
theorem numI_nn (c : Int) : 0 ≤ numI c := Int.emod_nonneg _ (by decide)
theorem numI_lt (c : Int) : numI c < 2147483629 := Int.emod_lt_of_pos _ (by decide)
theorem number_ok (c : Int) : m__law_number [.int c] = .ok (.int (numI c)) := by
  simp [m__law_number, b__law_number, numI]
theorem cell_ok (ns : List Int) (k : Nat) : m__law_cell_at [.lst (ns.map .int), .int k] = .ok (.int (ns[k]?.getD 0)) := by
  by_cases h : k < ns.length
  · simp [m__law_cell_at, b__law_cell_at, h]
    rw [atI_get' (by simpa using h)]
    simp
  · simp [m__law_cell_at, b__law_cell_at, h]
theorem az (i : Int) (h0 : 0 ≤ i) (h1 : i < 26) : ixD (.str "abcdefghijklmnopqrstuvwxyz") (.int i) = some (Sg (97 + i.toNat)) := by
  obtain ⟨n, rfl⟩ := Int.eq_ofNat_of_zero_le h0
  have hn : n < 26 := by omega
  have : ∀ n : Fin 26, ixD (.str "abcdefghijklmnopqrstuvwxyz") (.int (n.val : Int)) = some (Sg (97 + (n.val : Int).toNat)) := by decide +kernel
  exact this ⟨n, hn⟩
/-- a small letter -/
def Lo (c : Nat) : Prop := 97 ≤ c ∧ c < 123
def letF (c : Int) (k : Nat) : Nat := 97 + ((numI c / 26 + k * (1 + 2 * (numI c % 13))) % 26).toNat
def letters (c : Int) (m : Nat) : List Nat := (List.range m).map (letF c)
theorem letF_lo (c : Int) (k : Nat) : Lo (letF c k) := by
  have h1 := Int.emod_nonneg (numI c / 26 + k * (1 + 2 * (numI c % 13))) (b := 26) (by decide)
  have h2 := Int.emod_lt_of_pos (numI c / 26 + k * (1 + 2 * (numI c % 13))) (b := 26) (by decide)
  unfold letF Lo
  omega
theorem letters_ok (c m : Int) (h0 : 0 ≤ m) (h1 : m ≤ 1000) : m__law_letters [.int c, .int m] = .ok (.lst ((letters c m.toNat).map Sg)) := by
  have g1 := numI_nn c
  have g2 := numI_lt c
  have g3 : 0 ≤ (numI c) % 13 := Int.emod_nonneg _ (by decide)
  have g4 : (numI c) % 13 < 13 := Int.emod_lt_of_pos _ (by decide)
  simp [m__law_letters, b__law_letters, number_ok, rng1_ok h0 (by omega : m < 4611686018427387904)]
  rw [if_pos (by omega), lcD_map (φ := fun k : Nat => D.int k) (h := fun k => Sg (letF c k)) fun k hk => ?_]
  · simp [letters]
  · have hk := List.mem_range.mp hk
    refine ⟨_, rfl, ?_⟩
    simp
    rw [mul_ok (by omega)]
    simp
    rw [az _ (Int.emod_nonneg _ (by decide)) (Int.emod_lt_of_pos _ (by decide))]
    simp [letF]
/-! the drawn cloth -/
def ownF (cs : List Int) (K r c : Nat) : Int := numI (cs.getD ((r * K + c) % cs.length) 0) / (1 + ((r : Int) * (K : Int) + (c : Int)) / (cs.length : Int))
def sgF (sg : List Nat) (cs : List Int) (K r c : Nat) : Nat := sg.getD ((ownF cs K r c % sg.length).toNat) 0
def rowF (sg : List Nat) (cs : List Int) (K r : Nat) : List Nat := (List.range K).map (sgF sg cs K r)
theorem cell_mem {cs : List Int} {K r c : Nat} (hc : 0 < cs.length) : atI (cs.map D.int) (((r : Int) * (K : Int) + (c : Int)) % (cs.length : Int)) = some (.int (cs.getD ((r * K + c) % cs.length) 0)) := by
  have hi : (r * K + c) % cs.length < cs.length := Nat.mod_lt _ hc
  have e1 : ((r : Int) * (K : Int) + (c : Int)) % (cs.length : Int) = (((r * K + c) % cs.length : Nat) : Int) := by push_cast; rfl
  rw [e1, atI_get' (by simpa using hi)]
  simp [hi]
theorem sign_mem {sg : List Nat} {x : Int} (hs : 0 < sg.length) : atI (sg.map Sg) (x % (sg.length : Int)) = some (Sg (sg.getD (x % (sg.length : Int)).toNat 0)) := by
  have h5 := Int.emod_nonneg x (b := (sg.length : Int)) (by omega)
  have h6 := Int.emod_lt_of_pos x (b := (sg.length : Int)) (by omega)
  rw [atI_int h5 (by simpa using h6), List.getElem?_map]
  have h7 : (x % (sg.length : Int)).toNat < sg.length := by omega
  simp [h7]
def clothF (sg : List Nat) (cs : List Int) (R K : Nat) : List (List Nat) := (List.range R).map (rowF sg cs K)
theorem cloth_ok (ns : List Int) (a : Nat) (mo : Nat) (ca : Bool) (h0 : 0 < mo) (h1 : mo ≤ 24) (h : ns.length ≤ 63) : ∃ sg cs R K, m__law_cloth [.lst (ns.map .int), .int a, .int mo, .bl ca] = .ok (.tup ((clothF sg cs R K).map Wd)) ∧ 0 < sg.length ∧ (∀ c ∈ sg, Lo c) ∧ 0 < R ∧ R ≤ mo ∧ 0 < K ∧ K ≤ mo ∧ (ca = true → K = R) := by
  have g0 := numI_nn (ns[a]?.getD 0)
  have g1 := numI_lt (ns[a]?.getD 0)
  have hnum := number_ok (ns[a]?.getD 0)
  generalize hx : numI (ns[a]?.getD 0) = x at *
  have m1 := Int.emod_nonneg x (b := (mo : Int)) (by omega)
  have m2 := Int.emod_lt_of_pos x (b := (mo : Int)) (by omega)
  have m3 := Int.emod_nonneg (x / 24) (b := (mo : Int)) (by omega)
  have m4 := Int.emod_lt_of_pos (x / 24) (b := (mo : Int)) (by omega)
  have m5 := Int.emod_nonneg (x / 576) (b := (4 : Int)) (by omega)
  have m6 := Int.emod_lt_of_pos (x / 576) (b := (4 : Int)) (by omega)
  obtain ⟨R, hR⟩ : ∃ R : Nat, 1 + x % (mo : Int) = R := ⟨(1 + x % (mo : Int)).toNat, by omega⟩
  obtain ⟨K, hK⟩ : ∃ K : Nat, (if ca = true then (R : Int) else 1 + x / 24 % (mo : Int)) = K := ⟨(if ca = true then (R : Int) else 1 + x / 24 % (mo : Int)).toNat, by split <;> omega⟩
  have hRm : 0 < R ∧ R ≤ mo := by omega
  have hKm : 0 < K ∧ K ≤ mo := by split at hK <;> omega
  obtain ⟨n, hn⟩ : ∃ n : Nat, 1 + x / 576 % 4 = n := ⟨(1 + x / 576 % 4).toNat, by omega⟩
  have hcl := cutI_le ns (some (a + 2 : Int)) (some (a + 26 : Int))
  refine ⟨letters (ns[a + 1]?.getD 0) n, cutI ns (some (a + 2 : Int)) (some (a + 26 : Int)) ++ [x], R, K, ?_, by simp [letters]; omega, ?_, hRm.1, hRm.2, hKm.1, hKm.2, fun hc => by simp [hc] at hK; omega⟩
  · have hsg : 0 < (letters (ns[a + 1]?.getD 0) n).length := by simp [letters]; omega
    have hlet := letters_ok (ns[a + 1]?.getD 0) (1 + x / 576 % 4) (by omega) (by omega)
    have hc2 : ((1 : Int) + x / 576 % 4).toNat = n := by omega
    rw [hc2] at hlet
    have hcell := cell_ok ns (a + 1)
    have hcs : 0 < (cutI ns (some (a + 2 : Int)) (some (a + 26 : Int)) ++ [x]).length := by simp
    have hcs2 : (cutI ns (some (a + 2 : Int)) (some (a + 26 : Int)) ++ [x]).length ≤ 64 := by simp; omega
    have hif : (if ca = true then Slot.val (.int (R : Int)) else Slot.val (.int (1 + x / 24 % (mo : Int)))) = Slot.val (.int (K : Int)) := by rw [← hK]; split <;> rfl
    generalize hcsd : cutI ns (some (a + 2 : Int)) (some (a + 26 : Int)) ++ [x] = cs at *
    generalize letters (ns[a + 1]?.getD 0) n = sg at *
    push_cast at hcell
    simp [m__law_cloth, b__law_cloth, number_ok, cell_ok, hx, h0, hR]
    have hstep : ∀ (e : EnvD) (k : SD), e = [Slot.bor (.lst (ns.map .int)), .val (.int a), .val (.int mo), .val (.bl ca), .val (.int x), .val (.int R), .val (.int R), .un, .un, .un, .un, .un, .un, .un] →
      seqO (oIf (sSet 6 (e2 addD (eC (.int 1)) (e2 modD (e2 divD (eVar 4) (eC (.int 24))) (eVar 2)))) sNil e (.ok !ca)) k = k (e.set 6 (.val (.int K))) := fun e k he => by
        subst he
        cases ca with
        | true => simp at hK ⊢; rw [hK]
        | false => simp [h0] at hK ⊢; rw [hK]
    rw [hstep _ _ rfl]
    clear hstep
    have hR1 : R < 4611686018427387904 := by omega
    have hK1 : K < 4611686018427387904 := by omega
    simp [hcell, hlet, cutD_int]
    rw [if_pos (by omega)]
    have hcs3 : List.map D.int (cutI ns (some (a + 2 : Int)) (some (a + 26 : Int))) ++ [D.int x] = cs.map .int := by rw [← hcsd]; simp
    simp [hcs3, rng1_nat hR1]
    rw [forD_acc 9 (fun pre => .own (.lst (pre.map fun r => Wd (rowF sg cs K r)))) (by simp) fun pre r post hl => ?_]
    · simp [clothF]
    · have hr3 : r < R := by
        have : r ∈ List.range R := by rw [hl]; simp
        exact List.mem_range.mp this
      have hp : pre.length ≤ 1000 := by
        have := congrArg List.length hl
        simp at this; omega
      refine ⟨_, rfl, ?_⟩
      simp [rng1_nat hK1]
      rw [forD_acc 11 (fun pre => .val (Wd (pre.map (sgF sg cs K r)))) (by simp) fun pre2 c post2 hl2 => ?_]
      · simp
        rw [if_pos (by omega)]
        simp [rowF]
      · have hc3 : c < K := by
          have : c ∈ List.range K := by rw [hl2]; simp
          exact List.mem_range.mp this
        have hp2 : pre2.length ≤ 1000 := by
          have := congrArg List.length hl2
          simp at this; omega
        have hrk : r * K ≤ 24 * 24 := Nat.mul_le_mul (by omega) (by omega)
        have e2 : ((r : Int) * (K : Int) + (c : Int)) / (cs.length : Int) = (((r * K + c) / cs.length : Nat) : Int) := by push_cast; rfl
        have hq : (r * K + c) / cs.length ≤ 1000 := Nat.le_trans (Nat.div_le_self _ _) (by omega)
        have hy0 : 0 ≤ ((r : Int) * (K : Int) + (c : Int)) / (cs.length : Int) := by rw [e2]; exact Int.natCast_nonneg _
        have hy1 : ((r : Int) * (K : Int) + (c : Int)) / (cs.length : Int) ≤ 1000 := by rw [e2]; exact Int.ofNat_le.mpr hq
        clear e2 hq
        refine ⟨_, rfl, ?_⟩
        simp
        rw [mul_ok (by omega)]
        simp [hcs, cell_mem, number_ok]
        rw [mul_ok (by omega)]
        simp [hcs]
        rw [if_pos (by omega)]
        simp [hsg, sign_mem]
        rw [if_pos (by omega)]
        simp [hsg, sign_mem]
        rw [if_pos (by omega)]
        simp [sgF, ownF]
  · intro c hc
    simp [letters] at hc
    obtain ⟨k, _, rfl⟩ := hc
    exact letF_lo _ _
/-! ### a cloth -/
structure Cloth (rows : List (List Nat)) (R K : Nat) : Prop where
  r0 : 0 < R
  r1 : R ≤ 24
  k0 : 0 < K
  k1 : K ≤ 24
  len : rows.length = R
  row : ∀ r ∈ rows, r.length = K
  lo : ∀ r ∈ rows, ∀ c ∈ r, Lo c
theorem Lo.cp {c : Nat} (h : Lo c) : c < 1114112 := by have := h.2; omega
theorem Cloth.cp {rows : List (List Nat)} {R K : Nat} (h : Cloth rows R K) : ∀ r ∈ rows, Cp r := fun r hr c hc => (h.lo r hr c hc).cp
theorem flat_len {rows : List (List Nat)} {K : Nat} (h : ∀ r ∈ rows, r.length = K) : rows.flatten.length = rows.length * K := by
  induction rows with
  | nil => simp
  | cons a l ih =>
    rw [List.flatten_cons, List.length_append, ih fun r hr => h r (List.mem_cons_of_mem _ hr), h a List.mem_cons_self, List.length_cons, Nat.succ_mul]
    omega
theorem Cloth.flat {rows : List (List Nat)} {R K : Nat} (h : Cloth rows R K) : rows.flatten.length ≤ 1000 := by
  rw [flat_len h.row, h.len]
  have : R * K ≤ 24 * 24 := Nat.mul_le_mul h.r1 h.k1
  omega
theorem cloth_of {sg : List Nat} {cs : List Int} {R K : Nat} (h0 : 0 < sg.length) (hl : ∀ c ∈ sg, Lo c) (r0 : 0 < R) (r1 : R ≤ 24) (k0 : 0 < K) (k1 : K ≤ 24) : Cloth (clothF sg cs R K) R K := by
  refine ⟨r0, r1, k0, k1, by simp [clothF], fun r hr => ?_, fun r hr c hc => ?_⟩
  · obtain ⟨i, _, rfl⟩ := List.mem_map.mp hr
    simp [rowF]
  · obtain ⟨i, _, rfl⟩ := List.mem_map.mp hr
    obtain ⟨k, _, rfl⟩ := List.mem_map.mp hc
    unfold sgF
    generalize ownF cs K i k = x
    have h5 := Int.emod_nonneg x (b := (sg.length : Int)) (by omega)
    have h6 := Int.emod_lt_of_pos x (b := (sg.length : Int)) (by omega)
    have h7 : (x % (sg.length : Int)).toNat < sg.length := by omega
    rw [List.getD_eq_getElem?_getD, List.getElem?_eq_getElem h7]
    exact hl _ (List.getElem_mem h7)
theorem pre_len {α : Type} {l pre post : List α} {a : α} (h : l = pre ++ a :: post) : pre.length < l.length := by
  have := congrArg List.length h
  simp at this; omega
theorem pre_mem {α : Type} {l pre post : List α} {a : α} (h : l = pre ++ a :: post) : a ∈ l := by rw [h]; simp
/-! ### counts -/
theorem counts_ok {rows : List (List Nat)} {R K : Nat} (h : Cloth rows R K) : m__law_counts [.tup (rows.map Wd)] = .ok (encC (cnt rows.flatten)) := by
  simp [m__law_counts, b__law_counts]
  rw [forD_acc 1 (fun pre => .own (encC (cnt pre.flatten))) (by simp [encA, cnt]) fun pre r post hl => ?_]
  · simp
  · refine ⟨_, rfl, ?_⟩
    simp [items_S]
    rw [forD_acc 1 (fun pre2 => .own (encC (cnt (pre.flatten ++ pre2)))) (by simp) fun pre2 c post2 hl2 => ?_]
    · simp
    · refine ⟨_, rfl, ?_⟩
      rw [sFgt_ev, bump_step (kv := cnt (pre.flatten ++ pre2)) (c := c) (by simp) (by simp) ?_]
      · rw [← List.append_assoc, cnt_snoc]
        simp
      · have h1 := cnt_len (pre.flatten ++ pre2)
        have h2 := h.flat
        have h3 : (pre.flatten ++ pre2).length ≤ rows.flatten.length := by
          rw [hl, hl2]; simp
        omega
theorem byc_ok {rows : List (List Nat)} {R K : Nat} (h : Cloth rows R K) : m_knots_by_colour [.tup (rows.map Wd)] = .ok (encC (cnt (sortN rows.flatten))) := by
  have h2 := h.flat
  have h3 : (rows.map List.length).sum ≤ 1000000 := by
    rw [← List.length_flatten]; omega
  have h4 := (sortN_perm rows.flatten).length_eq
  simp [m_knots_by_colour, b_knots_by_colour, joinD_St h3, sortedD_S (show rows.flatten.length ≤ 1000000 by omega)]
  rw [forD_acc 1 (fun pre => .own (encC (cnt pre))) (by simp [encA, cnt]) fun pre c post hl => ?_]
  · simp
  · refine ⟨_, rfl, ?_⟩
    rw [sFgt_ev, bump_step (kv := cnt pre) (c := c) (by simp) (by simp) ?_]
    · rw [cnt_snoc]; simp
    · have h1 := cnt_len pre
      have h3 := pre_len hl
      omega
theorem cols_ok {rows : List (List Nat)} {R K : Nat} (h : Cloth rows R K) : m_colours_of [.tup (rows.map Wd)] = .ok (.lst ((sortN ((cnt rows.flatten).map (·.1))).map Sg)) := by
  have h2 := h.flat
  have h1 := cnt_len (sortN rows.flatten)
  have h4 := (sortN_perm rows.flatten).length_eq
  simp [m_colours_of, b_colours_of, byc_ok h]
  rw [sortedD_enc (by omega), sortN_eq (cnt_perm_keys (sortN_perm rows.flatten))]
  rfl
/-! ### the places that are unlike -/
def cellF (rows : List (List Nat)) (r c : Nat) : Nat := ((rows[r]?.getD [])[c]?).getD 0
def rowU (A B : List (List Nat)) (K r : Nat) : List (Nat × Nat) := ((List.range K).filter fun c => !decide (cellF A r c = cellF B r c)).map fun c => (r, c)
def unl (A B : List (List Nat)) (R K : Nat) : List (Nat × Nat) := (List.range R).flatMap (rowU A B K)
def P2 (p : Nat × Nat) : D := .tup [.int p.1, .int p.2]
theorem cell_at {rows : List (List Nat)} {R K r c : Nat} (h : Cloth rows R K) (hr : r < R) (hc : c < K) : ∃ row, (rows.map Wd)[r]? = some (Wd row) ∧ row.length = K ∧ row[c]?.getD 0 = cellF rows r c := by
  have hr' : r < rows.length := by rw [h.len]; exact hr
  refine ⟨rows[r], by simp [hr'], h.row _ (List.getElem_mem hr'), ?_⟩
  unfold cellF
  simp [hr']
theorem atI_row {rows : List (List Nat)} {R K r c : Nat} (h : Cloth rows R K) (hr : r < R) (hc : c < K) : ∃ row, atI (rows.map Wd) (r : Int) = some (Wd row) ∧ ixD (Wd row) (.int c) = some (Sg (cellF rows r c)) := by
  obtain ⟨row, h1, h2, h3⟩ := cell_at h hr hc
  refine ⟨row, atI_nat h1, ?_⟩
  rw [ixD_S (by rw [h2]; have := h.k1; omega) (by omega), h3]
theorem at_zero {rows : List (List Nat)} {R K : Nat} (h : Cloth rows R K) : ∃ row, atI (rows.map Wd) 0 = some (Wd row) ∧ row.length = K := by
  obtain ⟨row, h1, h2, _⟩ := cell_at h h.r0 h.k0
  exact ⟨row, atI_nat (xs := rows.map Wd) (j := 0) h1, h2⟩
theorem unl_loop {A B : List (List Nat)} {R K R2 K2 : Nat} (hA : Cloth A R K) (hB : Cloth B R2 K2) (q1 : R2 = R) (q2 : K2 = K) :
    sFor (iB rng1 (aCons (eB lenD (aCons (vVar 0) aNil)) aNil)) (gVar 3) (sFgt [3, 4] (sFor (iB rng1 (aCons (eB lenD (aCons (e2 ixD (vVar 0) (eC (.int 0))) aNil)) aNil)) (gVar 4) (sFgt [4] (sIf (tB (e2 neW (e2 ixD (e2 ixD (vVar 0) (eVar 3)) (eVar 4)) (e2 ixD (e2 ixD (vVar 1) (eVar 3)) (eVar 4)))) (sApp 2 (eTup (aCons (eVar 3) (aCons (eVar 4) aNil)))) sNil))))
      [.val (.tup (A.map Wd)), .val (.tup (B.map Wd)), .own (.lst []), .un, .un] = .nx [.val (.tup (A.map Wd)), .val (.tup (B.map Wd)), .own (.lst ((unl A B R K).map P2)), .un, .un] := by
  subst q1 q2
  have hR : A.length = R2 := hA.len
  have hr1 := hA.r1
  have hk1 := hA.k1
  obtain ⟨row0, z1, z2⟩ := at_zero hA
  simp [hR, rng1_nat (show R2 < 4611686018427387904 by omega)]
  rw [forD_acc 2 (fun pre => .own (.lst ((pre.flatMap (rowU A B K2)).map P2))) (by simp) fun pre r post hl => ?_]
  · simp [unl]
  · have hr : r < R2 := List.mem_range.mp (pre_mem hl)
    refine ⟨_, rfl, ?_⟩
    simp [z1, z2, show K2 ≤ 1000000 by omega, rng1_nat (show K2 < 4611686018427387904 by omega)]
    rw [forD_acc 2 (fun pre2 => .own (.lst (((pre.flatMap (rowU A B K2)) ++ (pre2.filter fun c => !decide (cellF A r c = cellF B r c)).map fun c => (r, c)).map P2))) (by simp) fun pre2 c post2 hl2 => ?_]
    · simp [rowU]
    · have hc : c < K2 := List.mem_range.mp (pre_mem hl2)
      obtain ⟨ra, a1, a2⟩ := atI_row hA hr hc
      obtain ⟨rb, b1, b2⟩ := atI_row hB hr hc
      refine ⟨_, rfl, ?_⟩
      simp [a1, a2, b1, b2]
      by_cases hd : cellF A r c = cellF B r c
      · simp [hd, List.filter_append]
      · simp [hd, List.filter_append]
        rw [if_pos ?_]
        · simp [P2]
        · have f0 := flatMap_le (f := rowU A B K2) (K := K2) (fun r => by simp only [rowU, List.length_map]; exact Nat.le_trans (List.length_filter_le _ _) (by simp)) pre
          have f4 := pre_len hl
          have f5 : pre.length * K2 ≤ 24 * 24 := Nat.mul_le_mul (by simp at f4; omega) hk1
          have f2 : (pre2.filter fun c => !decide (cellF A r c = cellF B r c)).length ≤ pre2.length := List.length_filter_le _ _
          have f3 := pre_len hl2
          simp at f3
          simp [List.length_flatMap] at f0 ⊢
          omega
def dueF (A B : List (List Nat)) (R K R2 K2 : Nat) : List D := if R = R2 ∧ K = K2 then (unl A B R K).map P2 else [.str "NoFit"]
theorem due_ok {A B : List (List Nat)} {R K R2 K2 : Nat} (hA : Cloth A R K) (hB : Cloth B R2 K2) : m__law_due_unlike [.tup (A.map Wd), .tup (B.map Wd)] = .ok (.lst (dueF A B R K R2 K2)) := by
  obtain ⟨ra, a1, a2⟩ := at_zero hA
  obtain ⟨rb, b1, b2⟩ := at_zero hB
  have h1 := hA.k1
  have h2 := hB.k1
  unfold m__law_due_unlike b__law_due_unlike dueF
  by_cases hR : R = R2
  · by_cases hK : K = K2
    · have e := unl_loop hA hB hR.symm hK.symm
      rw [if_pos ⟨hR, hK⟩]
      rw [runD_ev, sSeq_ev]
      simp [hA.len, hB.len, hR, a1, b1, a2, b2, hK, show K2 ≤ 1000000 by omega, -sFor_ev]
      subst hR hK
      rw [e]
      simp
    · rw [if_neg (fun z => hK z.2)]
      simp [hA.len, hB.len, hR, a1, b1, a2, b2, hK, show K ≤ 1000000 by omega, show K2 ≤ 1000000 by omega, show ¬ ((K : Int) = (K2 : Int)) by omega]
  · rw [if_neg (fun z => hR z.1)]
    simp [hA.len, hB.len, hR, show ¬ ((R : Int) = (R2 : Int)) by omega]
theorem unl_ok {A B : List (List Nat)} {R K R2 K2 : Nat} (hA : Cloth A R K) (hB : Cloth B R2 K2) : m_unlike [.tup (A.map Wd), .tup (B.map Wd)] = if R = R2 ∧ K = K2 then .ok (.lst ((unl A B R K).map P2)) else .exc ⟨"NoFit", []⟩ := by
  obtain ⟨ra, a1, a2⟩ := at_zero hA
  obtain ⟨rb, b1, b2⟩ := at_zero hB
  have h1 := hA.k1
  have h2 := hB.k1
  unfold m_unlike b_unlike
  by_cases hR : R = R2
  · by_cases hK : K = K2
    · have e := unl_loop hA hB hR.symm hK.symm
      rw [if_pos ⟨hR, hK⟩]
      rw [runD_ev, sSeq_ev]
      simp [hA.len, hB.len, hR, a1, b1, a2, b2, hK, show K2 ≤ 1000000 by omega, -sFor_ev]
      subst hR hK
      rw [e]
      simp
    · rw [if_neg (fun z => hK z.2)]
      simp [hA.len, hB.len, hR, a1, b1, a2, b2, hK, show K ≤ 1000000 by omega, show K2 ≤ 1000000 by omega, show ¬ ((K : Int) = (K2 : Int)) by omega]
  · rw [if_neg (fun z => hR z.1)]
    simp [hA.len, hB.len, hR, show ¬ ((R : Int) = (R2 : Int)) by omega]
theorem lawunl_ok {A B : List (List Nat)} {R K R2 K2 : Nat} (hA : Cloth A R K) (hB : Cloth B R2 K2) : m__law_unlike [.tup (A.map Wd), .tup (B.map Wd)] = .ok (.lst (dueF A B R K R2 K2)) := by
  have e := unl_ok hA hB
  unfold m__law_unlike b__law_unlike dueF
  by_cases h : R = R2 ∧ K = K2
  · rw [if_pos h] at e ⊢
    rw [runD_ev, sSeq_ev]
    simp [sTryU, e]
  · rw [if_neg h] at e ⊢
    rw [runD_ev, sSeq_ev]
    simp [sTryU, e, kNoFit, hNoFit]
theorem lawdyed_ok {rows : List (List Nat)} {R K : Nat} (h : Cloth rows R K) (a b : Nat) : m__law_dyed [.tup (rows.map Wd), Sg a, Sg b] = .ok (.tup ((dye a b rows).map Wd)) := by
  simp [m__law_dyed, b__law_dyed]
  rw [forD_acc 3 (fun pre => .own (.lst (pre.map fun r => Wd (r.map (oth a b))))) (by simp) fun pre r post hl => ?_]
  · simp [dye]
  · have hp := pre_len hl
    have hr := h.row r (pre_mem hl)
    have h1 := h.r1
    have h2 := h.k1
    have h3 := h.len
    refine ⟨_, rfl, ?_⟩
    simp [items_S]
    rw [forD_acc 5 (fun pre2 => .own (.lst (pre2.map fun c => Sg (oth a b c)))) (by simp) fun pre2 c post2 hl2 => ?_]
    · simp
      have e := joinD_signs (cs := r.map (oth a b)) (by simp; omega)
      rw [List.map_map] at e
      rw [show joinD (Wd []) [.lst (r.map fun c => Sg (oth a b c))] = some _ from e]
      simp
      rw [if_pos (by omega)]
      simp
    · have hp2 := pre_len hl2
      refine ⟨_, rfl, ?_⟩
      have hq : pre2.length ≤ 1000000 := by omega
      by_cases h1 : c = a
      · simp [h1, oth, hq]
      · by_cases h2 : c = b
        · simp [h1, h2, oth, hq]
          subst h2
          simp [h1, hq]
        · simp [h1, h2, oth, hq]
/-! ### the other cloth -/
theorem abc6 (i : Int) (h0 : 0 ≤ i) (h1 : i < 6) : ∃ c, Lo c ∧ ixD (.str "abcxyz") (.int i) = some (Sg c) := by
  obtain ⟨n, rfl⟩ := Int.eq_ofNat_of_zero_le h0
  have hn : n < 6 := by omega
  have : ∀ n : Fin 6, ixD (.str "abcxyz") (.int (n.val : Int)) = some (Sg ([97, 98, 99, 120, 121, 122].getD n.val 0)) := by decide +kernel
  refine ⟨[97, 98, 99, 120, 121, 122].getD n 0, ?_, this ⟨n, hn⟩⟩
  have : ∀ n : Fin 6, 97 ≤ [97, 98, 99, 120, 121, 122].getD n.val 0 ∧ [97, 98, 99, 120, 121, 122].getD n.val 0 < 123 := by decide +kernel
  exact this ⟨n, hn⟩
def rw2 (B : List (List Nat)) : List (List D) := B.map fun r => r.map Sg
theorem allL_map (B : List (List Nat)) : allL (B.map fun r => .lst (r.map Sg)) = some (rw2 B) := by
  induction B with
  | nil => rfl
  | cons a l ih =>
    rw [List.map_cons]
    show (allL (l.map fun r => .lst (r.map Sg))).map _ = _
    rw [ih]; rfl
def sl (o : Option Int) : Slot := match o with
  | none => .un
  | some i => .val (.int i)
theorem Cloth.put {B : List (List Nat)} {R K k m c : Nat} (h : Cloth B R K) (hk : k < B.length) (hc : Lo c) : Cloth (B.set k (B[k].set m c)) R K := by
  refine ⟨h.r0, h.r1, h.k0, h.k1, by simp [h.len], fun r hr => ?_, fun r hr x hx => ?_⟩
  · rcases List.mem_or_eq_of_mem_set hr with hr | rfl
    · exact h.row r hr
    · simp; exact h.row _ (List.getElem_mem hk)
  · rcases List.mem_or_eq_of_mem_set hr with hr | rfl
    · exact h.lo r hr x hx
    · rcases List.mem_or_eq_of_mem_set hx with hx | rfl
      · exact h.lo _ (List.getElem_mem hk) x hx
      · exact hc
theorem rw2_put {B : List (List Nat)} {k m c : Nat} (hk : k < B.length) : (rw2 B).set k ((B[k].map Sg).set m (Sg c)) = rw2 (B.set k (B[k].set m c)) := by
  unfold rw2
  rw [List.map_set, List.map_set]
def otherB : S2 := (s2Seq (s2Set 3 5 (eCall m__law_number (aCons (eVar 4) aNil)))
    (s2Seq (s2Set 3 6 (e2 modD (eVar 5) (eB lenD (aCons (vVar 3) aNil))))
    (s2Seq (s2Set 3 7 (e2 modD (e2 divD (eVar 5) (eC (.int 16))) (eB lenD (aCons (e2 ixD (vVar 3) (eC (.int 0))) aNil))))
    (s2Put 3 (eVar 6) (eVar 7) (e2 ixD (eC (.str "abcxyz")) (e2 modD (e2 divD (eVar 5) (eC (.int 256))) (eC (.int 6))))))))
def oEnv (ns : List Int) (A : List (List Nat)) (x : Int) (o4 o5 o6 o7 : Option Int) : EnvD := [.bor (.lst (ns.map .int)), .val (.tup (A.map Wd)), .val (.int x), .un, sl o4, sl o5, sl o6, sl o7, .un]
theorem oEnv_no (ns : List Int) (A : List (List Nat)) (x : Int) (o4 o5 o6 o7 : Option Int) : noOwn (oEnv ns A x o4 o5 o6 o7) = true := by
  cases o4 <;> cases o5 <;> cases o6 <;> cases o7 <;> rfl
theorem oEnv_set4 (ns : List Int) (A : List (List Nat)) (x : Int) (o4 o5 o6 o7 : Option Int) (z : Int) : (oEnv ns A x o4 o5 o6 o7).set 4 (.val (.int z)) = oEnv ns A x (some z) o5 o6 o7 := rfl
theorem other_step (ns : List Int) (A : List (List Nat)) (x z : Int) (o5 o6 o7 : Option Int) {B : List (List Nat)} {R K : Nat} (hB : Cloth B R K) :
    ∃ B' p5 p6 p7, otherB (rw2 B) (oEnv ns A x (some z) o5 o6 o7) = .nx (rw2 B') (oEnv ns A x (some z) p5 p6 p7) ∧ Cloth B' R K := by
  have hnum := number_ok z
  have hz0 := numI_nn z
  generalize numI z = w at *
  have hR := hB.len
  have r0 := hB.r0
  have k0 := hB.k0
  have hr0 := Int.emod_nonneg w (b := (R : Int)) (by omega)
  have hr1 := Int.emod_lt_of_pos w (b := (R : Int)) (by omega)
  have hc0 := Int.emod_nonneg (w / 16) (b := (K : Int)) (by omega)
  have hc1 := Int.emod_lt_of_pos (w / 16) (b := (K : Int)) (by omega)
  obtain ⟨c, hc, hl⟩ := abc6 (w / 256 % 6) (Int.emod_nonneg _ (by decide)) (Int.emod_lt_of_pos _ (by decide))
  have hk : (w % (R : Int)).toNat < B.length := by omega
  refine ⟨B.set (w % (R : Int)).toNat (B[(w % (R : Int)).toNat].set (w / 16 % (K : Int)).toNat c), some w, some (w % (R : Int)), some (w / 16 % (K : Int)), ?_, hB.put hk hc⟩
  have hrow0 : atI (List.map D.lst (rw2 B)) 0 = some (.lst (B[0].map Sg)) := by
    have : (0 : Int) = ((0 : Nat) : Int) := rfl
    rw [this, atI_get' (by simp [rw2]; omega)]
    simp [rw2]
  have hK0 : B[0].length = K := hB.row _ (List.getElem_mem _)
  unfold otherB
  rw [s2Seq_ev]
  have s1 : s2Set 3 5 (eCall m__law_number (aCons (eVar 4) aNil)) (rw2 B) (oEnv ns A x (some z) o5 o6 o7) = .nx (rw2 B) (oEnv ns A x (some z) (some w) o6 o7) := by
    show e2v 3 _ _ _ _ = _
    rw [e2v_ev _ _ _ _ _ (oEnv_no _ _ _ _ _ _ _)]
    simp [oEnv, sl, hnum]
  have s2 : s2Set 3 6 (e2 modD (eVar 5) (eB lenD (aCons (vVar 3) aNil))) (rw2 B) (oEnv ns A x (some z) (some w) o6 o7) = .nx (rw2 B) (oEnv ns A x (some z) (some w) (some (w % (R : Int))) o7) := by
    show e2v 3 _ _ _ _ = _
    rw [e2v_ev _ _ _ _ _ (oEnv_no _ _ _ _ _ _ _)]
    simp [oEnv, sl, rw2, hR, r0]
  have s3 : s2Set 3 7 (e2 modD (e2 divD (eVar 5) (eC (.int 16))) (eB lenD (aCons (e2 ixD (vVar 3) (eC (.int 0))) aNil))) (rw2 B) (oEnv ns A x (some z) (some w) (some (w % (R : Int))) o7) = .nx (rw2 B) (oEnv ns A x (some z) (some w) (some (w % (R : Int))) (some (w / 16 % (K : Int)))) := by
    show e2v 3 _ _ _ _ = _
    rw [e2v_ev _ _ _ _ _ (oEnv_no _ _ _ _ _ _ _)]
    simp [oEnv, sl, hrow0, hK0, k0]
  rw [s1, seq2_nx, s2Seq_ev, s2, seq2_nx, s2Seq_ev, s3, seq2_nx]
  show e2v 3 _ _ _ _ = _
  rw [e2v_ev _ _ _ _ _ (oEnv_no _ _ _ _ _ _ _)]
  have no := oEnv_no ns A x (some z) (some w) (some (w % (R : Int))) (some (w / 16 % (K : Int)))
  have t1 : (e2 ixD (eC (.str "abcxyz")) (e2 modD (e2 divD (eVar 5) (eC (.int 256))) (eC (.int 6)))) ((oEnv ns A x (some z) (some w) (some (w % (R : Int))) (some (w / 16 % (K : Int)))).set 3 (.val (rowsD (rw2 B)))) = .ok (Sg c) := by
    simp [oEnv, sl, hl]
  rw [t1, ee2_str, e2v_ev _ _ _ _ _ no]
  have t2 : (eVar 6) ((oEnv ns A x (some z) (some w) (some (w % (R : Int))) (some (w / 16 % (K : Int)))).set 3 (.val (rowsD (rw2 B)))) = .ok (.int (w % (R : Int))) := by simp [oEnv, sl]
  have t3 : (eVar 7) ((oEnv ns A x (some z) (some w) (some (w % (R : Int))) (some (w / 16 % (K : Int)))).set 3 (.val (rowsD (rw2 B)))) = .ok (.int (w / 16 % (K : Int))) := by simp [oEnv, sl]
  rw [t2, ee2_int, e2v_ev _ _ _ _ _ no, t3, ee2_int]
  have t4 : row2 (rw2 B) (.int (w % (R : Int))) (.int (w / 16 % (K : Int))) (Sg c) = some (rw2 (B.set (w % (R : Int)).toNat (B[(w % (R : Int)).toNat].set (w / 16 % (K : Int)).toNat c))) := by
    have hKk : B[(w % (R : Int)).toNat].length = K := hB.row _ (List.getElem_mem hk)
    unfold row2
    dsimp only
    rw [ixN_int hr0 (by simp [rw2]; omega)]
    show ((rw2 B)[(w % (R : Int)).toNat]?).bind _ = _
    have : (rw2 B)[(w % (R : Int)).toNat]? = some (B[(w % (R : Int)).toNat].map Sg) := by simp [rw2, hk]
    rw [this]
    show (ixN (B[(w % (R : Int)).toNat].map Sg).length (w / 16 % (K : Int))).map _ = _
    rw [ixN_int hc0 (by simp [hKk]; omega)]
    exact congrArg some (rw2_put hk)
  rw [t4]
theorem other_ok' (ns : List Int) (h : ns.length ≤ 63) {A : List (List Nat)} {R K : Nat} (hA : Cloth A R K) : ∃ B R2 K2, m__law_other [.lst (ns.map .int), .tup (A.map Wd)] = .ok (.tup (B.map Wd)) ∧ Cloth B R2 K2 := by
  have hnum := number_ok (ns[26]?.getD 0)
  have hcell := cell_ok ns 26
  generalize hx : numI (ns[26]?.getD 0) = x at *
  have hx0 : 0 ≤ x := by rw [← hx]; exact numI_nn _
  unfold m__law_other b__law_other
  by_cases h4 : x % 4 = 0
  · obtain ⟨sg, cs, R2, K2, e, g1, g2, g3, g4, g5, g6, _⟩ := cloth_ok ns 27 10 false (by decide) (by decide) h
    refine ⟨clothF sg cs R2 K2, R2, K2, ?_, cloth_of g1 g2 g3 (by omega) g5 (by omega)⟩
    simp at hcell e
    simp [hcell, hnum, h4, e]
  · simp at hcell
    simp [hcell, hnum, h4]
    have hl : A.length ≤ 1000000 := by rw [hA.len]; have := hA.r1; omega
    have hrow : ∀ r ∈ A, r.length ≤ 1000000 := fun r hr => by rw [hA.row r hr]; have := hA.k1; omega
    simp [sRows, hl]
    rw [lcD_map (φ := Wd) (h := fun r => .lst (r.map Sg)) fun r hr => ⟨_, rfl, by simp [hrow r hr, signsS_S, List.map_map, Function.comp_def]⟩]
    simp [allL_map, s2For, cutD_int]
    generalize cutI ns (some 27) (some (27 + x / 4 % 9)) = zs
    obtain ⟨r', e', h1, B, o4, o5, o6, o7, rfl, hB, rfl⟩ := for2D_pre (φ := D.int) (set := gVar 4) (f := otherB) (l := zs) (rows := rw2 A) (env := oEnv ns A x none none none none)
      (fun r e => ∃ B o4 o5 o6 o7, r = rw2 B ∧ Cloth B R K ∧ e = oEnv ns A x o4 o5 o6 o7) ⟨A, none, none, none, none, rfl, hA, rfl⟩ fun z _ r e ⟨B, o4, o5, o6, o7, h1, h2, h3⟩ => by
        subst h1 h3
        obtain ⟨B', p5, p6, p7, q1, q2⟩ := other_step ns A x z o5 o6 o7 h2
        exact ⟨_, _, _, rfl, q1, B', some z, p5, p6, p7, rfl, q2, rfl⟩
    have h1' : for2D (gVar 4) otherB (zs.map D.int) (rw2 A) [.bor (.lst (ns.map .int)), .val (.tup (A.map Wd)), .val (.int x), .un, .un, .un, .un, .un, .un] = _ := h1
    unfold otherB at h1'
    rw [h1', seq2_nx]
    refine ⟨B, ?_, R, K, hB⟩
    unfold s2Fix
    rw [if_pos (oEnv_no _ _ _ _ _ _ _)]
    have hBl : B.length ≤ 1000000 := by rw [hB.len]; have := hB.r1; omega
    have hBr : ∀ r ∈ B, r.length ≤ 1000000 := fun r hr => by rw [hB.row r hr]; have := hB.k1; omega
    have e1 : List.map D.lst (rw2 B) = B.map fun r => D.lst (r.map Sg) := by simp [rw2, List.map_map, Function.comp_def]
    simp [oEnv, e1, hBl]
    rw [lcD_map (φ := fun r : List Nat => D.lst (r.map Sg)) (h := Wd) fun r hr => ⟨_, rfl, by simp [joinD_signs (hBr r hr)]⟩]
    simp
/-! ### two colours exchanged twice -/
theorem oth_oth (a b c : Nat) : oth b a (oth a b c) = c := by
  unfold oth
  repeat' split
  all_goals simp_all
theorem dye_dye (a b : Nat) (rows : List (List Nat)) : dye b a (dye a b rows) = rows := by
  unfold dye
  rw [List.map_map]
  conv => rhs; rw [← List.map_id rows]
  refine List.map_congr_left fun r _ => ?_
  simp only [Function.comp, List.map_map]
  conv => rhs; rw [id, ← List.map_id r]
  exact List.map_congr_left fun c _ => oth_oth a b c
theorem oth_cp {a b c : Nat} (ha : Lo a) (hb : Lo b) (hc : Lo c) : Lo (oth a b c) := by
  unfold oth
  split
  · exact hb
  · split
    · exact ha
    · exact hc
theorem Cloth.dye {rows : List (List Nat)} {R K a b : Nat} (h : Cloth rows R K) (ha : Lo a) (hb : Lo b) : Cloth (Ck.dye a b rows) R K := by
  refine ⟨h.r0, h.r1, h.k0, h.k1, by simp [Ck.dye, h.len], fun r hr => ?_, fun r hr c hc => ?_⟩
  · obtain ⟨q, hq, rfl⟩ := List.mem_map.mp hr
    simp; exact h.row q hq
  · obtain ⟨q, hq, rfl⟩ := List.mem_map.mp hr
    obtain ⟨d, hd, rfl⟩ := List.mem_map.mp hc
    exact oth_cp ha hb (h.lo q hq d hd)
theorem dyed_cl {rows : List (List Nat)} {R K : Nat} (h : Cloth rows R K) (a b : Nat) : m_dyed_two [.tup (rows.map Wd), Sg a, Sg b] = .ok (.tup ((Ck.dye a b rows).map Wd)) :=
  dyed_ok (by rw [h.len]; have := h.r1; omega) fun r hr => by rw [h.row r hr]; have := h.k1; omega
/-- the sorted colours -/
def colsF (A : List (List Nat)) : List Nat := sortN ((cnt A.flatten).map (·.1))
theorem cols_mem {A : List (List Nat)} {R K : Nat} (h : Cloth A R K) : ∀ c ∈ colsF A, Lo c := fun c hc => by
  have := (sortN_perm _).mem_iff.mp hc
  rw [cnt_keys] at this
  obtain ⟨r, hr, hc⟩ := List.mem_flatten.mp this
  exact h.lo r hr c hc
theorem cols_len {A : List (List Nat)} : (colsF A).length = (cnt A.flatten).length := by
  have := (sortN_perm ((cnt A.flatten).map (·.1))).length_eq
  simpa [colsF] using this
theorem cols_pos {A : List (List Nat)} {R K : Nat} (h : Cloth A R K) : 0 < (cnt A.flatten).length := by
  have h1 : 0 < A.length := by rw [h.len]; exact h.r0
  have h2 : 0 < A[0].length := by rw [h.row _ (List.getElem_mem h1)]; exact h.k0
  have h3 : A[0][0] ∈ A.flatten := List.mem_flatten.mpr ⟨A[0], List.getElem_mem h1, List.getElem_mem h2⟩
  have h4 := (cnt_keys A.flatten A[0][0]).mpr h3
  have h5 := List.length_pos_of_mem h4
  simpa using h5
theorem cols_le {A : List (List Nat)} {R K : Nat} (h : Cloth A R K) : (cnt A.flatten).length ≤ 1000 := Nat.le_trans (cnt_len _) h.flat
theorem sorted_counts {A : List (List Nat)} {R K : Nat} (h : Cloth A R K) : sortedD [encC (cnt A.flatten)] = some (.lst ((colsF A).map Sg)) :=
  sortedD_enc (by have := cols_le h; omega)
theorem neW_cols {A : List (List Nat)} {R K : Nat} (h : Cloth A R K) : neW (.lst ((colsF A).map Sg)) (.lst ((colsF A).map Sg)) = some (.bl false) := by
  have e : (colsF A).map Sg = ((colsF A).map fun c => [c]).map Wd := by rw [List.map_map]; rfl
  rw [e]
  refine neW_self (ok_texts fun r hr => ?_) (nb_texts _ _)
  obtain ⟨c, hc, rfl⟩ := List.mem_map.mp hr
  intro x hx
  rw [List.mem_singleton.mp hx]
  exact (cols_mem h c hc).cp
theorem neW_due (A B : List (List Nat)) (R K R2 K2 : Nat) : neW (.lst (dueF A B R K R2 K2)) (.lst (dueF A B R K R2 K2)) = some (.bl false) := by
  unfold dueF
  split
  · refine neW_self ?_ ?_
    · rw [okNs_all, List.all_map, List.all_eq_true]; intro p _; rfl
    · rw [noBs_all, List.all_map, List.all_eq_true]; intro p _; rfl
  · exact neW_self (by decide +kernel) (by decide +kernel)
theorem due_len {A B : List (List Nat)} {R K R2 K2 : Nat} (h : Cloth A R K) : (dueF A B R K R2 K2).length ≤ 1000 := by
  unfold dueF
  split
  · have f0 := flatMap_le (f := rowU A B K) (K := K) (fun r => by simp only [rowU, List.length_map]; exact Nat.le_trans (List.length_filter_le _ _) (by simp)) (List.range R)
    have f1 : R * K ≤ 24 * 24 := Nat.mul_le_mul h.r1 h.k1
    rw [List.length_map]
    unfold unl
    simp at f0 ⊢
    omega
  · simp
theorem law_true (ns : List Int) (h : ns.length ≤ 63) : m_law [.lst (ns.map .int)] = .ok (.bl true) := by
  obtain ⟨sg, cs, R, K, eA, g1, g2, g3, g4, g5, g6, _⟩ := cloth_ok ns 0 10 false (by decide) (by decide) h
  have hA : Cloth (clothF sg cs R K) R K := cloth_of g1 g2 g3 (by omega) g5 (by omega)
  generalize clothF sg cs R K = A at *
  obtain ⟨B, R2, K2, eB, hB⟩ := other_ok' ns h hA
  have eC := counts_ok hA
  have eCol := cols_ok hA
  have eBy := byc_ok hA
  have eU := lawunl_ok hA hB
  have eD := due_ok hA hB
  have eS := sorted_counts hA
  have eS2 : sameDct (encC (cnt (sortN A.flatten))) (encC (cnt A.flatten)) = true := sameDct_cnt (sortN_perm _)
  have eN : neW (.lst (List.map Sg (sortN (List.map (fun x => x.fst) (cnt A.flatten))))) (.lst ((colsF A).map Sg)) = some (.bl false) := neW_cols hA
  have eE : eqC false (.dct false (encA Sg natD (cnt (sortN A.flatten)))) (encC (cnt A.flatten)) = some (.bl false) := if_pos eS2
  have eN2 := neW_due A B R K R2 K2
  have hdl := due_len (B := B) (R2 := R2) (K2 := K2) hA
  have hcp := cols_pos hA
  have hcl := cols_le hA
  simp at eA
  simp [m_law, b_law, eA, eB, eC]
  have r2 : rng1 [.int 2] = some ((List.range 2).map fun k => D.int (k : Nat)) := rng1_nat (n := 2) (by decide)
  simp only [r2, ofO_some, oFor_ok]
  have loop1 := fun (f : SD) (env : EnvD) (I : List Nat → EnvD → Prop) h0 hs => forD_pre (l := List.range 2) (φ := fun k : Nat => D.int k) (set := gVar 4) (f := f) (env := env) I h0 hs
  generalize hb1 : (sFgt [4, 6, 7] _ : SD) = body1
  obtain ⟨env1, h1, s5, h2⟩ := loop1 body1 _ (fun _ env => ∃ s5, env = [.bor (.lst (ns.map .int)), .val (.tup (A.map Wd)), .val (.tup (B.map Wd)), .val (encC (cnt A.flatten)), .un, s5, .un, .un, .un, .un, .un, .un]) ⟨.un, rfl⟩ fun pre k post env hl ⟨s5, he⟩ => by
    subst he hb1
    refine ⟨_, _, rfl, ?_, .own (.lst []), rfl⟩
    simp [eCol, eBy, eU, eD, eS, eN, eE, eN2]
    rw [if_pos (by omega)]
    simp
  rw [h1, h2]
  simp [cutD_int]
  have hcut := cutI_le ns (some 52) (some 82)
  rw [if_pos (by omega)]
  have ez : List.map D.int (cutI ns (some 52) (some 82)) ++ [D.int 1] = (cutI ns (some 52) (some 82) ++ [1]).map D.int := by simp
  simp only [ez, ofO_some, oFor_ok]
  generalize cutI ns (some 52) (some 82) ++ [1] = zs
  have loop2 := fun (f : SD) (env : EnvD) (I : List Int → EnvD → Prop) h0 hs => forD_pre (l := zs) (φ := D.int) (set := gVar 8) (f := f) (env := env) I h0 hs
  generalize hb2 : (sFgt [8, 9, 10, 11] _ : SD) = body2
  obtain ⟨env2, h3, s6, h4⟩ := loop2 body2 _ (fun _ env => ∃ s5, env = [.bor (.lst (ns.map .int)), .val (.tup (A.map Wd)), .val (.tup (B.map Wd)), .val (encC (cnt A.flatten)), .un, s5, .un, .un, .un, .un, .un, .un]) ⟨s5, rfl⟩ fun pre z post env hl ⟨s5, he⟩ => by
    subst he hb2
    have hnum := number_ok z
    have w0 := numI_nn z
    generalize numI z = w at *
    obtain ⟨a1, ha1, eaz⟩ : ∃ c, Lo c ∧ ixD (.str "abcdefghijklmnopqrstuvwxyz") (.int (w % 26)) = some (Sg c) := ⟨_, by unfold Lo; omega, az (w % 26) (by omega) (by omega)⟩
    have hm : ∀ y : Int, ∃ c, Lo c ∧ atI ((colsF A).map Sg) (y % ((cnt A.flatten).length : Int)) = some (Sg c) := fun y => by
      have e := sign_mem (sg := colsF A) (x := y) (by rw [cols_len]; exact hcp)
      rw [cols_len] at e
      refine ⟨_, ?_, e⟩
      have h5 := Int.emod_nonneg y (b := ((cnt A.flatten).length : Int)) (by omega)
      have h6 := Int.emod_lt_of_pos y (b := ((cnt A.flatten).length : Int)) (by omega)
      have h7 : (y % ((cnt A.flatten).length : Int)).toNat < (colsF A).length := by rw [cols_len]; omega
      rw [List.getD_eq_getElem?_getD, List.getElem?_eq_getElem h7]
      exact cols_mem hA _ (List.getElem_mem h7)
    obtain ⟨a2, ha2, e2⟩ := hm (w / 78)
    obtain ⟨b, hb, e3⟩ := hm (w / 312)
    refine ⟨_, _, rfl, ?_, .val (.tup ((dye (if 0 < w / 26 % 3 then a2 else a1) b A).map Wd)), rfl⟩
    have nA : neW (.tup (A.map Wd)) (.tup (A.map Wd)) = some (.bl false) := by rw [neW_tupT hA.cp hA.cp]; simp
    have key : ∀ a, Lo a → m_dyed_two [.tup (A.map Wd), Sg a, Sg b] = .ok (.tup ((dye a b A).map Wd)) ∧ m__law_dyed [.tup (A.map Wd), Sg a, Sg b] = .ok (.tup ((dye a b A).map Wd)) ∧ neW (.tup ((dye a b A).map Wd)) (.tup ((dye a b A).map Wd)) = some (.bl false) ∧
        m_dyed_two [.tup ((dye a b A).map Wd), Sg b, Sg a] = .ok (.tup (A.map Wd)) := fun a ha => by
      have hD := hA.dye ha hb
      refine ⟨dyed_cl hA a b, lawdyed_ok hA a b, by rw [neW_tupT hD.cp hD.cp]; simp, ?_⟩
      rw [dyed_cl hD b a, dye_dye]
    simp [hnum, eaz, eS]
    by_cases hw : 0 < w / 26 % 3
    · obtain ⟨k1, k2, k3, k4⟩ := key a2 ha2
      simp [hw, e2, e3, hcp, eS, enc_len, k1, k2, k3, k4, nA]
    · obtain ⟨k1, k2, k3, k4⟩ := key a1 ha1
      simp [hw, e2, e3, hcp, eS, enc_len, k1, k2, k3, k4, nA]
  simp [h3, h4]
end Ck

namespace Ck
open PySem PySem.Spec L2 RZ
theorem all_mk {Pg : Program} {w : World} {K : PySem.W.Frag} {h : Heap} {mg : Str → Option Value} {fa f_other_colour f_dyed_two f_knots_by_colour f_colours_of f_unlike f__law_cell_at f__law_number f__law_letters f__law_cloth f__law_counts f__law_dyed f__law_unlike f__law_due_unlike f__law_other f_law c_NoFit c_CarpetError : Addr} (X : K.In h) (G : h.Ns mainGlobals mg) (hfa : mg "law" = some (.ref fa))
    {od1 an1 od2 an2 od3 an3 od4 an4 od5 an5 od6 an6 od7 an7 od8 an8 od9 an9 od10 an10 od11 an11 od12 an12 od13 an13 od14 an14 od15 an15 : Option Addr} {sl1 sl2 sl3 sl4 sl5 sl6 sl7 sl8 sl9 sl10 sl11 sl12 sl13 sl14 sl15 : Array (Option Value)} {oc1 kV1 dc1 pm1 cd1 ct1 oc2 kV2 dc2 pm2 cd2 ct2 oc3 kV3 dc3 pm3 cd3 ct3 oc4 kV4 dc4 pm4 cd4 ct4 oc5 kV5 dc5 pm5 cd5 ct5 oc6 kV6 dc6 pm6 cd6 ct6 oc7 kV7 dc7 pm7 cd7 ct7 oc8 kV8 dc8 pm8 cd8 ct8 oc9 kV9 dc9 pm9 cd9 ct9 oc10 kV10 dc10 pm10 cd10 ct10 oc11 kV11 dc11 pm11 cd11 ct11 oc12 kV12 dc12 pm12 cd12 ct12 oc13 kV13 dc13 pm13 cd13 ct13 oc14 kV14 dc14 pm14 cd14 ct14 oc15 kV15 dc15 pm15 cd15 ct15 : Value}
    (a1 : PySem.W.nsIn K mainGlobals "other_colour" = some (some (.ref f_other_colour)))
    (l1 : K.lookup f_other_colour = some ⟨oc1, od1, .func (PySem.W.fnOf "other_colour" "other_colour" (defArgs s_other_colour) (defBody s_other_colour) (defScope s_other_colour) .none kV1 dc1 pm1 an1 cd1 ct1), sl1⟩)
    (e1 : PySem.W.codeIn K cd1 "other_colour" = true)
    (k1 : PySem.W.keepIn K (.ref f_other_colour) = true)
    (a2 : PySem.W.nsIn K mainGlobals "dyed_two" = some (some (.ref f_dyed_two)))
    (l2 : K.lookup f_dyed_two = some ⟨oc2, od2, .func (PySem.W.fnOf "dyed_two" "dyed_two" (defArgs s_dyed_two) (defBody s_dyed_two) (defScope s_dyed_two) .none kV2 dc2 pm2 an2 cd2 ct2), sl2⟩)
    (e2 : PySem.W.codeIn K cd2 "dyed_two" = true)
    (k2 : PySem.W.keepIn K (.ref f_dyed_two) = true)
    (a3 : PySem.W.nsIn K mainGlobals "knots_by_colour" = some (some (.ref f_knots_by_colour)))
    (l3 : K.lookup f_knots_by_colour = some ⟨oc3, od3, .func (PySem.W.fnOf "knots_by_colour" "knots_by_colour" (defArgs s_knots_by_colour) (defBody s_knots_by_colour) (defScope s_knots_by_colour) .none kV3 dc3 pm3 an3 cd3 ct3), sl3⟩)
    (e3 : PySem.W.codeIn K cd3 "knots_by_colour" = true)
    (k3 : PySem.W.keepIn K (.ref f_knots_by_colour) = true)
    (a4 : PySem.W.nsIn K mainGlobals "colours_of" = some (some (.ref f_colours_of)))
    (l4 : K.lookup f_colours_of = some ⟨oc4, od4, .func (PySem.W.fnOf "colours_of" "colours_of" (defArgs s_colours_of) (defBody s_colours_of) (defScope s_colours_of) .none kV4 dc4 pm4 an4 cd4 ct4), sl4⟩)
    (e4 : PySem.W.codeIn K cd4 "colours_of" = true)
    (k4 : PySem.W.keepIn K (.ref f_colours_of) = true)
    (a5 : PySem.W.nsIn K mainGlobals "unlike" = some (some (.ref f_unlike)))
    (l5 : K.lookup f_unlike = some ⟨oc5, od5, .func (PySem.W.fnOf "unlike" "unlike" (defArgs s_unlike) (defBody s_unlike) (defScope s_unlike) .none kV5 dc5 pm5 an5 cd5 ct5), sl5⟩)
    (e5 : PySem.W.codeIn K cd5 "unlike" = true)
    (k5 : PySem.W.keepIn K (.ref f_unlike) = true)
    (a6 : PySem.W.nsIn K mainGlobals "_law_cell_at" = some (some (.ref f__law_cell_at)))
    (l6 : K.lookup f__law_cell_at = some ⟨oc6, od6, .func (PySem.W.fnOf "_law_cell_at" "_law_cell_at" (defArgs s__law_cell_at) (defBody s__law_cell_at) (defScope s__law_cell_at) .none kV6 dc6 pm6 an6 cd6 ct6), sl6⟩)
    (e6 : PySem.W.codeIn K cd6 "_law_cell_at" = true)
    (k6 : PySem.W.keepIn K (.ref f__law_cell_at) = true)
    (a7 : PySem.W.nsIn K mainGlobals "_law_number" = some (some (.ref f__law_number)))
    (l7 : K.lookup f__law_number = some ⟨oc7, od7, .func (PySem.W.fnOf "_law_number" "_law_number" (defArgs s__law_number) (defBody s__law_number) (defScope s__law_number) .none kV7 dc7 pm7 an7 cd7 ct7), sl7⟩)
    (e7 : PySem.W.codeIn K cd7 "_law_number" = true)
    (k7 : PySem.W.keepIn K (.ref f__law_number) = true)
    (a8 : PySem.W.nsIn K mainGlobals "_law_letters" = some (some (.ref f__law_letters)))
    (l8 : K.lookup f__law_letters = some ⟨oc8, od8, .func (PySem.W.fnOf "_law_letters" "_law_letters" (defArgs s__law_letters) (defBody s__law_letters) (defScope s__law_letters) .none kV8 dc8 pm8 an8 cd8 ct8), sl8⟩)
    (e8 : PySem.W.codeIn K cd8 "_law_letters" = true)
    (k8 : PySem.W.keepIn K (.ref f__law_letters) = true)
    (a9 : PySem.W.nsIn K mainGlobals "_law_cloth" = some (some (.ref f__law_cloth)))
    (l9 : K.lookup f__law_cloth = some ⟨oc9, od9, .func (PySem.W.fnOf "_law_cloth" "_law_cloth" (defArgs s__law_cloth) (defBody s__law_cloth) (defScope s__law_cloth) .none kV9 dc9 pm9 an9 cd9 ct9), sl9⟩)
    (e9 : PySem.W.codeIn K cd9 "_law_cloth" = true)
    (k9 : PySem.W.keepIn K (.ref f__law_cloth) = true)
    (a10 : PySem.W.nsIn K mainGlobals "_law_counts" = some (some (.ref f__law_counts)))
    (l10 : K.lookup f__law_counts = some ⟨oc10, od10, .func (PySem.W.fnOf "_law_counts" "_law_counts" (defArgs s__law_counts) (defBody s__law_counts) (defScope s__law_counts) .none kV10 dc10 pm10 an10 cd10 ct10), sl10⟩)
    (e10 : PySem.W.codeIn K cd10 "_law_counts" = true)
    (k10 : PySem.W.keepIn K (.ref f__law_counts) = true)
    (a11 : PySem.W.nsIn K mainGlobals "_law_dyed" = some (some (.ref f__law_dyed)))
    (l11 : K.lookup f__law_dyed = some ⟨oc11, od11, .func (PySem.W.fnOf "_law_dyed" "_law_dyed" (defArgs s__law_dyed) (defBody s__law_dyed) (defScope s__law_dyed) .none kV11 dc11 pm11 an11 cd11 ct11), sl11⟩)
    (e11 : PySem.W.codeIn K cd11 "_law_dyed" = true)
    (k11 : PySem.W.keepIn K (.ref f__law_dyed) = true)
    (a12 : PySem.W.nsIn K mainGlobals "_law_unlike" = some (some (.ref f__law_unlike)))
    (l12 : K.lookup f__law_unlike = some ⟨oc12, od12, .func (PySem.W.fnOf "_law_unlike" "_law_unlike" (defArgs s__law_unlike) (defBody s__law_unlike) (defScope s__law_unlike) .none kV12 dc12 pm12 an12 cd12 ct12), sl12⟩)
    (e12 : PySem.W.codeIn K cd12 "_law_unlike" = true)
    (k12 : PySem.W.keepIn K (.ref f__law_unlike) = true)
    (a13 : PySem.W.nsIn K mainGlobals "_law_due_unlike" = some (some (.ref f__law_due_unlike)))
    (l13 : K.lookup f__law_due_unlike = some ⟨oc13, od13, .func (PySem.W.fnOf "_law_due_unlike" "_law_due_unlike" (defArgs s__law_due_unlike) (defBody s__law_due_unlike) (defScope s__law_due_unlike) .none kV13 dc13 pm13 an13 cd13 ct13), sl13⟩)
    (e13 : PySem.W.codeIn K cd13 "_law_due_unlike" = true)
    (k13 : PySem.W.keepIn K (.ref f__law_due_unlike) = true)
    (a14 : PySem.W.nsIn K mainGlobals "_law_other" = some (some (.ref f__law_other)))
    (l14 : K.lookup f__law_other = some ⟨oc14, od14, .func (PySem.W.fnOf "_law_other" "_law_other" (defArgs s__law_other) (defBody s__law_other) (defScope s__law_other) .none kV14 dc14 pm14 an14 cd14 ct14), sl14⟩)
    (e14 : PySem.W.codeIn K cd14 "_law_other" = true)
    (k14 : PySem.W.keepIn K (.ref f__law_other) = true)
    (a15 : PySem.W.nsIn K mainGlobals "law" = some (some (.ref f_law)))
    (l15 : K.lookup f_law = some ⟨oc15, od15, .func (PySem.W.fnOf "law" "law" (defArgs s_law) (defBody s_law) (defScope s_law) .none kV15 dc15 pm15 an15 cd15 ct15), sl15⟩)
    (e15 : PySem.W.codeIn K cd15 "law" = true)
    (k15 : PySem.W.keepIn K (.ref f_law) = true)
    (z0 : PySem.W.nsIn K mainGlobals "int" = some none)
    (z1 : PySem.W.nsIn K mainGlobals "isinstance" = some none)
    (z2 : PySem.W.nsIn K mainGlobals "len" = some none)
    (z3 : PySem.W.nsIn K mainGlobals "list" = some none)
    (z4 : PySem.W.nsIn K mainGlobals "range" = some none)
    (z5 : PySem.W.nsIn K mainGlobals "sorted" = some none)
    (z6 : PySem.W.nsIn K mainGlobals "tuple" = some none)
    (xa0 : PySem.W.nsIn K mainGlobals "NoFit" = some (some (.ref c_NoFit)))
    (xq0 : PySem.W.excIn K c_NoFit [.type "ValueError", .type "Exception", .type "BaseException", .type "object"] "ValueError.__new__" = true)
    (xk0 : PySem.W.keepIn K (.ref c_NoFit) = true)
    (xb0 : PySem.W.subIn K (.ref c_NoFit) (.type "BaseException") = some true)
    (xt0 : PySem.W.typeIn K (.ref c_NoFit) = some (.type "type"))
    (zVE : PySem.W.nsIn K mainGlobals "ValueError" = some none)
    (xaCE : PySem.W.nsIn K mainGlobals "CarpetError" = some (some (.ref c_CarpetError)))
    (m1 : PySem.W.subIn K (.ref c_CarpetError) (.type "BaseException") = some true)
    (m2 : PySem.W.hasDictIn K c_CarpetError = true)
    (m3 : PySem.W.typeIn K (.ref c_CarpetError) = some (.type "type"))
    (m4 : PySem.W.subIn K (.ref c_NoFit) (.ref c_CarpetError) = some true)
    (ec1 : PySem.W.findIn K (.ref c_NoFit) "__getattribute__" = some (some (.builtin "BaseException.__getattribute__")))
    (ec2 : PySem.W.findIn K (.ref c_NoFit) "__getattr__" = some none)
    (ec4 : PySem.W.hasDictIn K c_NoFit = true)
    (ec5 : PySem.W.findIn K (.ref c_NoFit) "__class__" = some (some (.builtin "object.__class__")))
    (ec6 : PySem.W.specialIn K (.builtin "object.__class__") "__get__" = some (some (.builtin "getset_descriptor.__get__")))
    (ec7 : PySem.W.takesIn K (.builtin "object.__class__") = some true)
    (ec8 : PySem.W.mroIn K c_NoFit (.type "object") = some true)
    (kt1 : PySem.W.subIn K (.ref c_NoFit) (.type "ValueError") = some true)
    : ∃ fd : FuncData, (∀ (s : Shared) (v : Value), BindsTo s fd ⟨[v], []⟩ [("_law_script", v)]) ∧ ∀ base : Heap, K.In base → base.Ns mainGlobals mg → FnOk Pg w K mg base (L2N.CX Pg w) 5 fa fd ["_law_script"] (spEnd K) := by
  have e := hfa.symm.trans (PySem.W.mg_of X G a15)
  obtain rfl : fa = f_law := by injection Option.some.inj e
  have F1 := fun_mk (st := s_other_colour) l1 e1 k1
  have b1 := F1.binds (ps := ["sign", "one", "other"]) fun _ _ _ _ _ _ us hl => match us, hl with | [_, _, _], _ => rfl
  have F2 := fun_mk (st := s_dyed_two) l2 e2 k2
  have b2 := F2.binds (ps := ["cloth", "one", "other"]) fun _ _ _ _ _ _ us hl => match us, hl with | [_, _, _], _ => rfl
  have F3 := fun_mk (st := s_knots_by_colour) l3 e3 k3
  have b3 := F3.binds (ps := ["cloth"]) fun _ _ _ _ _ _ us hl => match us, hl with | [_], _ => rfl
  have F4 := fun_mk (st := s_colours_of) l4 e4 k4
  have b4 := F4.binds (ps := ["cloth"]) fun _ _ _ _ _ _ us hl => match us, hl with | [_], _ => rfl
  have F5 := fun_mk (st := s_unlike) l5 e5 k5
  have b5 := F5.binds (ps := ["one", "other"]) fun _ _ _ _ _ _ us hl => match us, hl with | [_, _], _ => rfl
  have F6 := fun_mk (st := s__law_cell_at) l6 e6 k6
  have b6 := F6.binds (ps := ["_law_script", "_law_k"]) fun _ _ _ _ _ _ us hl => match us, hl with | [_, _], _ => rfl
  have F7 := fun_mk (st := s__law_number) l7 e7 k7
  have b7 := F7.binds (ps := ["_law_cell"]) fun _ _ _ _ _ _ us hl => match us, hl with | [_], _ => rfl
  have F8 := fun_mk (st := s__law_letters) l8 e8 k8
  have b8 := F8.binds (ps := ["_law_cell", "_law_many"]) fun _ _ _ _ _ _ us hl => match us, hl with | [_, _], _ => rfl
  have F9 := fun_mk (st := s__law_cloth) l9 e9 k9
  have b9 := F9.binds (ps := ["_law_script", "_law_at", "_law_most", "_law_carpet"]) fun _ _ _ _ _ _ us hl => match us, hl with | [_, _, _, _], _ => rfl
  have F10 := fun_mk (st := s__law_counts) l10 e10 k10
  have b10 := F10.binds (ps := ["_law_cloth_here"]) fun _ _ _ _ _ _ us hl => match us, hl with | [_], _ => rfl
  have F11 := fun_mk (st := s__law_dyed) l11 e11 k11
  have b11 := F11.binds (ps := ["_law_cloth_here", "_law_one", "_law_other_here"]) fun _ _ _ _ _ _ us hl => match us, hl with | [_, _, _], _ => rfl
  have F12 := fun_mk (st := s__law_unlike) l12 e12 k12
  have b12 := F12.binds (ps := ["_law_one", "_law_other_here"]) fun _ _ _ _ _ _ us hl => match us, hl with | [_, _], _ => rfl
  have F13 := fun_mk (st := s__law_due_unlike) l13 e13 k13
  have b13 := F13.binds (ps := ["_law_one", "_law_other_here"]) fun _ _ _ _ _ _ us hl => match us, hl with | [_, _], _ => rfl
  have F14 := fun_mk (st := s__law_other) l14 e14 k14
  have b14 := F14.binds (ps := ["_law_script", "_law_cloth_here"]) fun _ _ _ _ _ _ us hl => match us, hl with | [_, _], _ => rfl
  have F15 := fun_mk (st := s_law) l15 e15 k15
  have b15 := F15.binds (ps := ["_law_script"]) fun _ _ _ _ _ _ us hl => match us, hl with | [_], _ => rfl
  let T : TX K mg := { a_other_colour := f_other_colour, d_other_colour := PySem.W.fnOf "other_colour" "other_colour" (defArgs s_other_colour) (defBody s_other_colour) (defScope s_other_colour) .none kV1 dc1 pm1 an1 cd1 ct1, f_other_colour := F1, g_other_colour := PySem.W.mg_of X G a1, b_other_colour := b1, a_dyed_two := f_dyed_two, d_dyed_two := PySem.W.fnOf "dyed_two" "dyed_two" (defArgs s_dyed_two) (defBody s_dyed_two) (defScope s_dyed_two) .none kV2 dc2 pm2 an2 cd2 ct2, f_dyed_two := F2, g_dyed_two := PySem.W.mg_of X G a2, b_dyed_two := b2, a_knots_by_colour := f_knots_by_colour, d_knots_by_colour := PySem.W.fnOf "knots_by_colour" "knots_by_colour" (defArgs s_knots_by_colour) (defBody s_knots_by_colour) (defScope s_knots_by_colour) .none kV3 dc3 pm3 an3 cd3 ct3, f_knots_by_colour := F3, g_knots_by_colour := PySem.W.mg_of X G a3, b_knots_by_colour := b3, a_colours_of := f_colours_of, d_colours_of := PySem.W.fnOf "colours_of" "colours_of" (defArgs s_colours_of) (defBody s_colours_of) (defScope s_colours_of) .none kV4 dc4 pm4 an4 cd4 ct4, f_colours_of := F4, g_colours_of := PySem.W.mg_of X G a4, b_colours_of := b4, a_unlike := f_unlike, d_unlike := PySem.W.fnOf "unlike" "unlike" (defArgs s_unlike) (defBody s_unlike) (defScope s_unlike) .none kV5 dc5 pm5 an5 cd5 ct5, f_unlike := F5, g_unlike := PySem.W.mg_of X G a5, b_unlike := b5, a__law_cell_at := f__law_cell_at, d__law_cell_at := PySem.W.fnOf "_law_cell_at" "_law_cell_at" (defArgs s__law_cell_at) (defBody s__law_cell_at) (defScope s__law_cell_at) .none kV6 dc6 pm6 an6 cd6 ct6, f__law_cell_at := F6, g__law_cell_at := PySem.W.mg_of X G a6, b__law_cell_at := b6, a__law_number := f__law_number, d__law_number := PySem.W.fnOf "_law_number" "_law_number" (defArgs s__law_number) (defBody s__law_number) (defScope s__law_number) .none kV7 dc7 pm7 an7 cd7 ct7, f__law_number := F7, g__law_number := PySem.W.mg_of X G a7, b__law_number := b7, a__law_letters := f__law_letters, d__law_letters := PySem.W.fnOf "_law_letters" "_law_letters" (defArgs s__law_letters) (defBody s__law_letters) (defScope s__law_letters) .none kV8 dc8 pm8 an8 cd8 ct8, f__law_letters := F8, g__law_letters := PySem.W.mg_of X G a8, b__law_letters := b8, a__law_cloth := f__law_cloth, d__law_cloth := PySem.W.fnOf "_law_cloth" "_law_cloth" (defArgs s__law_cloth) (defBody s__law_cloth) (defScope s__law_cloth) .none kV9 dc9 pm9 an9 cd9 ct9, f__law_cloth := F9, g__law_cloth := PySem.W.mg_of X G a9, b__law_cloth := b9, a__law_counts := f__law_counts, d__law_counts := PySem.W.fnOf "_law_counts" "_law_counts" (defArgs s__law_counts) (defBody s__law_counts) (defScope s__law_counts) .none kV10 dc10 pm10 an10 cd10 ct10, f__law_counts := F10, g__law_counts := PySem.W.mg_of X G a10, b__law_counts := b10, a__law_dyed := f__law_dyed, d__law_dyed := PySem.W.fnOf "_law_dyed" "_law_dyed" (defArgs s__law_dyed) (defBody s__law_dyed) (defScope s__law_dyed) .none kV11 dc11 pm11 an11 cd11 ct11, f__law_dyed := F11, g__law_dyed := PySem.W.mg_of X G a11, b__law_dyed := b11, a__law_unlike := f__law_unlike, d__law_unlike := PySem.W.fnOf "_law_unlike" "_law_unlike" (defArgs s__law_unlike) (defBody s__law_unlike) (defScope s__law_unlike) .none kV12 dc12 pm12 an12 cd12 ct12, f__law_unlike := F12, g__law_unlike := PySem.W.mg_of X G a12, b__law_unlike := b12, a__law_due_unlike := f__law_due_unlike, d__law_due_unlike := PySem.W.fnOf "_law_due_unlike" "_law_due_unlike" (defArgs s__law_due_unlike) (defBody s__law_due_unlike) (defScope s__law_due_unlike) .none kV13 dc13 pm13 an13 cd13 ct13, f__law_due_unlike := F13, g__law_due_unlike := PySem.W.mg_of X G a13, b__law_due_unlike := b13, a__law_other := f__law_other, d__law_other := PySem.W.fnOf "_law_other" "_law_other" (defArgs s__law_other) (defBody s__law_other) (defScope s__law_other) .none kV14 dc14 pm14 an14 cd14 ct14, f__law_other := F14, g__law_other := PySem.W.mg_of X G a14, b__law_other := b14, a_law := fa, d_law := PySem.W.fnOf "law" "law" (defArgs s_law) (defBody s_law) (defScope s_law) .none kV15 dc15 pm15 an15 cd15 ct15, f_law := F15, g_law := PySem.W.mg_of X G a15, b_law := b15, z_int := PySem.W.mg_none_of X G z0, z_isinstance := PySem.W.mg_none_of X G z1, z_len := PySem.W.mg_none_of X G z2, z_list := PySem.W.mg_none_of X G z3, z_range := PySem.W.mg_none_of X G z4, z_sorted := PySem.W.mg_none_of X G z5, z_tuple := PySem.W.mg_none_of X G z6, c_NoFit := c_NoFit, xg_NoFit := PySem.W.mg_of X G xa0, xq_NoFit := xq0, xk_NoFit := xk0, xb_NoFit := xb0, xt_NoFit := xt0, z_ValueError := PySem.W.mg_none_of X G zVE, c_CarpetError := c_CarpetError, xg_CarpetError := PySem.W.mg_of X G xaCE, em_NoFit := exm_of m1 m2 m3 m4, ec_NoFit := ⟨ec1, ec2, xb0, ec4, ec5, ec6, ec7, ec8⟩, k1_NoFit := if_pos (by simp), k2_NoFit := kit_ty (by decide) kt1 }
  exact ⟨PySem.W.fnOf "law" "law" (defArgs s_law) (defBody s_law) (defScope s_law) .none kV15 dc15 pm15 an15 cd15 ct15, fun s v => .of_eq rfl, fun base _ _ => end_law (K := K) (mg := mg) (ok_law (Pg := Pg) (w := w) (base := base) T) law_true⟩
end Ck
open PySem PySem.W PyProof.Rows
set_option maxHeartbeats 0 in
theorem PySem.Challenge.cw_carpetkin_k06_colours_holds : PySem.Challenge.rw_carpetkin_k06_colours.Holds := by
  w_on; o_law; k_head; (case hw => w_witness2)
  k_fill
  refine Ck.walk_end (k := 5) (x := "_law_script") (l := PySem.Challenge.rw_carpetkin_k06_colours) rfl rfl ⟨rfl, by decide, by decide⟩ (fun w h Y => PySem.W.kIn_of Y) ?F
  case F =>
    intro w mg fa h KX G hmg
    refine' Ck.all_mk KX G hmg ?a1 ?l1 ?e1 ?k1 ?a2 ?l2 ?e2 ?k2 ?a3 ?l3 ?e3 ?k3 ?a4 ?l4 ?e4 ?k4 ?a5 ?l5 ?e5 ?k5 ?a6 ?l6 ?e6 ?k6 ?a7 ?l7 ?e7 ?k7 ?a8 ?l8 ?e8 ?k8 ?a9 ?l9 ?e9 ?k9 ?a10 ?l10 ?e10 ?k10 ?a11 ?l11 ?e11 ?k11 ?a12 ?l12 ?e12 ?k12 ?a13 ?l13 ?e13 ?k13 ?a14 ?l14 ?e14 ?k14 ?a15 ?l15 ?e15 ?k15 ?z0 ?z1 ?z2 ?z3 ?z4 ?z5 ?z6 ?xa0 ?xq0 ?xk0 ?xb0 ?xt0 ?zVE ?xaCE ?m1 ?m2 ?m3 ?m4 ?ec1 ?ec2 ?ec4 ?ec5 ?ec6 ?ec7 ?ec8 ?kt1
    (case a1 => k_is)
    (case l1 => k_is)
    (case e1 => k_is)
    (case k1 => k_is)
    (case a2 => k_is)
    (case l2 => k_is)
    (case e2 => k_is)
    (case k2 => k_is)
    (case a3 => k_is)
    (case l3 => k_is)
    (case e3 => k_is)
    (case k3 => k_is)
    (case a4 => k_is)
    (case l4 => k_is)
    (case e4 => k_is)
    (case k4 => k_is)
    (case a5 => k_is)
    (case l5 => k_is)
    (case e5 => k_is)
    (case k5 => k_is)
    (case a6 => k_is)
    (case l6 => k_is)
    (case e6 => k_is)
    (case k6 => k_is)
    (case a7 => k_is)
    (case l7 => k_is)
    (case e7 => k_is)
    (case k7 => k_is)
    (case a8 => k_is)
    (case l8 => k_is)
    (case e8 => k_is)
    (case k8 => k_is)
    (case a9 => k_is)
    (case l9 => k_is)
    (case e9 => k_is)
    (case k9 => k_is)
    (case a10 => k_is)
    (case l10 => k_is)
    (case e10 => k_is)
    (case k10 => k_is)
    (case a11 => k_is)
    (case l11 => k_is)
    (case e11 => k_is)
    (case k11 => k_is)
    (case a12 => k_is)
    (case l12 => k_is)
    (case e12 => k_is)
    (case k12 => k_is)
    (case a13 => k_is)
    (case l13 => k_is)
    (case e13 => k_is)
    (case k13 => k_is)
    (case a14 => k_is)
    (case l14 => k_is)
    (case e14 => k_is)
    (case k14 => k_is)
    (case a15 => k_is)
    (case l15 => k_is)
    (case e15 => k_is)
    (case k15 => k_is)
    (case z0 => k_is)
    (case z1 => k_is)
    (case z2 => k_is)
    (case z3 => k_is)
    (case z4 => k_is)
    (case z5 => k_is)
    (case z6 => k_is)
    (case xa0 => k_is)
    (case xq0 => k_exc)
    (case xk0 => k_is)
    (case xb0 => k_is)
    (case xt0 => k_is)
    (case zVE => k_is)
    (case xaCE => k_is)
    (case m1 => k_is)
    (case m2 => k_is)
    (case m3 => k_is)
    (case m4 => k_is)
    (case ec1 => k_is)
    (case ec2 => k_is)
    (case ec4 => k_is)
    (case ec5 => k_is)
    (case ec6 => k_is)
    (case ec7 => k_is)
    (case ec8 => k_is)
    (case kt1 => k_is)
#print axioms PySem.Challenge.cw_carpetkin_k06_colours_holds

