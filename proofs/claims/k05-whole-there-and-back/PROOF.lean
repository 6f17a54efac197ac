import PyProof.Rows.All
import Wide.All
import OpenK.AllK
import Wide.FinOn
import HandS.ForMost
import PyProof.Rows.All
import Wide.All
import OpenK.AllK
import Wide.FinOn
import KE.KIsAll
import KE.KTryMore
import HandS.Base
import HandS.Call
import HandS.List
import HandS.Exc
import HandS.ExcOwn
import HandS.ExcValue
import HandS.ExcIs
import HandS.IsInst
import HandS.ForExc
import HandS.Wide
import HandS.Walk
import HandS.Flow
import HandS.Deep
import HandS.Steps
import HandS.Zip
import HandS.Style
import HandS.TryOnly
import PySem.Challenge.RW_shimright_k05_whole_there_and_back
set_option Elab.async false
set_option linter.all false
set_option maxRecDepth 100000
set_option maxHeartbeats 4000000
set_option autoImplicit false
set_option exponentiation.threshold 10000
/-! X0 -/
/-! X0: a caught error that is kept by a name. -/
namespace L2
open PySem PySem.Spec PyProof.Rows
/-- a caught error of the class at C -/
def ExK (C a : Addr) : HO := .ext fun h => ∃ (oe : Obj) (vs : Array Value), h.get? a = some oe ∧ Zc (.ref C) none oe ∧ oe.data = .fields vs
theorem exK_ok {P : Program} {w : World} {H : Hp} {h : Heap} {a C : Addr} {oe : Obj} {vs : Array Value} (e : h.get? a = some oe) (z : Zc (.ref C) none oe) (d : oe.data = .fields vs) : ObjOk P w H h a (ExK C a) :=
  ⟨⟨oe, vs, e, z, d⟩, ⟨oe, e⟩, fun _ _ ⟨o, v, q, r⟩ k => ⟨o, v, k o q, r⟩⟩
section
variable {X : Cx} {pins : List (Addr × Obj)} {σ : St} {H : Hp} {s : Shared}
/-- an object that is there, and of ours, is tracked from now on -/
theorem Inv.track {a : Addr} {o : HO} (I : Inv X pins σ H s) (hn : H a = none) (h0 : X.s_0.heap.get? a = none) (nL : a ≠ X.env.locals) (nC : ∀ x c, X.env.cells.lookup x = some c → c ≠ a) (nP : ∀ p ∈ X.pn ++ pins, p.1 ≠ a)
    (new : ObjOk X.prog X.w (upd H a o) s.heap a o) : Inv X pins σ (upd H a o) s := by
  have ne0 : ∀ b u, X.s_0.heap.get? b = some u → b ≠ a := fun b u e z => by
    rw [z, h0] at e
    cases e
  have neN : ∀ b u, H b = some u → b ≠ a := fun b u e z => by
    rw [z, hn] at e
    cases e
  refine ⟨I.ok, I.os, I.bare, ⟨I.base.keep, I.base.slot, fun b u e n hq => ?_, I.base.there, fun b xs e => ?_, fun b o u e => ?_, fun b ps e => ?_⟩, I.loc, I.cell, ?_, fun x c e => ?_, fun p hp => ?_, fun b u e => ?_, I.len⟩
  · rw [upd_ne (ne0 b u e)]
    exact I.base.free b u e n hq
  · have q := I.base.tups b xs e
    rw [upd_ne (neN b _ q)]
    exact q
  · have q := I.base.frzs b o u e
    rw [upd_ne (neN b _ q)]
    exact q
  · obtain ⟨m, q⟩ := I.base.tbls b ps e
    exact ⟨m, by rw [upd_ne (neN b _ q)]; exact q⟩
  · rw [upd_ne (Ne.symm nL)]
    exact I.free
  · rw [upd_ne (nC x c e)]
    exact I.freeC x c e
  · obtain ⟨e, n, r⟩ := I.pin p hp
    exact ⟨e, by rw [upd_ne (nP p hp)]; exact n, r⟩
  · by_cases hb : b = a
    · subst hb
      rw [upd_same] at e
      cases e
      exact new
    · rw [upd_ne hb] at e
      exact (I.hok b u e).stay (fun _ _ _ q => q) (fun c q => by rw [upd_ne (neN c _ q)]; exact q) fun c xs q => by rw [upd_ne (neN c _ q)]; exact q
end
end L2
namespace L2
open PySem PySem.Spec PyProof.Rows
/-- what is wished of an error of the body where the one clause keeps it -/
def wKeep (K : PySem.W.Frag) (c : Value) (i : Nat) (ts : TS) (D : Ends) : WX := fun cls d σ H =>
  PySem.W.exmOne K cls c = some true ∧ ∀ a, H a = none → ts { nx := fun σ' H' => H' a = none → ∃ C, cls = .ref C ∧ d = none ∧ D.nx (σ'.set i none) (upd H' a (ExK C a)), rt := fun _ _ => False, bk := fun _ _ => False, ct := fun _ _ => False } (σ.set i (some (.ref a))) H
section
variable {X : Cx} {x n : Str} {c : Value} {i : Nat} {body suite : List Stmt} {b₀ : Stmt} {np pos pos' : Pos} {tb : WX → TS} {ts : TS}
/-- no frame's names lie where fields lie -/
theorem no_frame {B h : Heap} {l : List Env} {a : Addr} {o : Obj} {vs : Array Value} (f : h.FunFrames B l) (e : h.get? a = some o) (d : o.data = .fields vs) : a ∉ frs l := fun hm => by
  obtain ⟨_, o', e', q⟩ := f.mem hm
  rw [e] at e'
  cases e'
  exact q _ d
theorem ps_try_keep (hs : X.stack = X.env :: X.outer) (hf : X.env.frame = some X.env.locals) (hex : X.ex = []) (hN : X.N.Nodup) (hi : X.N[i]? = some n) (hln : X.env.kindOf n = some .local) (hc : Names X x c)
    (hb : ∀ (W : WX) (pn : List (Addr × Obj)) (xe : Value → Shared → Prop), Takes (X.tr pn xe) W → PassesOwn (model X.prog X.w) X.A X.env xe → PSs (X.tr pn xe) body (tb W))
    (hsu : ∀ (a : Addr) (oe : Obj) (pn : List (Addr × Obj)), PSs (X.suite a ((a, oe) :: pn)) (b₀ :: suite) ts) :
    PS X (.Try body [.ExceptHandler (some (.Name x np)) (some n) (b₀ :: suite) pos'] [] [] pos) (fun D σ H => tb (wKeep X.K c i ts D) D σ H) := by
  refine ⟨fun pins s σ H D I h => wpAny_Try_except ?_⟩
  have ok := I.ok
  have hfr : X.A.frames = some (X.env :: X.outer) := by rw [ok.frames, hs]
  refine wpAny_mono ((hb (wKeep X.K c i ts D) (X.pn ++ pins) (fun e s₁ => wpAny (model X.prog X.w) X.A (noteFrame e X.env) (fun _ s₂ => wpAny (model X.prog X.w) X.A (setFlight e none) (fun _ s₃ =>
    wpAny (model X.prog X.w) X.A (handleBy e X.env [.ExceptHandler (some (.Name x np)) (some n) (b₀ :: suite) pos']) (SP X pins D) X.xe s₃) X.xe s₂) X.xe s₁) (fun u s' xx => ?_) PassesOwn.looking).run [] s σ H D (I.toTry _) h) (fun f s1 hsp => ?_) (fun e s1 he => he)
  · obtain ⟨a, B, sI, pins', σ', H', cls, d, rfl, J', nb, up, sky, na, os, ag, hb1, hyes⟩ := xx
    have J : Inv X pins σ' H' sI := J'.ofTry ok
    rw [show (X.tr (X.pn ++ pins) _).stack = X.env :: X.outer from hs] at sky
    refine Sky.land Zc.steady hfr hf sky fun h3 fl3 up3 => ?_
    have J3 : Inv X pins σ' H' { s' with heap := h3 } := J.landed nb fl3.1 (up.trans up3) os ag
    obtain ⟨oe3, vs3, he3, hz3, hd3⟩ := fl3.there
    have nfr := no_frame fl3.2.2.1 he3 hd3
    have nL : a ≠ X.env.locals := fun z => nfr (List.mem_filterMap.mpr ⟨X.env, List.mem_cons_self, by rw [hf, z]⟩)
    have nF : a ∉ X.fs := fun hm => by
      obtain ⟨e, he, q⟩ := List.mem_filterMap.mp hm
      exact nfr (List.mem_filterMap.mpr ⟨e, List.mem_cons_of_mem _ he, q⟩)
    have nI : ∀ b o, sI.heap.get? b = some o → b ≠ a := fun b o e z => by
      subst z
      have := nb b o e (by rw [hs]; exact nfr)
      rw [fl3.2.1] at this
      cases this
    have S3 := J3.suite he3 hd3 na nL nF
    refine wpAny_handleBy_cons (codeAny_handlers_test ?_) (by intro q; cases q)
    have LT : PySem.W.Looks (model X.prog X.w) h3 (typeOf (.ref a)) cls := fun A Q E s k q => wpAny_typeOf_ref (k _ _ he3) (by rw [hz3.1]; exact q)
    have LM := PySem.W.exm_one (M := model X.prog X.w) (J3.kIn) LT hb1
    have test : ∀ {Q : Value → Shared → Prop} {E : Value → Shared → Prop}, Q c { s' with heap := h3 } → wpAny (model X.prog X.w) (X.A.mark (some (.ref a))) (eval (.Name x np) X.env) Q E { s' with heap := h3 } := fun {Q E} q => by
      obtain ⟨hg, hdbg, hm | ⟨hm, hv, hnn⟩⟩ := hc
      · exact ld_glob (X := X.suite a ((a, oe3) :: (X.pn ++ pins))) S3 hg hm q hdbg
      · exact ld_blt (X := X.suite a ((a, oe3) :: (X.pn ++ pins))) S3 hg hm hv q hnn hdbg
    refine test (LM.here (codeAny_handlers_suite_as ?_))
    refine HandSPX.lands_againZ fl3 fun h4 fl4 up4 => ?_
    have J4 : Inv X pins σ' H' { s' with heap := h4 } := J.landed nb fl4.1 ((up.trans up3).trans up4) os ag
    obtain ⟨oe4, vs4, he4, hz4, hd4⟩ := fl4.there
    have S4 := J4.suite he4 hd4 na nL nF
    refine store_ok (X := X.suite a ((a, oe4) :: (X.pn ++ pins))) (v := .ref a) S4 hN hi (.inl hln) rfl (fun s5 S5 => ?_) (.inr hln)
    refine wpAny_mono ((hsu a oe4 (X.pn ++ pins)).run [] s5 _ H' _ S5 (hyes a na)) (fun f s6 hsp => ?_) (fun _ _ z => False.elim z)
    cases f with
    | next =>
      obtain ⟨σ6, H6, S6, q6⟩ := hsp
      obtain ⟨g6, n6, _⟩ := S6.pin (a, oe4) (List.mem_append_left _ List.mem_cons_self)
      obtain ⟨C, rfl, rfl, q7⟩ := q6 n6
      have U : Inv X pins σ6 H6 s6 := S6.unsuite ok
      have h0 : X.s_0.heap.get? a = none := by
        cases e : X.s_0.heap.get? a with
        | none => rfl
        | some o =>
          obtain ⟨o', e'⟩ := J.base.there a o e (by rw [hex]; exact fun z => nomatch z)
          exact (nI a o' e' rfl).elim
      have T : Inv X pins σ6 (upd H6 a (ExK C a)) s6 := U.track n6 h0 nL (fun x' c' e => by
        obtain ⟨v, o, ho, _⟩ := J.cell x' c' e
        exact nI c' o ho) (fun p hp => nI p.1 p.2 (J.pin p hp).1) (exK_ok g6 hz4 hd4)
      exact gone_ok T hN hi hln fun s7 J7 => ⟨_, _, J7, q7⟩
    | brk =>
      obtain ⟨σ6, H6, S6, q6⟩ := hsp
      exact q6.elim
    | cont =>
      obtain ⟨σ6, H6, S6, q6⟩ := hsp
      exact q6.elim
    | ret u =>
      obtain ⟨v6, σ6, H6, S6, r6, q6⟩ := hsp
      exact q6.elim
  · cases f with
    | next =>
      obtain ⟨σ', H', J', q⟩ := hsp
      exact wpAny_execs_nil ⟨σ', H', J'.ofTry ok, q⟩
    | brk =>
      obtain ⟨σ', H', J', q⟩ := hsp
      exact ⟨σ', H', J'.ofTry ok, q⟩
    | cont =>
      obtain ⟨σ', H', J', q⟩ := hsp
      exact ⟨σ', H', J'.ofTry ok, q⟩
    | ret u =>
      obtain ⟨v, σ', H', J', r, q⟩ := hsp
      exact ⟨v, σ', H', J'.ofTry ok, r, q⟩
end
end L2
namespace L2
open PySem PySem.Spec PyProof.Rows
/-- isinstance(x, c), x a kept error -/
def rIsX (K : PySem.W.Frag) : List V → Hp → VK → Prop := fun xs H Q => ∃ (a D : Addr) (c : V) (u : Value) (b : Bool), xs = [.ref a, c] ∧ H a = some (ExK D a) ∧ ExcC K D ∧ ClsV c u ∧ PySem.W.kitOne K (.ref D) u = some b ∧ Q (.bl b) H
/-- isinstance(x, (c1, ..)), x a kept error -/
def rIsXT (K : PySem.W.Frag) : List V → Hp → VK → Prop := fun xs H Q => ∃ (a D tp : Addr) (cs : List V) (us : List Value) (b : Bool), xs = [.ref a, .ref tp] ∧ H a = some (ExK D a) ∧ ExcC K D ∧ H tp = some (.tup cs) ∧ Paired ClsV cs us ∧ PySem.W.kitAny K (.ref D) us = some b ∧ Q (.bl b) H
section
variable {X : Cx}
theorem exK_at {pins : List (Addr × Obj)} {σ : St} {H : Hp} {s : Shared} {a D : Addr} (I : Inv X pins σ H s) (e : H a = some (ExK D a)) : ∃ oe, PySem.W.InstAt s.heap a oe D none := by
  obtain ⟨⟨oe, vs, hget, hz, hv⟩, _, _⟩ := I.hok a _ e
  refine ⟨oe, ?_⟩
  obtain ⟨oc, od, oda, osl⟩ := oe
  obtain ⟨h1, h2⟩ := hz
  dsimp only at h1 h2 hv
  subst h1 h2 hv
  exact ⟨hget, rfl, rfl, trivial⟩
theorem call_isX : CallR X (.builtin "isinstance") (rIsX X.K) := by
  intro pins s σ H xs us Q I r h
  obtain ⟨a, D, c, u, b, rfl, ea, C, k, e, q⟩ := h
  obtain ⟨u1, u2, rfl, r1, r2⟩ := vals2 r
  cases (show u1 = Value.ref a from r1)
  have e2 := k.eq r2
  subst e2
  obtain ⟨oe, J⟩ := exK_at I ea
  exact PySem.W.kia_one (PySem.W.handS_kitx_exc C.hg C.hk C.hs C.hd C.ha C.hn C.ht C.hm) I.kIn J e (fun z => nomatch z) fun tk => ⟨.bl b, H, I.tok tk, rfl, q⟩
theorem call_isXT : CallR X (.builtin "isinstance") (rIsXT X.K) := by
  intro pins s σ H xs us Q I r h
  obtain ⟨a, D, tp, cs, ws, b, rfl, ea, C, hT, k, e, q⟩ := h
  obtain ⟨u1, u2, rfl, r1, r2⟩ := vals2 r
  cases (show u1 = Value.ref a from r1)
  cases (show u2 = Value.ref tp from r2)
  obtain ⟨oe, J⟩ := exK_at I ea
  obtain ⟨_, its, rv, o, h1, h2, n, h3⟩ := (show ObjOk X.prog X.w H s.heap tp (.tup cs) from I.hok tp _ hT)
  have e3 := ClsV.all k rv
  subst e3
  obtain ⟨oc, od, dt, sl⟩ := o
  simp only at h2 h3
  subst h2 h3
  exact PySem.W.kia_tup (PySem.W.handS_kitx_exc C.hg C.hk C.hs C.hd C.ha C.hn C.ht C.hm) I.kIn J h1 e (fun z => nomatch z) fun tk => ⟨.bl b, H, I.tok tk, rfl, q⟩
end
end L2
/-! L3a -/
/-! L3: an own layer over HandS: pure data, owned trees, mirrors. -/
namespace L3
open PySem PySem.Spec PyProof.Rows L2

/-! ### results -/
inductive R (α : Type) : Type where
  | ok (a : α) | exc (c : Str) | bad
def R.bind {α β : Type} (r : R α) (f : α → R β) : R β := match r with | .ok a => f a | .exc c => .exc c | .bad => .bad
def Then {α : Type} (r : R α) (P : α → Prop) (E : Str → Prop) : Prop := match r with | .ok a => P a | .exc c => E c | .bad => False
theorem then_ok {α : Type} {a : α} {P : α → Prop} {E : Str → Prop} : Then (.ok a) P E ↔ P a := Iff.rfl
theorem then_bad {α : Type} {P : α → Prop} {E : Str → Prop} : Then (.bad : R α) P E ↔ False := Iff.rfl
theorem then_exc {α : Type} {c : Str} {P : α → Prop} {E : Str → Prop} : Then (.exc c : R α) P E ↔ E c := Iff.rfl
theorem bind_ok {α β : Type} {a : α} {f : α → R β} : (R.ok a).bind f = f a := rfl
theorem bind_bad {α β : Type} {f : α → R β} : (R.bad : R α).bind f = .bad := rfl
theorem then_bind {α β : Type} {r : R α} {f : α → R β} {P : β → Prop} {E : Str → Prop} : Then (r.bind f) P E ↔ Then r (fun a => Then (f a) P E) E := by
  cases r <;> exact Iff.rfl
theorem Then.mono {α : Type} {r : R α} {P P' : α → Prop} {E E' : Str → Prop} (h : Then r P E) (hp : ∀ a, P a → P' a) (he : ∀ c, E c → E' c) : Then r P' E' := by
  cases r with
  | ok a => exact hp a h
  | exc c => exact he c h
  | bad => exact h
theorem Then.imp {α : Type} {r : R α} {P P' : α → Prop} {E : Str → Prop} (h : Then r P E) (hp : ∀ a, P a → P' a) : Then r P' E := h.mono hp fun _ x => x
theorem Then.and_ok {α : Type} {r : R α} {P : α → Prop} {E : Str → Prop} {a : α} (h : Then r P E) (e : r = .ok a) : P a := by subst e; exact h
def guard (b : Bool) {α : Type} (r : R α) : R α := if b = true then r else .bad
theorem then_guard {α : Type} {b : Bool} {r : R α} {P : α → Prop} {E : Str → Prop} : Then (guard b r) P E ↔ b = true ∧ Then r P E := by
  unfold guard
  cases b
  · constructor
    · intro h; exact h.elim
    · intro h; exact nomatch h.1
  · exact ⟨fun h => ⟨rfl, h⟩, fun h => h.2⟩
theorem guard_true {α : Type} {b : Bool} {r : R α} (h : b = true) : guard b r = r := by unfold guard; rw [if_pos h]
def ofO {α : Type} (o : Option α) : R α := match o with | some a => .ok a | none => .bad
theorem then_ofO {α : Type} {o : Option α} {P : α → Prop} {E : Str → Prop} : Then (ofO o) P E ↔ ∃ a, o = some a ∧ P a := by
  cases o with
  | none => exact ⟨fun h => h.elim, fun ⟨_, h, _⟩ => nomatch h⟩
  | some a => exact ⟨fun h => ⟨a, rfl, h⟩, fun ⟨b, h, q⟩ => by cases h; exact q⟩

/-! ### data and trees -/
abbrev D := PyData
inductive T where
  | d (x : PyData)
  | ol (xs : List T)
  | ot (xs : List T)
  | od (ks : List Key) (xs : List T)
  | rd (xs : List PyData)
  | ex (x : Str)
abbrev Env := List (Option T)
abbrev MEx := Env → R (T × Env)

/-- the class that the linked module knows by a name -/
def clK (K : PySem.W.Frag) (x : Str) : Option Addr := match PySem.W.nsIn K PySem.mainGlobals x with
  | some (some (.ref C)) => some C
  | _ => none
section
variable (K : PySem.W.Frag) (F : Addr → Prop) (H : Hp)
/-- a list that nobody writes: the script, a list of the module's -/
def RdL (a : Addr) (vs : List V) : Prop := (∃ o, H a = some (.frz o (.lst vs))) ∨ ∃ (o : Obj) (its : Array Value) (n : Nat), K.lookup a = some o ∧ o.cls = .type "list" ∧ o.dict = none ∧ o.data = .seq its n ∧ its.size ≤ sizeLine ∧ Vals vs its.toList
mutual
inductive Fz : V → PyData → Prop
  | non : Fz .non .none
  | bl (b : Bool) : Fz (.bl b) (.bool b)
  | int (i : Int) : Fz (.int i) (.int i)
  | str (x : Str) : Fz (.str x) (.str x)
  | lst {a : Addr} {vs : List V} {ds : List PyData} : H a = some (.lst vs) → F a → FzAll vs ds → Fz (.ref a) (.list ds)
  | tup {a : Addr} {vs : List V} {ds : List PyData} : SqT K H a vs → FzAll vs ds → Fz (.ref a) (.tuple ds)
inductive FzAll : List V → List PyData → Prop
  | nil : FzAll [] []
  | cons {v : V} {vs : List V} {d : PyData} {ds : List PyData} : Fz v d → FzAll vs ds → FzAll (v :: vs) (d :: ds)
end
mutual
inductive Rp : V → T → List Addr → Prop
  | d {v : V} {x : PyData} : Fz K F H v x → Rp v (.d x) []
  | ol {a : Addr} {vs : List V} {ts : List T} {A : List Addr} : H a = some (.lst vs) → RpAll vs ts A → Rp (.ref a) (.ol ts) (a :: A)
  | ot {a : Addr} {vs : List V} {ts : List T} {A : List Addr} : H a = some (.tup vs) → RpAll vs ts A → Rp (.ref a) (.ot ts) A
  | od {a : Addr} {kvs : List (Key × V)} {ks : List Key} {ts : List T} {A : List Addr} : H a = some (.dK kvs) → kvs.map Prod.fst = ks → RpAll (kvs.map Prod.snd) ts A → Rp (.ref a) (.od ks ts) (a :: A)
  | rd {a : Addr} {vs : List V} {ds : List PyData} : RdL K H a vs → FzAll K F H vs ds → Rp (.ref a) (.rd ds) []
  | ex {a C : Addr} {x : Str} : H a = some (ExK C a) → clK K x = some C → ExcC K C → Rp (.ref a) (.ex x) []
inductive RpAll : List V → List T → List Addr → Prop
  | nil : RpAll [] [] []
  | cons {v : V} {vs : List V} {t : T} {ts : List T} {A B : List Addr} : Rp v t A → RpAll vs ts B → RpAll (v :: vs) (t :: ts) (A ++ B)
end
inductive Sl : List (Option V) → Env → List Addr → Prop
  | nil : Sl [] [] []
  | skip {o : Option V} {sl : List (Option V)} {ρ : Env} {A : List Addr} : Sl sl ρ A → Sl (o :: sl) (none :: ρ) A
  | cons {v : V} {t : T} {sl : List (Option V)} {ρ : Env} {A B : List Addr} : Rp K F H v t A → Sl sl ρ B → Sl (some v :: sl) (some t :: ρ) (A ++ B)
end

section
variable {K : PySem.W.Frag} {F F' : Addr → Prop} {H H' : Hp}
theorem RdL.sq {a : Addr} {vs : List V} (h : RdL K H a vs) : SqL K H a vs := by
  rcases h with ⟨o, h⟩ | h
  · exact .inl (.inr ⟨o, h⟩)
  · exact .inr h
/-- what never changes -/
def Still : HO → Prop
  | .tup _ => True
  | .frz _ _ => True
  | .ext _ => True
  | _ => False
structure Mono (F F' : Addr → Prop) (H H' : Hp) : Prop where
  lst : ∀ a vs, H a = some (.lst vs) → F a → H' a = some (.lst vs) ∧ F' a
  still : ∀ a u, H a = some u → Still u → H' a = some u
theorem Mono.same (s : Same H H') : Mono F F H H' := ⟨fun _ _ h f => ⟨s _ _ h, f⟩, fun _ _ h _ => s _ _ h⟩
theorem Mono.sub (f : ∀ a, H a ≠ none → F a → F' a) : Mono F F' H H := ⟨fun _ _ h x => ⟨h, f _ (by rw [h]; exact fun z => nomatch z) x⟩, fun _ _ h _ => h⟩
theorem sqT_mono (s : ∀ a u, H a = some u → Still u → H' a = some u) {a : Addr} {vs : List V} (h : SqT K H a vs) : SqT K H' a vs := by
  rcases h with (h | ⟨o, h⟩) | h
  · exact .inl (.inl (s _ _ h trivial))
  · exact .inl (.inr ⟨o, s _ _ h trivial⟩)
  · exact .inr h
theorem RdL.mono (s : ∀ a u, H a = some u → Still u → H' a = some u) {a : Addr} {vs : List V} (h : RdL K H a vs) : RdL K H' a vs := by
  rcases h with ⟨o, h⟩ | h
  · exact .inl ⟨o, s _ _ h trivial⟩
  · exact .inr h
mutual
theorem Fz.mono (m : Mono F F' H H') : ∀ {v : V} {x : PyData}, Fz K F H v x → Fz K F' H' v x
  | _, _, .non => .non
  | _, _, .bl b => .bl b
  | _, _, .int i => .int i
  | _, _, .str x => .str x
  | _, _, .lst h f a => .lst (m.lst _ _ h f).1 (m.lst _ _ h f).2 (FzAll.mono m a)
  | _, _, .tup h a => .tup (sqT_mono m.still h) (FzAll.mono m a)
theorem FzAll.mono (m : Mono F F' H H') : ∀ {vs : List V} {xs : List PyData}, FzAll K F H vs xs → FzAll K F' H' vs xs
  | _, _, .nil => .nil
  | _, _, .cons h a => .cons (Fz.mono m h) (FzAll.mono m a)
end
mutual
theorem Rp.mono (m : Mono F F' H H') : ∀ {v : V} {t : T} {A : List Addr}, Rp K F H v t A → (∀ a ∈ A, H' a = H a) → Rp K F' H' v t A
  | _, _, _, .d h, _ => .d (h.mono m)
  | _, _, _, .ol h r, k => .ol ((k _ List.mem_cons_self).trans h) (RpAll.mono m r fun a ha => k a (List.mem_cons_of_mem _ ha))
  | _, _, _, .ot h r, k => .ot (m.still _ _ h trivial) (RpAll.mono m r k)
  | _, _, _, .od h e r, k => .od ((k _ List.mem_cons_self).trans h) e (RpAll.mono m r fun a ha => k a (List.mem_cons_of_mem _ ha))
  | _, _, _, .rd h r, _ => .rd (h.mono m.still) (FzAll.mono m r)
  | _, _, _, .ex h c e, _ => .ex (m.still _ _ h trivial) c e
theorem RpAll.mono (m : Mono F F' H H') : ∀ {vs : List V} {ts : List T} {A : List Addr}, RpAll K F H vs ts A → (∀ a ∈ A, H' a = H a) → RpAll K F' H' vs ts A
  | _, _, _, .nil, _ => .nil
  | _, _, _, .cons h r, k => .cons (Rp.mono m h fun a ha => k a (List.mem_append_left _ ha)) (RpAll.mono m r fun a ha => k a (List.mem_append_right _ ha))
end
theorem Sl.mono (m : Mono F F' H H') : ∀ {sl : List (Option V)} {ρ : Env} {A : List Addr}, Sl K F H sl ρ A → (∀ a ∈ A, H' a = H a) → Sl K F' H' sl ρ A
  | _, _, _, .nil, _ => .nil
  | _, _, _, .skip h, k => .skip (Sl.mono m h k)
  | _, _, _, .cons h r, k => .cons (h.mono m fun a ha => k a (List.mem_append_left _ ha)) (Sl.mono m r fun a ha => k a (List.mem_append_right _ ha))
theorem Sl.len : ∀ {sl : List (Option V)} {ρ : Env} {A : List Addr}, Sl K F H sl ρ A → sl.length = ρ.length
  | _, _, _, .nil => rfl
  | _, _, _, .skip h => by rw [List.length_cons, List.length_cons, h.len]
  | _, _, _, .cons _ h => by rw [List.length_cons, List.length_cons, h.len]
theorem FzAll.len : ∀ {vs : List V} {xs : List PyData}, FzAll K F H vs xs → vs.length = xs.length
  | _, _, .nil => rfl
  | _, _, .cons _ h => by rw [List.length_cons, List.length_cons, h.len]
theorem RpAll.len : ∀ {vs : List V} {ts : List T} {A : List Addr}, RpAll K F H vs ts A → vs.length = ts.length
  | _, _, _, .nil => rfl
  | _, _, _, .cons _ h => by rw [List.length_cons, List.length_cons, h.len]
theorem FzAll.get : ∀ {vs : List V} {xs : List PyData}, FzAll K F H vs xs → ∀ {i : Nat} {x : PyData}, xs[i]? = some x → ∃ v, vs[i]? = some v ∧ Fz K F H v x
  | _, _, .nil, i, x, h => by simp at h
  | _, _, .cons (v := v) a r, 0, x, h => by
    simp at h; subst h
    exact ⟨v, rfl, a⟩
  | _, _, .cons a r, i + 1, x, h => by
    obtain ⟨v, e, q⟩ := r.get (i := i) (x := x) (by simpa using h)
    exact ⟨v, by simpa using e, q⟩
theorem RpAll.get : ∀ {vs : List V} {ts : List T} {A : List Addr}, RpAll K F H vs ts A → ∀ {i : Nat} {t : T}, ts[i]? = some t → ∃ v B, vs[i]? = some v ∧ Rp K F H v t B ∧ ∀ a, B.count a ≤ A.count a
  | _, _, _, .nil, i, x, h => by simp at h
  | _, _, _, .cons (v := v) (A := A1) a r, 0, x, h => by
    simp at h; subst h
    exact ⟨v, A1, rfl, a, fun b => by rw [List.count_append]; omega⟩
  | _, _, _, .cons a r, i + 1, x, h => by
    obtain ⟨v, B, e, q, z⟩ := r.get (i := i) (t := x) (by simpa using h)
    exact ⟨v, B, by simpa using e, q, fun b => by have := z b; rw [List.count_append]; omega⟩
mutual
theorem Rp.own : ∀ {v : V} {t : T} {A : List Addr}, Rp K F H v t A → ∀ a ∈ A, (∃ xs, H a = some (.lst xs)) ∨ ∃ kvs, H a = some (.dK kvs)
  | _, _, _, .d _, a, h => by simp at h
  | _, _, _, .ol (vs := vs) e r, a, h => by
    rcases List.mem_cons.mp h with z | z
    · exact .inl ⟨vs, by rw [z]; exact e⟩
    · exact RpAll.own r a z
  | _, _, _, .ot _ r, a, h => RpAll.own r a h
  | _, _, _, .od (kvs := kvs) e _ r, a, h => by
    rcases List.mem_cons.mp h with z | z
    · exact .inr ⟨kvs, by rw [z]; exact e⟩
    · exact RpAll.own r a z
  | _, _, _, .rd _ _, a, h => by simp at h
  | _, _, _, .ex _ _ _, a, h => by simp at h
theorem RpAll.own : ∀ {vs : List V} {ts : List T} {A : List Addr}, RpAll K F H vs ts A → ∀ a ∈ A, (∃ xs, H a = some (.lst xs)) ∨ ∃ kvs, H a = some (.dK kvs)
  | _, _, _, .nil, a, h => by simp at h
  | _, _, _, .cons x r, a, h => by
    rcases List.mem_append.mp h with z | z
    · exact Rp.own x a z
    · exact RpAll.own r a z
end
theorem Sl.own : ∀ {sl : List (Option V)} {ρ : Env} {A : List Addr}, Sl K F H sl ρ A → ∀ a ∈ A, (∃ xs, H a = some (.lst xs)) ∨ ∃ kvs, H a = some (.dK kvs)
  | _, _, _, .nil, a, h => by simp at h
  | _, _, _, .skip h, a, z => h.own a z
  | _, _, _, .cons x r, a, h => by
    rcases List.mem_append.mp h with z | z
    · exact x.own a z
    · exact r.own a z
end

/-! ### the state -/
structure C0 where
  H0 : Hp
  A0 : List Addr
  F0 : Addr → Prop
def Fok (c : C0) (A : List Addr) : Addr → Prop := fun a => (c.F0 a ∨ c.H0 a = none ∨ a ∈ c.A0) ∧ a ∉ A
structure KeepC (c : C0) (H : Hp) : Prop where
  keep : ∀ a o, c.H0 a = some o → a ∉ c.A0 → H a = some o
  there : ∀ a, H a = none → c.H0 a = none
structure StW (K : PySem.W.Frag) (c : C0) (H : Hp) (sl : List (Option V)) (ρ : Env) (A : List Addr) : Prop where
  uniq : ∀ a, A.count a ≤ 1
  slots : Sl K (Fok c A) H sl ρ A
  own : ∀ a ∈ A, a ∈ c.A0 ∨ c.H0 a = none
  keep : KeepC c H
def StR (K : PySem.W.Frag) (c : C0) (H : Hp) (sl : List (Option V)) (ρ : Env) : Prop := ∃ A, StW K c H sl ρ A
section
variable {K : PySem.W.Frag} {c : C0} {H H' : Hp} {sl : List (Option V)} {ρ : Env} {A : List Addr}
theorem StR.keep (h : StR K c H sl ρ) : KeepC c H := let ⟨_, w⟩ := h; w.keep
theorem KeepC.grow (k : KeepC c H) (s : Same H H') : KeepC c H' := ⟨fun a o e n => s _ _ (k.keep a o e n), fun a e => k.there a (s.free e)⟩
theorem StW.grow (w : StW K c H sl ρ A) (s : Same H H') : StW K c H' sl ρ A :=
  ⟨w.uniq, w.slots.mono (.same s) fun a ha => by
    rcases w.slots.own a ha with ⟨xs, e⟩ | ⟨xs, e⟩ <;> rw [e, s _ _ e], w.own, w.keep.grow s⟩
theorem StR.grow (h : StR K c H sl ρ) (s : Same H H') : StR K c H' sl ρ := let ⟨A, w⟩ := h; ⟨A, w.grow s⟩
theorem same_upd {p : Addr} {o : HO} (h : H p = none) : Same H (upd H p o) := fun b x e => by rw [upd_ne (ne_of_none e h)]; exact e
/-- fewer owned: the frozen stay -/
theorem Fok.sub {B : List Addr} (h : ∀ a, B.count a ≤ A.count a) : ∀ a, Fok c A a → Fok c B a := fun a ⟨x, y⟩ => ⟨x, fun z => y (by
  have := List.count_pos_iff.mpr z
  have := h a
  exact List.count_pos_iff.mp (by omega))⟩
theorem StW.drop {o : Option V} {t : Option T} (w : StW K c H (o :: sl) (t :: ρ) A) : ∃ B, StW K c H sl ρ B ∧ ∀ a, B.count a ≤ A.count a := by
  obtain ⟨u, s, ow, k⟩ := w
  cases s with
  | skip s => exact ⟨A, ⟨u, s, ow, k⟩, fun _ => Nat.le_refl _⟩
  | cons x r =>
    rename_i A1 B1
    have hb : ∀ a, B1.count a ≤ (A1 ++ B1).count a := fun a => by rw [List.count_append]; omega
    exact ⟨B1, ⟨fun a => Nat.le_trans (hb a) (u a), r.mono (.sub fun a _ => Fok.sub hb a) fun _ _ => rfl, fun a ha => ow a (List.mem_append_right _ ha), k⟩, hb⟩
theorem StR.drop {o : Option V} {t : Option T} (h : StR K c H (o :: sl) (t :: ρ)) : StR K c H sl ρ := let ⟨_, w⟩ := h; let ⟨B, w', _⟩ := w.drop; ⟨B, w'⟩
theorem StR.len (h : StR K c H sl ρ) : sl.length = ρ.length := let ⟨_, w⟩ := h; w.slots.len
/-- a datum pushed -/
theorem StW.pushD {v : V} {x : PyData} (w : StW K c H sl ρ A) (f : Fz K (Fok c A) H v x) : StW K c H (some v :: sl) (some (.d x) :: ρ) A := ⟨w.uniq, .cons (A := []) (.d f) w.slots, w.own, w.keep⟩
/-- the top's parts -/
theorem StW.top {v : V} {t : T} (w : StW K c H (some v :: sl) (some t :: ρ) A) : ∃ A1 B, A = A1 ++ B ∧ Rp K (Fok c A) H v t A1 ∧ Sl K (Fok c A) H sl ρ B := by
  obtain ⟨u, s, ow, k⟩ := w
  cases s with
  | cons x r => exact ⟨_, _, rfl, x, r⟩
theorem StW.topD {v : V} {x : PyData} (w : StW K c H (some v :: sl) (some (.d x) :: ρ) A) : Fz K (Fok c A) H v x ∧ StW K c H sl ρ A := by
  obtain ⟨u, s, ow, k⟩ := w
  cases s with
  | cons x r =>
    cases x with
    | d f => exact ⟨f, u, r, ow, k⟩
end


/-! ### slots: one looked at, stored, emptied -/
section
variable {K : PySem.W.Frag} {F F' : Addr → Prop} {H H' : Hp}
/-- what is left around a slot: B; a new thing may come into its place -/
structure Around1 (K : PySem.W.Frag) (F : Addr → Prop) (H : Hp) (i : Nat) (sl : List (Option V)) (ρ : Env) (B : List Addr) : Prop where
  put : ∀ {F' : Addr → Prop} {H' : Hp}, Mono F F' H H' → (∀ a ∈ B, H' a = H a) → ∀ {v' : V} {t' : T} {A2 : List Addr}, Rp K F' H' v' t' A2 →
    ∃ C, Sl K F' H' (sl.set i (some v')) (ρ.set i (some t')) C ∧ ∀ a, C.count a = A2.count a + B.count a
  gone : ∀ o : Option V, ∃ C, Sl K F H (sl.set i o) (ρ.set i none) C ∧ ∀ a, C.count a = B.count a
theorem Sl.around : ∀ {sl : List (Option V)} {ρ : Env} {A : List Addr}, Sl K F H sl ρ A → ∀ {i : Nat}, i < sl.length → ∃ B, (∀ a, B.count a ≤ A.count a) ∧ Around1 K F H i sl ρ B ∧
    ∀ t, ρ[i]? = some (some t) → ∃ v A1, sl[i]? = some (some v) ∧ Rp K F H v t A1 ∧ ∀ a, A.count a = A1.count a + B.count a
  | _, _, _, .nil, i, h => by simp at h
  | _, _, _, .skip (o := o) (sl := sl) (ρ := ρ) (A := A) r, 0, h => by
    refine ⟨A, fun _ => Nat.le_refl _, ⟨fun m k v' t' A2 x => ⟨A2 ++ A, .cons x (r.mono m k), fun a => by rw [List.count_append]⟩, fun o' => ⟨A, .skip r, fun _ => rfl⟩⟩, fun t e => by simp at e⟩
  | _, _, _, .cons (v := v) (t := t) (A := A) (B := B) x r, 0, h => by
    refine ⟨B, fun a => by rw [List.count_append]; omega, ⟨fun m k v' t' A2 y => ⟨A2 ++ B, .cons y (r.mono m k), fun a => by rw [List.count_append]⟩, fun o' => ⟨B, .skip r, fun _ => rfl⟩⟩, fun t' e => ?_⟩
    have e' : t = t' := by simpa using e
    subst e'
    exact ⟨v, A, rfl, x, fun a => by rw [List.count_append]⟩
  | _, _, _, .skip (o := o) (A := A) r, i + 1, h => by
    obtain ⟨B, hb, ar, q⟩ := r.around (i := i) (by simpa using h)
    refine ⟨B, hb, ⟨fun m k v' t' A2 x => ?_, fun o' => ?_⟩, fun t e => ?_⟩
    · obtain ⟨C, s, z⟩ := ar.put m k x
      exact ⟨C, .skip s, z⟩
    · obtain ⟨C, s, z⟩ := ar.gone o'
      exact ⟨C, .skip s, z⟩
    · obtain ⟨v, A1, e1, x, z⟩ := q t (by simpa using e)
      exact ⟨v, A1, by simpa using e1, x, z⟩
  | _, _, _, .cons (v := w) (t := t0) (A := A0) (B := B0) y r, i + 1, h => by
    obtain ⟨B, hb, ar, q⟩ := r.around (i := i) (by simpa using h)
    refine ⟨A0 ++ B, fun a => by rw [List.count_append, List.count_append]; have := hb a; omega, ⟨fun m k v' t' A2 x => ?_, fun o' => ?_⟩, fun t e => ?_⟩
    · obtain ⟨C, s, z⟩ := ar.put m (fun a ha => k a (List.mem_append_right _ ha)) x
      exact ⟨A0 ++ C, .cons (y.mono m fun a ha => k a (List.mem_append_left _ ha)) s, fun a => by rw [List.count_append, List.count_append, z a]; omega⟩
    · obtain ⟨C, s, z⟩ := ar.gone o'
      exact ⟨A0 ++ C, .cons y s, fun a => by rw [List.count_append, List.count_append, z a]⟩
    · obtain ⟨v, A1, e1, x, z⟩ := q t (by simpa using e)
      exact ⟨v, A1, by simpa using e1, x, fun a => by rw [List.count_append, List.count_append, z a]; omega⟩
/-- a thing comes up from the middle -/
theorem Sl.raise : ∀ {xs : List (Option V)} {as : Env} {ys : List (Option V)} {bs : Env} {v : V} {t : T} {A : List Addr}, xs.length = as.length → Sl K F H (xs ++ some v :: ys) (as ++ some t :: bs) A →
    ∃ C, Sl K F H (some v :: (xs ++ ys)) (some t :: (as ++ bs)) C ∧ ∀ a, C.count a = A.count a
  | [], [], _, _, _, _, A, _, h => ⟨A, h, fun _ => rfl⟩
  | o :: xs, a :: as, ys, bs, v, t, _, hl, h => by
    have hl' : xs.length = as.length := by simpa using hl
    cases h with
    | skip r =>
      obtain ⟨C, s, z⟩ := r.raise hl'
      cases s with
      | cons x s => exact ⟨_, .cons x (.skip s), z⟩
    | cons y r =>
      rename_i u t0 A1 B1
      obtain ⟨C, s, z⟩ := r.raise hl'
      cases s with
      | cons x s =>
        rename_i A2 B2
        exact ⟨_, .cons x (.cons y s), fun a => by have := z a; simp only [List.count_append] at this ⊢; omega⟩
  | [], _ :: _, _, _, _, _, _, hl, _ => by simp at hl
  | _ :: _, [], _, _, _, _, _, hl, _ => by simp at hl
end
section
variable {K : PySem.W.Frag} {c : C0} {H H' : Hp} {sl : List (Option V)} {ρ : Env} {A : List Addr}
/-- a state put together anew over the same heap -/
theorem StW.remake {sl' : List (Option V)} {ρ' : Env} {C : List Addr} (w : StW K c H sl ρ A) (hc : ∀ a, C.count a ≤ A.count a) (s : Sl K (Fok c A) H sl' ρ' C) : StW K c H sl' ρ' C :=
  ⟨fun a => Nat.le_trans (hc a) (w.uniq a), s.mono (.sub fun a _ => Fok.sub hc a) fun _ _ => rfl, fun a ha => w.own a (by
    have := List.count_pos_iff.mpr ha
    have := hc a
    exact List.count_pos_iff.mp (by omega)), w.keep⟩
theorem StR.raise {xs : List (Option V)} {as : Env} {ys : List (Option V)} {bs : Env} {v : V} {t : T} (hl : xs.length = as.length) (h : StR K c H (xs ++ some v :: ys) (as ++ some t :: bs)) : StR K c H (some v :: (xs ++ ys)) (some t :: (as ++ bs)) := by
  obtain ⟨A, w⟩ := h
  obtain ⟨C, s, z⟩ := w.slots.raise hl
  exact ⟨C, w.remake (fun a => Nat.le_of_eq (z a)) s⟩
/-- a new object is laid: what is frozen stays -/
theorem Fok.fresh {p : Addr} (hp : H p = none) : Mono (Fok c A) (Fok c (p :: A)) H H :=
  .sub fun a ha ⟨x, y⟩ => ⟨x, fun z => by
    rcases List.mem_cons.mp z with e | e
    · exact ha (by rw [e]; exact hp)
    · exact y e⟩
theorem StW.not_mem_of_none {p : Addr} (w : StW K c H sl ρ A) (hp : H p = none) : p ∉ A := fun ha => by
  rcases w.slots.own p ha with ⟨xs, e⟩ | ⟨xs, e⟩ <;> (rw [hp] at e; cases e)
end

/-! ### what an expression comes to -/
def SimE (K : PySem.W.Frag) (E : Str → Hp → Prop) (gr : Bool) (te : TE) (m : MEx) : Prop :=
  ∀ (c : C0) (H : Hp) (tv : List (Option V)) (td : Env) (σ : L2.St) (ρ : Env), tv.length = td.length → StR K c H (tv ++ σ) (td ++ ρ) → ∀ Q : VK,
    Then (m ρ) (fun r => ∀ v H', (gr = true → Same H H') → StR K c H' (some v :: (tv ++ σ)) (some r.1 :: (td ++ r.2)) → Q v H') (fun x => ∀ H', KeepC c H' → E x H') → te σ H Q
/-- gr: the heap only grows -/
structure QE (X : Cx) (E : Str → Hp → Prop) (gr : Bool) (e : Expr) (te : TE) (m : MEx) : Prop where
  pe : PE X e te
  sim : SimE X.K E gr te m
theorem SimE.weak {K : PySem.W.Frag} {E : Str → Hp → Prop} {gr : Bool} {te : TE} {m : MEx} (h : SimE K E gr te m) : SimE K E false te m := fun c H tv td σ ρ hl st Q q =>
  h c H tv td σ ρ hl st Q (q.imp fun _ k v H' _ s => k v H' (fun z => nomatch z) s)
end L3
/-! L3b -/
/-! L3b: expressions. -/
namespace L3
open PySem PySem.Spec PyProof.Rows L2

/-! ### data of a tree -/
mutual
def T.fz : T → Option PyData
  | .d x => some x
  | .ol ts => (T.fzAll ts).map PyData.list
  | .ot ts => (T.fzAll ts).map PyData.tuple
  | _ => none
def T.fzAll : List T → Option (List PyData)
  | [] => some []
  | t :: r => (T.fz t).bind fun x => (T.fzAll r).map fun xs => x :: xs
end
mutual
def T.toD : T → Option PyData
  | .d x => some x
  | .ol ts => (T.toDAll ts).map PyData.list
  | .ot ts => (T.toDAll ts).map PyData.tuple
  | .rd ds => some (.list ds)
  | .od _ _ => none
  | .ex _ => none
def T.toDAll : List T → Option (List PyData)
  | [] => some []
  | t :: r => (T.toD t).bind fun x => (T.toDAll r).map fun xs => x :: xs
end
section
variable {K : PySem.W.Frag} {F F' : Addr → Prop} {H H' : Hp}
mutual
theorem Rp.freeze : ∀ {t : T} {v : V} {A : List Addr} {x : PyData}, Rp K F H v t A → (∀ a, H a ≠ none → F a → F' a) → (∀ a ∈ A, F' a) → t.fz = some x → Fz K F' H v x
  | .d y, _, _, x, .d h, f, _, e => by
    have e' : y = x := Option.some.inj (by simpa [T.fz] using e)
    subst e'
    exact h.mono (.sub f)
  | .ol ts, _, _, x, .ol h r, f, k, e => by
    simp only [T.fz, Option.map_eq_some_iff] at e
    obtain ⟨xs, e1, e2⟩ := e
    subst e2
    exact .lst h (k _ List.mem_cons_self) (RpAll.freeze r f (fun a ha => k a (List.mem_cons_of_mem _ ha)) e1)
  | .ot ts, _, _, x, .ot h r, f, k, e => by
    simp only [T.fz, Option.map_eq_some_iff] at e
    obtain ⟨xs, e1, e2⟩ := e
    subst e2
    exact .tup (.of h) (RpAll.freeze r f k e1)
  | .od _ _, _, _, x, _, _, _, e => by simp [T.fz] at e
  | .rd _, _, _, x, _, _, _, e => by simp [T.fz] at e
theorem RpAll.freeze : ∀ {ts : List T} {vs : List V} {A : List Addr} {xs : List PyData}, RpAll K F H vs ts A → (∀ a, H a ≠ none → F a → F' a) → (∀ a ∈ A, F' a) → T.fzAll ts = some xs → FzAll K F' H vs xs
  | [], _, _, xs, .nil, _, _, e => by
    have e' : [] = xs := Option.some.inj (by simpa [T.fzAll] using e)
    subst e'
    exact .nil
  | t :: r, _, _, xs, .cons h hr, f, k, e => by
    simp only [T.fzAll, Option.bind_eq_some_iff, Option.map_eq_some_iff] at e
    obtain ⟨y, e1, ys, e2, e3⟩ := e
    subst e3
    exact .cons (Rp.freeze h f (fun a ha => k a (List.mem_append_left _ ha)) e1) (RpAll.freeze hr f (fun a ha => k a (List.mem_append_right _ ha)) e2)
end
mutual
theorem Fz.dp : ∀ {v : V} {x : PyData}, Fz K F H v x → Dp K H v x
  | _, _, .non => .non
  | _, _, .bl b => .bl b
  | _, _, .int i => .int i
  | _, _, .str x => .str x
  | _, _, .lst h _ a => .lst (.of h) (FzAll.dp a)
  | _, _, .tup h a => .tup h (FzAll.dp a)
theorem FzAll.dp : ∀ {vs : List V} {xs : List PyData}, FzAll K F H vs xs → DpAll K H vs xs
  | _, _, .nil => .nil
  | _, _, .cons h a => .cons (Fz.dp h) (FzAll.dp a)
end
mutual
theorem Rp.dp : ∀ {t : T} {v : V} {A : List Addr} {x : PyData}, Rp K F H v t A → t.toD = some x → Dp K H v x
  | .d y, _, _, x, .d h, e => by
    have e' : y = x := Option.some.inj (by simpa [T.toD] using e)
    subst e'
    exact h.dp
  | .ol ts, _, _, x, .ol h r, e => by
    simp only [T.toD, Option.map_eq_some_iff] at e
    obtain ⟨xs, e1, e2⟩ := e
    subst e2
    exact .lst (.of h) (RpAll.dp r e1)
  | .ot ts, _, _, x, .ot h r, e => by
    simp only [T.toD, Option.map_eq_some_iff] at e
    obtain ⟨xs, e1, e2⟩ := e
    subst e2
    exact .tup (.of h) (RpAll.dp r e1)
  | .rd ds, _, _, x, .rd h r, e => by
    have e' : PyData.list ds = x := Option.some.inj (by simpa [T.toD] using e)
    subst e'
    exact .lst h.sq r.dp
  | .od _ _, _, _, x, _, e => by simp [T.toD] at e
  | .ex _, _, _, x, _, e => by simp [T.toD] at e
theorem RpAll.dp : ∀ {ts : List T} {vs : List V} {A : List Addr} {xs : List PyData}, RpAll K F H vs ts A → T.toDAll ts = some xs → DpAll K H vs xs
  | [], _, _, xs, .nil, e => by
    have e' : [] = xs := Option.some.inj (by simpa [T.toDAll] using e)
    subst e'
    exact .nil
  | t :: r, _, _, xs, .cons h hr, e => by
    simp only [T.toDAll, Option.bind_eq_some_iff, Option.map_eq_some_iff] at e
    obtain ⟨y, e1, ys, e2, e3⟩ := e
    subst e3
    exact .cons (Rp.dp h e1) (RpAll.dp hr e2)
end
end

/-! ### names and constants -/
section
variable {X : Cx} {E : Str → Hp → Prop}
theorem app_at {α : Type} {xs ys : List α} {n i : Nat} (h : xs.length = n) : (xs ++ ys)[n + i]? = ys[i]? := by
  subst h
  rw [List.getElem?_append_right (by omega)]
  congr 1
  omega
theorem app_set {α : Type} {ys : List α} {i : Nat} {y : α} : ∀ {xs : List α} {n : Nat}, xs.length = n → (xs ++ ys).set (n + i) y = xs ++ ys.set i y
  | [], n, h => by subst h; simp
  | x :: xs, n, h => by
    subst h
    have e : (x :: xs).length + i = (xs.length + i) + 1 := by simp; omega
    rw [e]
    show x :: (xs ++ ys).set (xs.length + i) y = _
    rw [app_set rfl]
    rfl
theorem set_self {α : Type} : ∀ {xs : List α} {i : Nat} {a : α}, xs[i]? = some a → xs.set i a = xs
  | [], _, _, h => by simp at h
  | x :: xs, 0, a, h => by simp at h; subst h; rfl
  | x :: xs, i + 1, a, h => by
    show x :: xs.set i a = x :: xs
    rw [set_self (by simpa using h)]
def mC (x : PyData) : MEx := fun ρ => .ok (.d x, ρ)
theorem sim_c {K : PySem.W.Frag} {v : V} {x : PyData} (h : ∀ F H, Fz K F H v x) : SimE K E true (tC v) (mC x) := by
  intro c H tv td σ ρ hl st Q q
  obtain ⟨A, w⟩ := st
  exact q v H (fun _ => Same.refl H) ⟨A, w.pushD (h _ _)⟩
theorem qe_int {i : Int} {j : Nat} {pos : Pos} : QE X E true (.Constant (.int i) j pos) (tC (.int i)) (mC (.int i)) := ⟨pe_int, sim_c fun _ _ => .int i⟩
theorem qe_bl {b : Bool} {j : Nat} {pos : Pos} : QE X E true (.Constant (.bool b) j pos) (tC (.bl b)) (mC (.bool b)) := ⟨pe_bl, sim_c fun _ _ => .bl b⟩
theorem qe_non {j : Nat} {pos : Pos} : QE X E true (.Constant .none j pos) (tC .non) (mC .none) := ⟨pe_non, sim_c fun _ _ => .non⟩
theorem qe_str {x : Str} {j : Nat} {pos : Pos} : QE X E true (.Constant (.str x) j pos) (tC (.str x)) (mC (.str x)) := ⟨pe_str, sim_c fun _ _ => .str x⟩

/-- a name, read: a tree is frozen where it stands -/
def mVar (i : Nat) : MEx := fun ρ => match ρ[i]? with
  | some (some (.d x)) => .ok (.d x, ρ)
  | some (some t) => (match t.fz with | some x => .ok (.d x, ρ.set i (some (.d x))) | none => .bad)
  | _ => .bad
/-- a name, its tree taken away -/
def mMove (i : Nat) : MEx := fun ρ => match ρ[i]? with
  | some (some t) => .ok (t, ρ.set i none)
  | _ => .bad
theorem sim_var {K : PySem.W.Frag} (i : Nat) : SimE K E true (tVar i) (mVar i) := by
  intro c H tv td σ ρ hl st Q q
  obtain ⟨A, w⟩ := st
  have hlen := w.slots.len
  unfold mVar at q
  cases e : ρ[i]? with
  | none => rw [e] at q; exact q.elim
  | some o =>
    cases o with
    | none => rw [e] at q; exact q.elim
    | some t =>
      have hi : i < ρ.length := (List.getElem?_eq_some_iff.mp e).1
      have hi2 : tv.length + i < (tv ++ σ).length := by
        rw [hlen, List.length_append]; omega
      have e2 : (td ++ ρ)[tv.length + i]? = some (some t) := by rw [app_at hl.symm, e]
      obtain ⟨B, hb, ar, get⟩ := w.slots.around hi2
      obtain ⟨v, A1, e3, x, hc⟩ := get t e2
      rw [app_at rfl] at e3
      rw [e] at q
      have key : ∀ y : PyData, t.fz = some y → (∀ v H', (true = true → Same H H') → StR K c H' (some v :: (tv ++ σ)) (some (.d y) :: (td ++ ρ.set i (some (.d y)))) → Q v H') → tVar i σ H Q := by
        intro y ey qq
        refine ⟨v, e3, qq v H (fun _ => Same.refl H) ?_⟩
        have hBA : ∀ a, B.count a ≤ A.count a := hb
        have fsub : ∀ a, H a ≠ none → Fok c A a → Fok c B a := fun a _ => Fok.sub hBA a
        have own1 : ∀ a ∈ A1, Fok c B a := fun a ha => by
          have h1 := List.count_pos_iff.mpr ha
          have h2 := hc a
          have h3 := w.uniq a
          refine ⟨?_, fun z => ?_⟩
          · rcases w.own a (List.count_pos_iff.mp (by omega)) with z | z
            · exact .inr (.inr z)
            · exact .inr (.inl z)
          · have := List.count_pos_iff.mpr z
            omega
        have fx : Fz K (Fok c B) H v y := x.freeze fsub own1 ey
        obtain ⟨C, s, z⟩ := ar.put (Mono.sub fsub) (fun _ _ => rfl) (.d fx)
        have hsl : (tv ++ σ).set (tv.length + i) (some v) = tv ++ σ := by
          rw [app_set rfl, set_self e3]
        rw [hsl, app_set hl.symm] at s
        have zc : ∀ a, C.count a = B.count a := fun a => by rw [z a]; simp
        refine ⟨C, ⟨fun a => ?_, ?_, fun a ha => ?_, w.keep⟩⟩
        · rw [zc a]; exact Nat.le_trans (hBA a) (w.uniq a)
        · have m : Mono (Fok c B) (Fok c C) H H := .sub fun a _ => Fok.sub (fun a => Nat.le_of_eq (zc a)) a
          exact .cons (A := []) (.d (fx.mono m)) (s.mono m fun _ _ => rfl)
        · refine w.own a (List.count_pos_iff.mp ?_)
          have := List.count_pos_iff.mpr ha
          have := zc a
          have := hBA a
          omega
      cases t with
      | d y =>
        refine key y (by simp [T.fz]) fun v' H' sm' st' => ?_
        have e4 : ρ.set i (some (.d y)) = ρ := set_self e
        rw [e4] at st'
        exact q v' H' sm' st'
      | ol ts =>
        dsimp only at q
        cases ez : (T.ol ts).fz with
        | none => rw [ez] at q; exact q.elim
        | some y => rw [ez] at q; exact key y ez q
      | ot ts =>
        dsimp only at q
        cases ez : (T.ot ts).fz with
        | none => rw [ez] at q; exact q.elim
        | some y => rw [ez] at q; exact key y ez q
      | od ks ts =>
        dsimp only at q
        cases ez : (T.od ks ts).fz with
        | none => rw [ez] at q; exact q.elim
        | some y => rw [ez] at q; exact key y ez q
      | rd ds =>
        dsimp only at q
        cases ez : (T.rd ds).fz with
        | none => rw [ez] at q; exact q.elim
        | some y => rw [ez] at q; exact key y ez q
      | ex xn =>
        dsimp only at q
        cases ez : (T.ex xn).fz with
        | none => rw [ez] at q; exact q.elim
        | some y => rw [ez] at q; exact key y ez q
theorem sim_move {K : PySem.W.Frag} (i : Nat) : SimE K E true (tVar i) (mMove i) := by
  intro c H tv td σ ρ hl st Q q
  obtain ⟨A, w⟩ := st
  have hlen := w.slots.len
  unfold mMove at q
  cases e : ρ[i]? with
  | none => rw [e] at q; exact q.elim
  | some o =>
    cases o with
    | none => rw [e] at q; exact q.elim
    | some t =>
      have hi : i < ρ.length := (List.getElem?_eq_some_iff.mp e).1
      have hi2 : tv.length + i < (tv ++ σ).length := by
        rw [hlen, List.length_append]; omega
      have e2 : (td ++ ρ)[tv.length + i]? = some (some t) := by rw [app_at hl.symm, e]
      obtain ⟨B, hb, ar, get⟩ := w.slots.around hi2
      obtain ⟨v, A1, e3, x, hc⟩ := get t e2
      rw [app_at rfl] at e3
      rw [e] at q
      refine ⟨v, e3, q v H (fun _ => Same.refl H) ?_⟩
      obtain ⟨C, s, z⟩ := ar.gone (some v)
      have hsl : (tv ++ σ).set (tv.length + i) (some v) = tv ++ σ := by
        rw [app_set rfl, set_self e3]
      rw [hsl, app_set hl.symm] at s
      refine ⟨A1 ++ C, w.remake (fun a => ?_) (.cons x s)⟩
      rw [List.count_append, z a, hc a]
      exact Nat.le_refl _
theorem qe_var (i : Nat) {x : Str} {pos : Pos} (hN : X.N[i]? = some x := by rfl) (hv : Vis X.env.scope x := by first | exact Or.inl rfl | exact Or.inr (Or.inl rfl) | exact Or.inr (Or.inr rfl)) (hd : (x == ("__debug__" : Str)) = false := by decide)
    (hcd : (x == ("__classdict__" : Str)) = false := by decide) : QE X E true (.Name x pos) (tVar i) (mVar i) := ⟨pe_var hN hv hd hcd, sim_var i⟩
theorem qe_move (i : Nat) {x : Str} {pos : Pos} (hN : X.N[i]? = some x := by rfl) (hv : Vis X.env.scope x := by first | exact Or.inl rfl | exact Or.inr (Or.inl rfl) | exact Or.inr (Or.inr rfl)) (hd : (x == ("__debug__" : Str)) = false := by decide)
    (hcd : (x == ("__classdict__" : Str)) = false := by decide) : QE X E true (.Name x pos) (tVar i) (mMove i) := ⟨pe_var hN hv hd hcd, sim_move i⟩
end

/-! ### two-place operations -/
inductive RV where
  | v (t : T) | nl (ds : List PyData) | nt (ds : List PyData)
def RV.toT : RV → T
  | .v t => t
  | .nl ds => .ol (ds.map T.d)
  | .nt ds => .d (.tuple ds)
section
variable {K : PySem.W.Frag} {F F' : Addr → Prop} {H H' : Hp}
def RVto (K : PySem.W.Frag) (F : Addr → Prop) (H : Hp) (A : List Addr) (Q : VK) : RV → Prop
  | .v t => ∀ w C, Rp K F H w t C → (∀ a, C.count a ≤ A.count a) → Q w H
  | .nl ds => ∀ p ws, H p = none → FzAll K F H ws ds → Q (.ref p) (upd H p (.lst ws))
  | .nt ds => ∀ p ws, H p = none → FzAll K F H ws ds → Q (.ref p) (upd H p (.tup ws))
def OpV (K : PySem.W.Frag) (r : R2) (op : T → T → R RV) : Prop := ∀ (F : Addr → Prop) (H : Hp) (v u : V) (x y : T) (A B : List Addr), Rp K F H v x A → Rp K F H u y B → ∀ Q : VK, Then (op x y) (RVto K F H (A ++ B) Q) (fun _ => False) → r v u H Q
def UnV (K : PySem.W.Frag) (r : V → Hp → VK → Prop) (op : T → R RV) : Prop := ∀ (F : Addr → Prop) (H : Hp) (v : V) (x : T) (A : List Addr), Rp K F H v x A → ∀ Q : VK, Then (op x) (RVto K F H A Q) (fun _ => False) → r v H Q
theorem RpAll.ofFz : ∀ {ws : List V} {ds : List PyData}, FzAll K F H ws ds → RpAll K F H ws (ds.map T.d) []
  | _, _, .nil => .nil
  | _, _, .cons h a => .cons (A := []) (B := []) (.d h) (RpAll.ofFz a)
/-- what an operation gives, on top of what was below its operands -/
theorem StW.result {c : C0} {sl : List (Option V)} {ρ : Env} {A A1 B : List Addr} (hc : ∀ a, A1.count a + B.count a ≤ A.count a) (u : ∀ a, A.count a ≤ 1) (ow : ∀ a ∈ A, a ∈ c.A0 ∨ c.H0 a = none) (k : KeepC c H)
    (s : Sl K (Fok c A) H sl ρ B) {Q : VK} {z : RV} (q : ∀ v H', Same H H' → StR K c H' (some v :: sl) (some z.toT :: ρ) → Q v H') : RVto K (Fok c A) H A1 Q z := by
  have mem : ∀ {C : List Addr}, (∀ a, C.count a ≤ A.count a) → ∀ a ∈ C, a ∈ A := fun h a ha => List.count_pos_iff.mp (Nat.lt_of_lt_of_le (List.count_pos_iff.mpr ha) (h a))
  have there : ∀ a ∈ B, H a ≠ none := fun a ha e => by
    rcases s.own a ha with ⟨xs, z⟩ | ⟨xs, z⟩ <;> (rw [e] at z; cases z)
  cases z with
  | v t =>
    intro w C x hC
    have hCB : ∀ a, (C ++ B).count a ≤ A.count a := fun a => by rw [List.count_append]; have := hC a; have := hc a; omega
    exact q w H (Same.refl H) ⟨C ++ B, fun a => Nat.le_trans (hCB a) (u a), (Sl.cons x s).mono (.sub fun a _ => Fok.sub hCB a) fun _ _ => rfl, fun a ha => ow a (mem hCB a ha), k⟩
  | nl ds =>
    intro p ws hp fz
    have hB : ∀ a, B.count a ≤ A.count a := fun a => by have := hc a; omega
    have m0 : Mono (Fok c A) (Fok c (p :: B)) H H := .sub fun a ha ⟨x, y⟩ => ⟨x, fun z => by
      rcases List.mem_cons.mp z with e | e
      · exact ha (by rw [e]; exact hp)
      · exact y (mem hB a e)⟩
    have sm := same_upd (o := .lst ws) hp
    have x1 : Rp K (Fok c (p :: B)) (upd H p (.lst ws)) (.ref p) (.ol (ds.map T.d)) [p] := .ol upd_same (RpAll.ofFz ((fz.mono m0).mono (.same sm)))
    have s1 : Sl K (Fok c (p :: B)) (upd H p (.lst ws)) sl ρ B := (s.mono m0 fun _ _ => rfl).mono (.same sm) fun a ha => by rw [upd_ne (fun e => there a ha (by rw [e]; exact hp))]
    refine q _ _ sm ⟨[p] ++ B, fun a => ?_, .cons x1 s1, fun a ha => ?_, k.grow sm⟩
    · rw [List.count_append, List.count_singleton]
      have h1 := hB a
      have h2 := u a
      by_cases e : p = a
      · subst e
        have : B.count p = 0 := List.count_eq_zero.mpr fun z => there p z hp
        simp [this]
      · have e' : (p == a) = false := by simpa using e
        simp [e']; omega
    · rcases List.mem_append.mp ha with z | z
      · have e : a = p := by simpa using z
        subst e
        exact .inr (k.there _ hp)
      · exact ow a (mem hB a z)
  | nt ds =>
    intro p ws hp fz
    have hB : ∀ a, B.count a ≤ A.count a := fun a => by have := hc a; omega
    have m0 : Mono (Fok c A) (Fok c B) H H := .sub fun a _ => Fok.sub hB a
    have sm := same_upd (o := .tup ws) hp
    have x1 : Rp K (Fok c B) (upd H p (.tup ws)) (.ref p) (.d (.tuple ds)) [] := .d (.tup (.of upd_same) ((fz.mono m0).mono (.same sm)))
    have s1 : Sl K (Fok c B) (upd H p (.tup ws)) sl ρ B := (s.mono m0 fun _ _ => rfl).mono (.same sm) fun a ha => by rw [upd_ne (fun e => there a ha (by rw [e]; exact hp))]
    exact q _ _ sm ⟨[] ++ B, fun a => Nat.le_trans (hB a) (u a), .cons x1 s1, fun a ha => ow a (mem hB a ha), k.grow sm⟩
end
section
variable {X : Cx} {E : Str → Hp → Prop} {a b : Expr} {ta tb : TE} {ma mb : MEx} {pos : Pos}
def mBin (op : T → T → R RV) (ma mb : MEx) : MEx := fun ρ => (ma ρ).bind fun x => (mb x.2).bind fun y => (op x.1 y.1).bind fun z => .ok (z.toT, y.2)
def mUn (op : T → R RV) (ma : MEx) : MEx := fun ρ => (ma ρ).bind fun x => (op x.1).bind fun z => .ok (z.toT, x.2)
theorem noexc {α : Type} {r : R α} {P : α → Prop} {P' : α → Prop} {E' : Str → Prop} (hx : ∀ c, r ≠ .exc c) (h : Then r P E') (hp : ∀ a, P a → P' a) : Then r P' (fun _ => False) := by
  cases r with
  | ok a => exact hp a h
  | exc c => exact (hx c rfl).elim
  | bad => exact h
/-- operations let nothing out -/
def NoX (op : T → T → R RV) : Prop := ∀ x y c, op x y ≠ .exc c
def NoX1 (op : T → R RV) : Prop := ∀ x c, op x ≠ .exc c
theorem sim_bin {K : PySem.W.Frag} {r : R2} {op : T → T → R RV} (ho : OpV K r op) (hx : NoX op) {g1 g2 : Bool} (sa : SimE K E g1 ta ma) (sb : SimE K E g2 tb mb) : SimE K E (g1 && g2) (tOp r ta tb) (mBin op ma mb) := by
  intro c H tv td σ ρ hl st Q q
  unfold mBin at q
  rw [then_bind] at q
  refine sa c H tv td σ ρ hl st _ (q.imp ?_)
  intro x q1 v H1 sm1 st1
  rw [then_bind] at q1
  refine sb c H1 (some v :: tv) (some x.1 :: td) σ x.2 (by simp [hl]) st1 _ (q1.imp ?_)
  intro y q2 u H2 sm2 st2
  rw [then_bind] at q2
  obtain ⟨A, w⟩ := st2
  obtain ⟨A1, B1, rfl, x1, s1⟩ := w.top
  cases s1 with
  | cons x2 s2 =>
    rename_i A2 B2
    refine ho _ H2 v u x.1 y.1 A2 A1 x2 x1 Q (noexc (hx _ _) q2 fun z q3 => ?_)
    refine StW.result (fun a => ?_) w.uniq w.own w.keep s2 fun v' H' sm' => q3 v' H' fun e => ?_
    · simp only [List.count_append]
      omega
    · rw [Bool.and_eq_true] at e
      exact ((sm1 e.1).trans (sm2 e.2)).trans sm'
theorem sim_un {K : PySem.W.Frag} {r : V → Hp → VK → Prop} {op : T → R RV} (ho : UnV K r op) (hx : NoX1 op) {g1 : Bool} (sa : SimE K E g1 ta ma) : SimE K E g1 (tUn r ta) (mUn op ma) := by
  intro c H tv td σ ρ hl st Q q
  unfold mUn at q
  rw [then_bind] at q
  refine sa c H tv td σ ρ hl st _ (q.imp ?_)
  intro x q1 v H1 sm1 st1
  rw [then_bind] at q1
  obtain ⟨A, w⟩ := st1
  obtain ⟨A1, B1, rfl, x1, s1⟩ := w.top
  refine ho _ H1 v x.1 A1 x1 Q (noexc (hx _) q1 fun z q3 => ?_)
  refine StW.result (fun a => ?_) w.uniq w.own w.keep s1 fun v' H' sm' => q3 v' H' fun e => (sm1 e).trans sm'
  rw [List.count_append]
  omega
end
end L3
/-! L3c -/
/-! L3c: the operations. -/
namespace L3
open PySem PySem.Spec PyProof.Rows L2

/-! ### looking at a tree -/
def T.allD : List T → Option (List PyData)
  | [] => some []
  | .d x :: r => (T.allD r).map fun xs => x :: xs
  | _ => none
def T.lst? : T → Option (List PyData)
  | .d (.list ds) => some ds
  | .ol ts => T.allD ts
  | _ => none
section
variable {K : PySem.W.Frag} {F F' : Addr → Prop} {H H' : Hp}
theorem allD_map : ∀ ds : List PyData, T.allD (ds.map T.d) = some ds
  | [] => rfl
  | x :: r => by
    show (T.allD (r.map T.d)).map (fun xs => x :: xs) = _
    rw [allD_map r]; rfl
theorem RpAll.data : ∀ {ts : List T} {vs : List V} {A : List Addr} {ds : List PyData}, RpAll K F H vs ts A → T.allD ts = some ds → FzAll K F H vs ds ∧ A = [] ∧ ts = ds.map T.d
  | [], _, _, ds, .nil, e => by
    have e' : [] = ds := Option.some.inj e
    subst e'
    exact ⟨.nil, rfl, rfl⟩
  | .d x :: r, _, _, ds, .cons h hr, e => by
    have e' : (T.allD r).map (fun xs => x :: xs) = some ds := e
    obtain ⟨ys, e1, e2⟩ := Option.map_eq_some_iff.mp e'
    subst e2
    obtain ⟨f, z, zz⟩ := hr.data e1
    cases h with
    | d h => exact ⟨.cons h f, by rw [z]; rfl, by rw [zz]; rfl⟩
  | .ol _ :: _, _, _, _, _, e => by cases e
  | .ot _ :: _, _, _, _, _, e => by cases e
  | .od _ _ :: _, _, _, _, _, e => by cases e
  | .rd _ :: _, _, _, _, _, e => by cases e
  | .ex _ :: _, _, _, _, _, e => by cases e
theorem Rp.lst? {x : T} {v : V} {A : List Addr} {ds : List PyData} (h : Rp K F H v x A) (e : x.lst? = some ds) : ∃ a vs, v = .ref a ∧ H a = some (.lst vs) ∧ FzAll K F H vs ds := by
  cases h with
  | d h =>
    cases h with
    | lst h1 h2 h3 =>
      have e' := Option.some.inj (by simpa [T.lst?] using e)
      subst e'
      exact ⟨_, _, rfl, h1, h3⟩
    | _ => simp [T.lst?] at e
  | ol h1 h2 => exact ⟨_, _, rfl, h1, (h2.data e).1⟩
  | ot _ _ => simp [T.lst?] at e
  | od _ _ _ => simp [T.lst?] at e
  | rd _ _ => simp [T.lst?] at e
  | ex _ _ _ => simp [T.lst?] at e
theorem FzAll.append : ∀ {vs ws : List V} {xs ys : List PyData}, FzAll K F H vs xs → FzAll K F H ws ys → FzAll K F H (vs ++ ws) (xs ++ ys)
  | _, _, _, _, .nil, h => h
  | _, _, _, _, .cons a r, h => .cons a (r.append h)
theorem Rp.i {v : V} {i : Int} {A : List Addr} (h : Rp K F H v (.d (.int i)) A) : v = .int i := by
  cases h with
  | d h => cases h; rfl
theorem Rp.b {v : V} {i : Bool} {A : List Addr} (h : Rp K F H v (.d (.bool i)) A) : v = .bl i := by
  cases h with
  | d h => cases h; rfl
theorem Rp.s {v : V} {i : Str} {A : List Addr} (h : Rp K F H v (.d (.str i)) A) : v = .str i := by
  cases h with
  | d h => cases h; rfl
theorem Rp.n {v : V} {A : List Addr} (h : Rp K F H v (.d .none) A) : v = .non := by
  cases h with
  | d h => cases h; rfl
theorem Rp.t {v : V} {xs : List PyData} {A : List Addr} (h : Rp K F H v (.d (.tuple xs)) A) : ∃ a vs, v = .ref a ∧ SqT K H a vs ∧ FzAll K F H vs xs := by
  cases h with
  | d h => cases h with
    | tup h r => exact ⟨_, _, rfl, h, r⟩
/-- a scalar result -/
theorem rv_d {Q : VK} {A : List Addr} {v : V} {x : PyData} (q : RVto K F H A Q (.v (.d x))) (f : Fz K F H v x) : Q v H := q v [] (.d f) fun _ => by simp
end

/-! ### arithmetic -/
def sLine : Nat := 16777216
theorem sLine_eq : sLine = sizeLine := sizeLine_eq.symm
def opAdd : T → T → R RV
  | .d (.int i), .d (.int j) => .ok (.v (.d (.int (i + j))))
  | .d (.int i), .d (.bool k) => .ok (.v (.d (.int (i + b2i k))))
  | .d (.str x), .d (.str y) => guard (decide (x.length + y.length ≤ sLine)) (.ok (.v (.d (.str (x ++ y)))))
  | .d (.tuple xs), .d (.tuple ys) => guard (!xs.isEmpty && !ys.isEmpty && decide (xs.length + ys.length ≤ sLine)) (.ok (.nt (xs ++ ys)))
  | x, y => match x.lst?, y.lst? with
    | some xs, some ys => guard (decide (xs.length + ys.length ≤ sLine)) (.ok (.nl (xs ++ ys)))
    | _, _ => .bad
abbrev rAddStr : R2 := fun x y H Q => ∃ i j, x = .str i ∧ y = .str j ∧ i.length + j.length ≤ sizeLine ∧ Q (.str (i ++ j)) H
abbrev rAddIB : R2 := fun x y H Q => ∃ i k, x = .int i ∧ y = .bl k ∧ Q (.int (i + b2i k)) H
def rAdd (K : PySem.W.Frag) : R2 := fun x y H Q => rI0 (fun i j => .int (i + j)) x y H Q ∨ (rAddIB x y H Q ∨ (rAddStr x y H Q ∨ (rCatT K x y H Q ∨ rCat x y H Q)))
theorem op_addA {X : Cx} : OpR X (binaryOp .Add) (rAdd X.K) := op_add.or (op_add_ib.or (op_add_str.or (op_catT.or op_cat)))
theorem guard_noexc {α : Type} {b : Bool} {r : R α} (h : ∀ c, r ≠ .exc c) (c : Str) : guard b r ≠ .exc c := by
  unfold guard
  cases b
  · (intro z; cases z)
  · exact h c
theorem opAdd_nox : NoX opAdd := by
  intro x y c
  unfold opAdd
  split
  · (intro z; cases z)
  · (intro z; cases z)
  · exact guard_noexc (by intro _ z; cases z) c
  · exact guard_noexc (by intro _ z; cases z) c
  · split
    · exact guard_noexc (by intro _ z; cases z) c
    · (intro z; cases z)
theorem opAdd_v {K : PySem.W.Frag} : OpV K (rAdd K) opAdd := by
  intro F H v u x y A B hx hy Q q
  unfold opAdd at q
  split at q
  · exact .inl ⟨_, _, hx.i, hy.i, rv_d q (.int _)⟩
  · exact .inr (.inl ⟨_, _, hx.i, hy.b, rv_d q (.int _)⟩)
  · obtain ⟨g, q⟩ := then_guard.mp q
    exact .inr (.inr (.inl ⟨_, _, hx.s, hy.s, by rw [← sLine_eq]; exact of_decide_eq_true g, rv_d q (.str _)⟩))
  · obtain ⟨g, q⟩ := then_guard.mp q
    simp only [Bool.and_eq_true, Bool.not_eq_true', List.isEmpty_eq_false_iff, decide_eq_true_eq] at g
    obtain ⟨a, vs, rfl, h1, f1⟩ := hx.t
    obtain ⟨b, ws, rfl, h2, f2⟩ := hy.t
    have l1 := f1.len
    have l2 := f2.len
    refine .inr (.inr (.inr (.inl ⟨a, b, vs, ws, rfl, rfl, h1, h2, fun e => ?_, by rw [l1, l2, ← sLine_eq]; exact g.2, fun e => ?_, fun _ p hp => q p _ hp (f1.append f2)⟩)))
    · subst e
      cases f1
      exact g.1.1 rfl
    · subst e
      cases f2
      exact (g.1.2 rfl).elim
  · split at q
    · rename_i xs ys e1 e2
      obtain ⟨g, q⟩ := then_guard.mp q
      obtain ⟨a, vs, rfl, h1, f1⟩ := hx.lst? e1
      obtain ⟨b, ws, rfl, h2, f2⟩ := hy.lst? e2
      exact .inr (.inr (.inr (.inr ⟨a, b, vs, ws, rfl, rfl, h1, h2, by rw [f1.len, f2.len, ← sLine_eq]; exact of_decide_eq_true g, fun p hp => q p _ hp (f1.append f2)⟩)))
    · exact q.elim
/-- two ints -/
def opI2 (g : Int → Int → Bool) (f : Int → Int → PyData) : T → T → R RV
  | .d (.int i), .d (.int j) => guard (g i j) (.ok (.v (.d (f i j))))
  | _, _ => .bad
theorem opI2_nox {g : Int → Int → Bool} {f : Int → Int → PyData} : NoX (opI2 g f) := by
  intro x y c
  unfold opI2
  split
  · exact guard_noexc (by intro _ z; cases z) c
  · (intro z; cases z)
theorem opI2_v {K : PySem.W.Frag} {g : Int → Int → Bool} {f : Int → Int → PyData} {C : Int → Int → Prop} {h : Int → Int → V} (hg : ∀ i j, g i j = true → C i j) (hf : ∀ (F : Addr → Prop) (H : Hp) i j, Fz K F H (h i j) (f i j)) : OpV K (rI C h) (opI2 g f) := by
  intro F H v u x y A B hx hy Q q
  unfold opI2 at q
  split at q
  · obtain ⟨e, q⟩ := then_guard.mp q
    exact ⟨_, _, hx.i, hy.i, hg _ _ e, rv_d q (hf _ _ _ _)⟩
  · exact q.elim
def yes2 : Int → Int → Bool := fun _ _ => true
def mulOk (i j : Int) : Bool := !(decide (Builtin.Int.intBits i > shortFactorBits) && decide (Builtin.Int.intBits j > shortFactorBits) && Builtin.Int.intTooBig (Builtin.Int.intBits i + Builtin.Int.intBits j))
def divOk (i j : Int) : Bool := decide (j ≠ 0) && !(Builtin.divisionGoesByPylong i j)
def modOk (_ j : Int) : Bool := decide (j ≠ 0)
def powOk (i j : Int) : Bool := decide (0 ≤ j ∧ j ≤ 1000000 ∧ i.natAbs < 2 ^ 64)
def opSub := opI2 yes2 fun i j => .int (i - j)
def opMulI := opI2 mulOk fun i j => .int (i * j)
def opMod := opI2 modOk fun i j => .int (i.fmod j)
def opFdiv := opI2 divOk fun i j => .int (i.fdiv j)
def opPow := opI2 powOk fun i j => .int (i ^ j.toNat)
def opLt := opI2 yes2 fun i j => .bool (decide (i < j))
def opLe := opI2 yes2 fun i j => .bool (decide (i ≤ j))
def opGt := opI2 yes2 fun i j => .bool (decide (j < i))
def opGe := opI2 yes2 fun i j => .bool (decide (j ≤ i))
theorem rI_of0 {X : Cx} {f : Value → Value → Sem Value} {h : Int → Int → V} (o : OpR X f (rI0 h)) : OpR X f (rI (fun _ _ => True) h) := fun pins s σ H x y v u Q I rx ry ⟨i, j, e1, e2, _, q⟩ => o pins s σ H x y v u Q I rx ry ⟨i, j, e1, e2, q⟩
section
variable {X : Cx}
theorem mulOk_iff {i j : Int} : mulOk i j = true ↔ IntMulOk i j := by
  unfold mulOk IntMulOk
  rw [Bool.not_eq_true', Bool.not_eq_true]
theorem op_subA : OpR X (binaryOp .Sub) (rI (fun _ _ => True) fun i j => .int (i - j)) := rI_of0 op_sub
theorem op_mulA : OpR X (binaryOp .Mult) (rI (fun i j => mulOk i j = true) fun i j => .int (i * j)) := opI fun _ _ _ _ _ _ _ hc q => mul_int q (mulOk_iff.mp hc)
theorem op_modA : OpR X (binaryOp .Mod) (rI (fun i j => modOk i j = true) fun i j => .int (i.fmod j)) := opI fun _ _ _ _ _ _ _ hc q => mod_int' (of_decide_eq_true hc) q
theorem op_fdivA : OpR X (binaryOp .FloorDiv) (rI (fun i j => divOk i j = true) fun i j => .int (i.fdiv j)) := opI fun _ _ _ _ _ _ _ hc q => by
  unfold divOk at hc
  simp only [Bool.and_eq_true, Bool.not_eq_true', decide_eq_true_eq] at hc
  exact floordiv_int hc.1 q (.inl hc.2)
theorem op_powA : OpR X (binaryOp .Pow) (rI (fun i j => powOk i j = true) fun i j => .int (i ^ j.toNat)) := opI fun i j _ _ _ _ _ hc q => by
  obtain ⟨h1, h2, h3⟩ := of_decide_eq_true (show decide (0 ≤ j ∧ j ≤ 1000000 ∧ i.natAbs < 2 ^ 64) = true from hc)
  exact pow_int_small h1 h2 h3 q
theorem op_ltA : OpR X (compareOp .Lt) (rI (fun _ _ => True) fun i j => .bl (decide (i < j))) := rI_of0 op_lt
theorem op_leA : OpR X (compareOp .LtE) (rI (fun _ _ => True) fun i j => .bl (decide (i ≤ j))) := rI_of0 op_le
theorem op_gtA : OpR X (compareOp .Gt) (rI (fun _ _ => True) fun i j => .bl (decide (j < i))) := rI_of0 op_gt
theorem op_geA : OpR X (compareOp .GtE) (rI (fun _ _ => True) fun i j => .bl (decide (j ≤ i))) := rI_of0 op_ge
end

/-! ### == and the like -/
def eqS : PyData → PyData → Option Bool
  | .int i, .int j => some (decide (i = j))
  | .bool i, .bool j => some (decide (i = j))
  | .str i, .str j => some (decide (i = j))
  | .none, .none => some true
  | _, _ => none
def eqD (x y : T) : R Bool := match x.toD, y.toD with
  | some a, some b => (match eqS a b with
    | some k => .ok k
    | none => guard (SeqAt.shaped a && SeqAt.shaped b) (.ok (PyData.eqv a b)))
  | _, _ => .bad
def opEq (x y : T) : R RV := (eqD x y).bind fun k => .ok (.v (.d (.bool k)))
def opNe (x y : T) : R RV := (eqD x y).bind fun k => .ok (.v (.d (.bool (!k))))
def rEqA (K : PySem.W.Frag) : R2 := fun x y H Q => rEq x y H Q ∨ rEqD K x y H Q
def rNeA (K : PySem.W.Frag) : R2 := fun x y H Q => rNe x y H Q ∨ rNeD K x y H Q
theorem op_eqA {X : Cx} (hu : X.A.units + 64 < cLine) : OpR X (compareOp .Eq) (rEqA X.K) := op_eq.or (op_eqD hu)
theorem op_neA {X : Cx} (hu : X.A.units + 64 < cLine) : OpR X (compareOp .NotEq) (rNeA X.K) := op_ne.or (op_neD hu)
theorem eqD_noexc {x y : T} (c : Str) : eqD x y ≠ .exc c := by
  unfold eqD
  split
  · split
    · (intro z; cases z)
    · exact guard_noexc (by intro _ z; cases z) c
  · (intro z; cases z)
theorem bind_noexc {α β : Type} {r : R α} {f : α → R β} (h1 : ∀ c, r ≠ .exc c) (h2 : ∀ a c, f a ≠ .exc c) (c : Str) : r.bind f ≠ .exc c := by
  cases r with
  | ok a => exact h2 a c
  | exc d => exact (h1 d rfl).elim
  | bad => (intro z; cases z)
theorem opEq_nox : NoX opEq := fun x y c => bind_noexc (fun _ => eqD_noexc _) (by intro _ _ z; cases z) c
theorem opNe_nox : NoX opNe := fun x y c => bind_noexc (fun _ => eqD_noexc _) (by intro _ _ z; cases z) c
section
variable {K : PySem.W.Frag} {F : Addr → Prop} {H : Hp}
theorem eqD_red {v u : V} {x y : T} {A B : List Addr} (hx : Rp K F H v x A) (hy : Rp K F H u y B) {P : Bool → Prop} (q : Then (eqD x y) P (fun _ => False)) :
    (∃ k, scal v u = true ∧ decide (v = u) = k ∧ P k) ∨ ∃ d e, Dp K H v d ∧ Dp K H u e ∧ SeqAt.shaped d = true ∧ SeqAt.shaped e = true ∧ P (PyData.eqv d e) := by
  unfold eqD at q
  split at q
  · rename_i a b e1 e2
    have d1 := hx.dp e1
    have d2 := hy.dp e2
    split at q
    · rename_i k ek
      refine .inl ⟨k, ?_⟩
      have q' : P k := q
      unfold eqS at ek
      split at ek
      · cases d1; cases d2; cases ek
        exact ⟨rfl, by simp [V.int.injEq], q'⟩
      · cases d1; cases d2; cases ek
        exact ⟨rfl, by simp [V.bl.injEq], q'⟩
      · cases d1; cases d2; cases ek
        exact ⟨rfl, by simp [V.str.injEq], q'⟩
      · cases d1; cases d2; cases ek
        exact ⟨rfl, by simp, q'⟩
      · cases ek
    · obtain ⟨g, q⟩ := then_guard.mp q
      rw [Bool.and_eq_true] at g
      exact .inr ⟨a, b, d1, d2, g.1, g.2, q⟩
  · exact q.elim
end
theorem opEq_v {K : PySem.W.Frag} : OpV K (rEqA K) opEq := by
  intro F H v u x y A B hx hy Q q
  have q' : Then (eqD x y) (fun k => Q (.bl k) H) (fun _ => False) := (then_bind.mp q).imp fun k h => rv_d h (.bl k)
  rcases eqD_red hx hy q' with ⟨k, s, e, q⟩ | ⟨d, e, h1, h2, h3, h4, q⟩
  · exact .inl ⟨s, by rw [e]; exact q⟩
  · exact .inr ⟨d, e, h1, h2, h3, h4, q⟩
theorem opNe_v {K : PySem.W.Frag} : OpV K (rNeA K) opNe := by
  intro F H v u x y A B hx hy Q q
  have q' : Then (eqD x y) (fun k => Q (.bl (!k)) H) (fun _ => False) := (then_bind.mp q).imp fun k h => rv_d h (.bl (!k))
  rcases eqD_red hx hy q' with ⟨k, s, e, q⟩ | ⟨d, e, h1, h2, h3, h4, q⟩
  · exact .inl ⟨s, by rw [e]; exact q⟩
  · exact .inr ⟨d, e, h1, h2, h3, h4, q⟩

/-! ### is None, in -/
def T.isNone : T → Bool
  | .d .none => true
  | _ => false
def opIsN (x y : T) : R RV := guard y.isNone (.ok (.v (.d (.bool x.isNone))))
def opNotN (x y : T) : R RV := guard y.isNone (.ok (.v (.d (.bool (!x.isNone)))))
theorem opIsN_nox : NoX opIsN := fun _ _ c => guard_noexc (by intro _ z; cases z) c
theorem opNotN_nox : NoX opNotN := fun _ _ c => guard_noexc (by intro _ z; cases z) c
theorem isNone_iff {K : PySem.W.Frag} {F : Addr → Prop} {H : Hp} {v : V} {x : T} {A : List Addr} (h : Rp K F H v x A) : decide (v = .non) = x.isNone := by
  cases h with
  | d h => cases h <;> rfl
  | _ => rfl
theorem opIsN_v {K : PySem.W.Frag} : OpV K rIsN opIsN := by
  intro F H v u x y A B hx hy Q q
  obtain ⟨g, q⟩ := then_guard.mp q
  rw [← isNone_iff hy] at g
  exact ⟨of_decide_eq_true g, rv_d q (by rw [isNone_iff hx]; exact .bl _)⟩
theorem opNotN_v {K : PySem.W.Frag} : OpV K rNotN opNotN := by
  intro F H v u x y A B hx hy Q q
  obtain ⟨g, q⟩ := then_guard.mp q
  rw [← isNone_iff hy] at g
  exact ⟨of_decide_eq_true g, rv_d q (by rw [isNone_iff hx]; exact .bl _)⟩

/-! ### subscripts -/
def opIdx : T → T → R RV
  | .d (.list ds), .d (.int i) => (ofO (atI ds i)).bind fun x => .ok (.v (.d x))
  | .d (.tuple ds), .d (.int i) => (ofO (atI ds i)).bind fun x => .ok (.v (.d x))
  | .d (.str z), .d (.int i) => guard (decide (z.length ≤ sLine)) ((ofO (atI z.cps.toList i)).bind fun c => .ok (.v (.d (.str ⟨#[c]⟩))))
  | .ol ts, .d (.int i) => (ofO (atI ts i)).bind fun x => .ok (.v x)
  | .ot ts, .d (.int i) => (ofO (atI ts i)).bind fun x => .ok (.v x)
  | .rd ds, .d (.int i) => (ofO (atI ds i)).bind fun x => .ok (.v (.d x))
  | _, _ => .bad
theorem ofO_noexc {α : Type} {o : Option α} (c : Str) : ofO o ≠ .exc c := by
  cases o <;> (intro z; cases z)
theorem opIdx_nox : NoX opIdx := by
  intro x y c
  unfold opIdx
  split
  · exact bind_noexc (fun _ => ofO_noexc _) (by intro _ _ z; cases z) c
  · exact bind_noexc (fun _ => ofO_noexc _) (by intro _ _ z; cases z) c
  · exact guard_noexc (bind_noexc (fun _ => ofO_noexc _) (by intro _ _ z; cases z)) c
  · exact bind_noexc (fun _ => ofO_noexc _) (by intro _ _ z; cases z) c
  · exact bind_noexc (fun _ => ofO_noexc _) (by intro _ _ z; cases z) c
  · exact bind_noexc (fun _ => ofO_noexc _) (by intro _ _ z; cases z) c
  · (intro z; cases z)
section
variable {K : PySem.W.Frag} {F : Addr → Prop} {H : Hp}
theorem atI_rel {α β : Type} {xs : List α} {ys : List β} (hl : ys.length = xs.length) {P : α → β → Prop} (g : ∀ (j : Nat) (x : α), xs[j]? = some x → ∃ y, ys[j]? = some y ∧ P x y) {i : Int} {x : α} (h : atI xs i = some x) : ∃ y, atI ys i = some y ∧ P x y := by
  unfold atI at h ⊢
  rw [hl]
  obtain ⟨j, e1, e2⟩ := Option.bind_eq_some_iff.mp h
  obtain ⟨y, e3, p⟩ := g j x e2
  exact ⟨y, by rw [e1]; exact e3, p⟩
end
theorem opIdx_v {K : PySem.W.Frag} : OpV K (rIx K) opIdx := by
  intro F H v u x y A B hx hy Q q
  unfold opIdx at q
  split at q
  · obtain ⟨z, e, q⟩ := then_ofO.mp (then_bind.mp q)
    obtain ⟨a, vs, rfl, h1, f1⟩ := hx.lst? (ds := _) rfl
    obtain ⟨w, e2, p⟩ := atI_rel f1.len (fun j x hx => f1.get hx) e
    exact .inl ⟨a, vs, _, w, rfl, hy.i, .of h1, e2, rv_d q p⟩
  · obtain ⟨z, e, q⟩ := then_ofO.mp (then_bind.mp q)
    obtain ⟨a, vs, rfl, h1, f1⟩ := hx.t
    obtain ⟨w, e2, p⟩ := atI_rel f1.len (fun j x hx => f1.get hx) e
    exact .inr (.inl ⟨a, vs, _, w, rfl, hy.i, h1, e2, rv_d q p⟩)
  · obtain ⟨g, q⟩ := then_guard.mp q
    obtain ⟨z, e, q⟩ := then_ofO.mp (then_bind.mp q)
    exact .inr (.inr ⟨_, _, z, hx.s, hy.i, by rw [← sLine_eq]; exact of_decide_eq_true g, e, rv_d q (.str _)⟩)
  · obtain ⟨z, e, q⟩ := then_ofO.mp (then_bind.mp q)
    cases hx with
    | ol h1 r =>
      obtain ⟨w, e2, C, p, hc⟩ := atI_rel (P := fun t w => ∃ C, Rp K F H w t C ∧ ∀ a, C.count a ≤ _) r.len (fun j x hx => by
        obtain ⟨w, C, e, p, hc⟩ := r.get hx
        exact ⟨w, e, C, p, hc⟩) e
      exact .inl ⟨_, _, _, w, rfl, hy.i, .of h1, e2, q w C p fun b => by have := hc b; rw [List.count_append, List.count_cons]; omega⟩
  · obtain ⟨z, e, q⟩ := then_ofO.mp (then_bind.mp q)
    cases hx with
    | ot h1 r =>
      obtain ⟨w, e2, C, p, hc⟩ := atI_rel (P := fun t w => ∃ C, Rp K F H w t C ∧ ∀ a, C.count a ≤ _) r.len (fun j x hx => by
        obtain ⟨w, C, e, p, hc⟩ := r.get hx
        exact ⟨w, e, C, p, hc⟩) e
      exact .inr (.inl ⟨_, _, _, w, rfl, hy.i, .of h1, e2, q w C p fun b => by have := hc b; rw [List.count_append]; omega⟩)
  · obtain ⟨z, e, q⟩ := then_ofO.mp (then_bind.mp q)
    cases hx with
    | rd h1 f1 =>
      obtain ⟨w, e2, p⟩ := atI_rel f1.len (fun j x hx => f1.get hx) e
      exact .inl ⟨_, _, _, w, rfl, hy.i, h1.sq, e2, rv_d q p⟩
  · exact q.elim
end L3
/-! L3d -/
/-! L3d: views, arguments, displays, tests. -/
namespace L3
open PySem PySem.Spec PyProof.Rows L2

/-! ### views: what only reads -/
abbrev MP := Env → Option T
def SimP (K : PySem.W.Frag) (te : TE) (m : MP) : Prop :=
  ∀ (c : C0) (H : Hp) (tv : List (Option V)) (td : Env) (σ : L2.St) (ρ : Env) (A : List Addr) (t : T), tv.length = td.length → StW K c H (tv ++ σ) (td ++ ρ) A → m ρ = some t → ∀ Q : VK,
    (∀ v A1, Rp K (Fok c A) H v t A1 → (∀ a ∈ A1, a ∈ A) → Q v H) → te σ H Q
structure QP (X : Cx) (e : Expr) (te : TE) (m : MP) : Prop where
  pe : PE X e te
  sim : SimP X.K te m
def mLift (m : MP) : MEx := fun ρ => match m ρ with | some (.d x) => .ok (.d x, ρ) | _ => .bad
def onV : RV → Option T
  | .v t => some t
  | _ => none
def okV : R RV → Option T
  | .ok (.v t) => some t
  | _ => none
def pVar (i : Nat) : MP := fun ρ => match ρ[i]? with | some (some t) => some t | _ => none
def pC (x : PyData) : MP := fun _ => some (.d x)
def pBin (op : T → T → R RV) (ma mb : MP) : MP := fun ρ => (ma ρ).bind fun x => (mb ρ).bind fun y => okV (op x y)
def pUn (op : T → R RV) (ma : MP) : MP := fun ρ => (ma ρ).bind fun x => okV (op x)
section
variable {X : Cx} {E : Str → Hp → Prop} {e a b : Expr} {te ta tb : TE} {m ma mb : MP} {pos : Pos}
theorem QP.lift (h : QP X e te m) : QE X E true e te (mLift m) := by
  refine ⟨h.pe, fun c H tv td σ ρ hl st Q q => ?_⟩
  obtain ⟨A, w⟩ := st
  unfold mLift at q
  cases e1 : m ρ with
  | none => rw [e1] at q; exact q.elim
  | some t =>
    rw [e1] at q
    cases t with
    | d x =>
      refine h.sim c H tv td σ ρ A _ hl w e1 Q fun v A1 r _ => ?_
      cases r with
      | d f => exact q v H (fun _ => Same.refl H) ⟨A, w.pushD f⟩
    | _ => exact q.elim
theorem qp_int {i : Int} {j : Nat} {pos : Pos} : QP X (.Constant (.int i) j pos) (tC (.int i)) (pC (.int i)) := ⟨pe_int, fun c H tv td σ ρ A t _ _ e Q q => by cases e; exact q _ [] (.d (.int i)) fun _ z => by simp at z⟩
theorem qp_bl {i : Bool} {j : Nat} {pos : Pos} : QP X (.Constant (.bool i) j pos) (tC (.bl i)) (pC (.bool i)) := ⟨pe_bl, fun c H tv td σ ρ A t _ _ e Q q => by cases e; exact q _ [] (.d (.bl i)) fun _ z => by simp at z⟩
theorem qp_str {i : Str} {j : Nat} {pos : Pos} : QP X (.Constant (.str i) j pos) (tC (.str i)) (pC (.str i)) := ⟨pe_str, fun c H tv td σ ρ A t _ _ e Q q => by cases e; exact q _ [] (.d (.str i)) fun _ z => by simp at z⟩
theorem qp_non {j : Nat} {pos : Pos} : QP X (.Constant .none j pos) (tC .non) (pC .none) := ⟨pe_non, fun c H tv td σ ρ A t _ _ e Q q => by cases e; exact q _ [] (.d .non) fun _ z => by simp at z⟩
/-- a slot, seen -/
theorem StW.see {K : PySem.W.Frag} {c : C0} {H : Hp} {tv : List (Option V)} {td : Env} {σ : L2.St} {ρ : Env} {A : List Addr} (hl : tv.length = td.length) (w : StW K c H (tv ++ σ) (td ++ ρ) A) {i : Nat} {t : T} (e : ρ[i]? = some (some t)) :
    ∃ v A1, σ[i]? = some (some v) ∧ Rp K (Fok c A) H v t A1 ∧ ∀ a ∈ A1, a ∈ A := by
  have hlen := w.slots.len
  have hi : i < ρ.length := (List.getElem?_eq_some_iff.mp e).1
  have hi2 : tv.length + i < (tv ++ σ).length := by
    rw [hlen, List.length_append]; omega
  obtain ⟨B, hb, ar, get⟩ := w.slots.around hi2
  obtain ⟨v, A1, e3, x, hc⟩ := get t (by rw [app_at hl.symm, e])
  rw [app_at rfl] at e3
  exact ⟨v, A1, e3, x, fun a ha => List.count_pos_iff.mp (by have := hc a; have := List.count_pos_iff.mpr ha; omega)⟩
theorem sim_pvar {K : PySem.W.Frag} (i : Nat) : SimP K (tVar i) (pVar i) := by
  intro c H tv td σ ρ A t hl w e Q q
  unfold pVar at e
  split at e
  · rename_i e0
    cases e
    obtain ⟨v, A1, e3, x, hc⟩ := w.see hl e0
    exact ⟨v, e3, q v A1 x hc⟩
  · cases e
theorem qp_var (i : Nat) {x : Str} {pos : Pos} (hN : X.N[i]? = some x := by rfl) (hv : Vis X.env.scope x := by first | exact Or.inl rfl | exact Or.inr (Or.inl rfl) | exact Or.inr (Or.inr rfl)) (hd : (x == ("__debug__" : Str)) = false := by decide)
    (hcd : (x == ("__classdict__" : Str)) = false := by decide) : QP X (.Name x pos) (tVar i) (pVar i) := ⟨pe_var hN hv hd hcd, sim_pvar i⟩
theorem then_okV {z : R RV} {t : T} (e : okV z = some t) {P : RV → Prop} (h : P (.v t)) : Then z P (fun _ => False) := by
  unfold okV at e
  split at e
  · cases e; exact h
  · cases e
theorem sim_pbin {K : PySem.W.Frag} {r : R2} {op : T → T → R RV} (ho : OpV K r op) (sa : SimP K ta ma) (sb : SimP K tb mb) : SimP K (tOp r ta tb) (pBin op ma mb) := by
  intro c H tv td σ ρ A t hl w e Q q
  unfold pBin at e
  obtain ⟨x, e1, e⟩ := Option.bind_eq_some_iff.mp e
  obtain ⟨y, e2, e⟩ := Option.bind_eq_some_iff.mp e
  refine sa c H tv td σ ρ A x hl w e1 _ fun v A1 r1 h1 => ?_
  refine sb c H tv td σ ρ A y hl w e2 _ fun u A2 r2 h2 => ?_
  refine ho _ H v u x y A1 A2 r1 r2 Q (then_okV e ?_)
  intro w' C r3 h3
  refine q w' C r3 fun a ha => ?_
  have z := h3 a
  rw [List.count_append] at z
  have z2 := List.count_pos_iff.mpr ha
  by_cases hA : a ∈ A1
  · exact h1 a hA
  · have := List.count_eq_zero.mpr hA
    exact h2 a (List.count_pos_iff.mp (by omega))
theorem sim_pun {K : PySem.W.Frag} {r : V → Hp → VK → Prop} {op : T → R RV} (ho : UnV K r op) (sa : SimP K ta ma) : SimP K (tUn r ta) (pUn op ma) := by
  intro c H tv td σ ρ A t hl w e Q q
  unfold pUn at e
  obtain ⟨x, e1, e⟩ := Option.bind_eq_some_iff.mp e
  refine sa c H tv td σ ρ A x hl w e1 _ fun v A1 r1 h1 => ?_
  refine ho _ H v x A1 r1 Q (then_okV e ?_)
  intro w' C r3 h3
  exact q w' C r3 fun a ha => h1 a (List.count_pos_iff.mp (Nat.lt_of_lt_of_le (List.count_pos_iff.mpr ha) (h3 a)))
theorem qp_op {op : Operator} {r : R2} {f : T → T → R RV} (ho : OpR X (binaryOp op) r) (hv : OpV X.K r f) (ha : QP X a ta ma) (hb : QP X b tb mb) : QP X (.BinOp a op b pos) (tOp r ta tb) (pBin f ma mb) := ⟨pe_op ho ha.pe hb.pe, sim_pbin hv ha.sim hb.sim⟩
theorem qp_cmp {op : CmpOp} {r : R2} {f : T → T → R RV} (ho : OpR X (compareOp op) r) (hv : OpV X.K r f) (ha : QP X a ta ma) (hb : QP X b tb mb) (hm : behindInMarks op b = false) : QP X (.Compare a [op] [b] pos) (tOp r ta tb) (pBin f ma mb) := ⟨pe_cmpR ho ha.pe hb.pe hm, sim_pbin hv ha.sim hb.sim⟩
theorem qp_ix (ha : QP X a ta ma) (hb : QP X b tb mb) (hs : PlainIx b := by exact fun _ _ => rfl) : QP X (.Subscript a b pos) (tOp (rIx X.K) ta tb) (pBin opIdx ma mb) := ⟨pe_ix ix_seq ha.pe hb.pe hs, sim_pbin opIdx_v ha.sim hb.sim⟩
theorem qe_op {op : Operator} {r : R2} {f : T → T → R RV} {ma mb : MEx} (ho : OpR X (binaryOp op) r) (hv : OpV X.K r f) (hx : NoX f) {g1 g2 : Bool} (ha : QE X E g1 a ta ma) (hb : QE X E g2 b tb mb) : QE X E (g1 && g2) (.BinOp a op b pos) (tOp r ta tb) (mBin f ma mb) := ⟨pe_op ho ha.pe hb.pe, sim_bin hv hx ha.sim hb.sim⟩
theorem qe_cmp {op : CmpOp} {r : R2} {f : T → T → R RV} {ma mb : MEx} (ho : OpR X (compareOp op) r) (hv : OpV X.K r f) (hx : NoX f) {g1 g2 : Bool} (ha : QE X E g1 a ta ma) (hb : QE X E g2 b tb mb) (hm : behindInMarks op b = false) : QE X E (g1 && g2) (.Compare a [op] [b] pos) (tOp r ta tb) (mBin f ma mb) := ⟨pe_cmpR ho ha.pe hb.pe hm, sim_bin hv hx ha.sim hb.sim⟩
theorem qe_ix {ma mb : MEx} {g1 g2 : Bool} (ha : QE X E g1 a ta ma) (hb : QE X E g2 b tb mb) (hs : PlainIx b := by exact fun _ _ => rfl) : QE X E (g1 && g2) (.Subscript a b pos) (tOp (rIx X.K) ta tb) (mBin opIdx ma mb) := ⟨pe_ix ix_seq ha.pe hb.pe hs, sim_bin opIdx_v opIdx_nox ha.sim hb.sim⟩
end

/-! ### arguments -/
abbrev MA := Env → R (List T × Env)
def SimA (K : PySem.W.Frag) (E : Str → Hp → Prop) (gr : Bool) (ta : TA) (m : MA) : Prop :=
  ∀ (c : C0) (H : Hp) (tv : List (Option V)) (td : Env) (σ : L2.St) (ρ : Env), tv.length = td.length → StR K c H (tv ++ σ) (td ++ ρ) → ∀ Q : List V → Hp → Prop,
    Then (m ρ) (fun r => ∀ vs H', (gr = true → Same H H') → vs.length = r.1.length → StR K c H' (vs.map some ++ (tv ++ σ)) (r.1.map some ++ (td ++ r.2)) → Q vs H') (fun x => ∀ H', KeepC c H' → E x H') → ta σ H Q
structure QA (X : Cx) (E : Str → Hp → Prop) (gr : Bool) (es : List Expr) (ta : TA) (m : MA) : Prop where
  pa : PA X es ta
  sim : SimA X.K E gr ta m
  len : ∀ ρ r, m ρ = .ok r → r.1.length = es.length
def mNil : MA := fun ρ => .ok ([], ρ)
def mCons (m : MEx) (r : MA) : MA := fun ρ => (m ρ).bind fun x => (r x.2).bind fun y => .ok (x.1 :: y.1, y.2)
abbrev MPA := Env → Option (List T)
def SimPA (K : PySem.W.Frag) (ta : TA) (m : MPA) : Prop :=
  ∀ (c : C0) (H : Hp) (tv : List (Option V)) (td : Env) (σ : L2.St) (ρ : Env) (A : List Addr) (ts : List T), tv.length = td.length → StW K c H (tv ++ σ) (td ++ ρ) A → m ρ = some ts → ∀ Q : List V → Hp → Prop,
    (∀ vs A1, RpAll K (Fok c A) H vs ts A1 → (∀ a ∈ A1, a ∈ A) → Q vs H) → ta σ H Q
structure QPA (X : Cx) (es : List Expr) (ta : TA) (m : MPA) : Prop where
  pa : PA X es ta
  sim : SimPA X.K ta m
def pNil : MPA := fun _ => some []
def pCons (m : MP) (r : MPA) : MPA := fun ρ => (m ρ).bind fun x => (r ρ).bind fun y => some (x :: y)
section
variable {X : Cx} {E : Str → Hp → Prop} {e a b : Expr} {es : List Expr} {te ta tb : TE} {t : TA} {m ma mb : MEx} {r : MA} {pos : Pos}
theorem qa_nil : QA X E true [] tNil mNil := ⟨pa_nil, fun c H tv td σ ρ hl st Q q => q [] H (fun _ => Same.refl H) rfl st, fun ρ r e => by cases e; rfl⟩
theorem qa_cons {g1 g2 : Bool} (h : QE X E g1 e te m) (hr : QA X E g2 es t r) (hs : starEach (e :: es) X.env = (false, eval e X.env) :: starEach es X.env := by rfl) : QA X E (g1 && g2) (e :: es) (tCons te t) (mCons m r) := by
  refine ⟨pa_cons h.pe hr.pa hs, fun c H tv td σ ρ hl st Q q => ?_, fun ρ z ez => ?_⟩
  · unfold mCons at q
    rw [then_bind] at q
    refine h.sim c H tv td σ ρ hl st _ (q.imp ?_)
    intro x q1 v H1 sm1 st1
    rw [then_bind] at q1
    refine hr.sim c H1 (some v :: tv) (some x.1 :: td) σ x.2 (by simp [hl]) st1 _ (q1.imp ?_)
    intro y q2 vs H2 sm2 hvs st2
    refine q2 (v :: vs) H2 (fun e => by rw [Bool.and_eq_true] at e; exact (sm1 e.1).trans (sm2 e.2)) (by simp [hvs]) ?_
    exact StR.raise (xs := vs.map some) (as := y.1.map some) (by simp [hvs]) st2
  · unfold mCons at ez
    cases e1 : m ρ with
    | ok x =>
      rw [e1] at ez
      cases e2 : r x.2 with
      | ok y =>
        have ez' : (R.ok (x.1 :: y.1, y.2) : R (List T × Env)) = .ok z := by rw [← ez]; show _ = (r x.2).bind _; rw [e2]; rfl
        cases ez'
        simp [hr.len _ _ e2]
      | exc _ => have ez' : (r x.2).bind (fun y => R.ok (x.1 :: y.1, y.2)) = R.ok z := ez; rw [e2] at ez'; cases ez'
      | bad => have ez' : (r x.2).bind (fun y => R.ok (x.1 :: y.1, y.2)) = R.ok z := ez; rw [e2] at ez'; cases ez'
    | exc _ => rw [e1] at ez; cases ez
    | bad => rw [e1] at ez; cases ez
theorem qpa_nil : QPA X [] tNil pNil := ⟨pa_nil, fun c H tv td σ ρ A ts _ _ e Q q => by cases e; exact q [] [] .nil fun _ z => by simp at z⟩
theorem qpa_cons {m : MP} {r : MPA} (h : QP X e te m) (hr : QPA X es t r) (hs : starEach (e :: es) X.env = (false, eval e X.env) :: starEach es X.env := by rfl) : QPA X (e :: es) (tCons te t) (pCons m r) := by
  refine ⟨pa_cons h.pe hr.pa hs, fun c H tv td σ ρ A ts hl w e Q q => ?_⟩
  unfold pCons at e
  obtain ⟨x, e1, e⟩ := Option.bind_eq_some_iff.mp e
  obtain ⟨y, e2, e⟩ := Option.bind_eq_some_iff.mp e
  cases e
  refine h.sim c H tv td σ ρ A x hl w e1 _ fun v A1 r1 h1 => ?_
  refine hr.sim c H tv td σ ρ A y hl w e2 _ fun vs A2 r2 h2 => ?_
  exact q (v :: vs) (A1 ++ A2) (.cons r1 r2) fun a ha => (List.mem_append.mp ha).elim (h1 a) (h2 a)

/-! ### displays -/
section
variable {K : PySem.W.Frag} {F : Addr → Prop} {H : Hp}
theorem Sl.front : ∀ {vs : List V} {ts : List T} {sl : List (Option V)} {ρ : Env} {A : List Addr}, vs.length = ts.length → Sl K F H (vs.map some ++ sl) (ts.map some ++ ρ) A → ∃ A1 B, A = A1 ++ B ∧ RpAll K F H vs ts A1 ∧ Sl K F H sl ρ B
  | [], [], _, _, A, _, h => ⟨[], A, rfl, .nil, h⟩
  | v :: vs, t :: ts, _, _, _, hl, h => by
    cases h with
    | cons x r =>
      obtain ⟨A1, B, e, ra, s⟩ := r.front (by simpa using hl)
      exact ⟨_, B, by rw [e, ← List.append_assoc], .cons x ra, s⟩
  | [], _ :: _, _, _, _, hl, _ => by simp at hl
  | _ :: _, [], _, _, _, hl, _ => by simp at hl
end
def mkTup (ts : List T) : T := match T.allD ts with | some ds => .d (.tuple ds) | none => .ot ts
def mTup (m : MA) : MEx := fun ρ => (m ρ).bind fun r => .ok (mkTup r.1, r.2)
def mLst (m : MA) : MEx := fun ρ => (m ρ).bind fun r => .ok (.ol r.1, r.2)
theorem sz1000 {n : Nat} (h : n ≤ 1000) : n ≤ sizeLine := Nat.le_trans h (by decide)
theorem qe_tup {k : Nat} {ma : MA} {g1 : Bool} (h : QA X E g1 es t ma) (hz : es.length ≤ 1000 := by decide) : QE X E g1 (.Tuple es k pos) (tTup t) (mTup ma) := by
  refine ⟨pe_tup h.pa, fun c H tv td σ ρ hl st Q q => ?_⟩
  unfold mTup at q
  rw [then_bind] at q
  refine h.sim c H tv td σ ρ hl st _ ?_
  have hlen := h.len ρ
  cases e : ma ρ with
  | bad => rw [e] at q; exact q.elim
  | exc x => rw [e] at q; exact q
  | ok r =>
    rw [e] at q
    intro vs H1 sm1 hvs st1
    have hn := hlen r e
    refine ⟨sz1000 (by omega), fun p hp => q _ _ (fun e => (sm1 e).trans (same_upd hp)) ?_⟩
    obtain ⟨A, w⟩ := st1
    obtain ⟨A1, B, eA, ra, s⟩ := w.slots.front hvs
    have sm := same_upd (o := .tup vs) hp
    have w2 := w.grow sm
    have eq1 : ∀ a ∈ A, (upd H1 p (.tup vs)) a = H1 a := fun a ha => upd_ne (fun z => w.not_mem_of_none hp (by rw [← z]; exact ha))
    have ra2 := ra.mono (.same sm) fun a ha => eq1 a (by rw [eA]; exact List.mem_append_left _ ha)
    have s2 := s.mono (.same sm) fun a ha => eq1 a (by rw [eA]; exact List.mem_append_right _ ha)
    refine ⟨A1 ++ B, w2.remake (fun a => by rw [eA]; exact Nat.le_refl _) (.cons ?_ s2)⟩
    show Rp X.K (Fok c A) (upd H1 p (.tup vs)) (.ref p) (mkTup r.1) A1
    unfold mkTup
    cases ed : T.allD r.1 with
    | none => exact .ot upd_same ra2
    | some ds =>
      obtain ⟨f, z, _⟩ := ra2.data ed
      subst z
      exact .d (.tup (.of upd_same) f)
theorem qe_lst {ma : MA} {g1 : Bool} (h : QA X E g1 es t ma) (hz : es.length ≤ 1000 := by decide) : QE X E g1 (.List es pos) (tLst t) (mLst ma) := by
  refine ⟨pe_lst h.pa, fun c H tv td σ ρ hl st Q q => ?_⟩
  unfold mLst at q
  rw [then_bind] at q
  refine h.sim c H tv td σ ρ hl st _ ?_
  have hlen := h.len ρ
  cases e : ma ρ with
  | bad => rw [e] at q; exact q.elim
  | exc x => rw [e] at q; exact q
  | ok r =>
    rw [e] at q
    intro vs H1 sm1 hvs st1
    have hn := hlen r e
    refine ⟨sz1000 (by omega), fun p hp => q _ _ (fun e => (sm1 e).trans (same_upd hp)) ?_⟩
    obtain ⟨A, w⟩ := st1
    obtain ⟨A1, B, eA, ra, s⟩ := w.slots.front hvs
    have sm := same_upd (o := .lst vs) hp
    have m0 : Mono (Fok c A) (Fok c (p :: A)) H1 H1 := Fok.fresh hp
    have eq1 : ∀ a ∈ A, (upd H1 p (.lst vs)) a = H1 a := fun a ha => upd_ne (fun z => w.not_mem_of_none hp (by rw [← z]; exact ha))
    have ra2 := (ra.mono m0 fun _ _ => rfl).mono (.same sm) fun a ha => eq1 a (by rw [eA]; exact List.mem_append_left _ ha)
    have s2 := (s.mono m0 fun _ _ => rfl).mono (.same sm) fun a ha => eq1 a (by rw [eA]; exact List.mem_append_right _ ha)
    have ec : (p :: A1) ++ B = p :: A := by rw [eA]; rfl
    have cc : Sl X.K (Fok c (p :: A)) (upd H1 p (.lst vs)) (some (.ref p) :: (tv ++ σ)) (some (.ol r.1) :: (td ++ r.2)) ((p :: A1) ++ B) := .cons (.ol upd_same ra2) s2
    rw [ec] at cc
    refine ⟨p :: A, fun a => ?_, cc, fun a ha => ?_, w.keep.grow sm⟩
    · rw [List.count_cons]
      have h2 := w.uniq a
      by_cases e : p = a
      · subst e
        have : A.count p = 0 := List.count_eq_zero.mpr (w.not_mem_of_none hp)
        simp [this]
      · have e' : (p == a) = false := by simpa using e
        simp [e']; omega
    · rcases List.mem_cons.mp ha with z | z
      · subst z
        exact .inr (w.keep.there _ hp)
      · exact w.own a z

/-! ### calls of what is built in -/
def CallV (K : PySem.W.Frag) (r : List V → Hp → VK → Prop) (op : List T → R RV) : Prop := ∀ (F : Addr → Prop) (H : Hp) (vs : List V) (ts : List T) (A : List Addr), RpAll K F H vs ts A → ∀ Q : VK, Then (op ts) (RVto K F H A Q) (fun _ => False) → r vs H Q
def NoXL (op : List T → R RV) : Prop := ∀ x c, op x ≠ .exc c
def mCallB (op : List T → R RV) (m : MA) : MEx := fun ρ => (m ρ).bind fun r => (op r.1).bind fun z => .ok (z.toT, r.2)
def pCallB (op : List T → R RV) (m : MPA) : MP := fun ρ => (m ρ).bind fun ts => okV (op ts)
theorem sim_callB {K : PySem.W.Frag} {rr : List V → Hp → VK → Prop} {op : List T → R RV} {ma : MA} (ho : CallV K rr op) (hx : NoXL op) {g1 : Bool} (sa : SimA K E g1 t ma) : SimE K E g1 (tCB rr t) (mCallB op ma) := by
  intro c H tv td σ ρ hl st Q q
  unfold mCallB at q
  rw [then_bind] at q
  refine sa c H tv td σ ρ hl st _ (q.imp ?_)
  intro x q1 vs H1 sm1 hvs st1
  rw [then_bind] at q1
  obtain ⟨A, w⟩ := st1
  obtain ⟨A1, B, eA, ra, s⟩ := w.slots.front hvs
  refine ho _ H1 vs x.1 A1 ra Q (noexc (hx _) q1 fun z q3 => ?_)
  refine StW.result (fun a => ?_) w.uniq w.own w.keep s fun v' H' sm' => q3 v' H' fun e => (sm1 e).trans sm'
  rw [eA, List.count_append]
  omega
theorem sim_pcallB {K : PySem.W.Frag} {rr : List V → Hp → VK → Prop} {op : List T → R RV} {ma : MPA} (ho : CallV K rr op) (sa : SimPA K t ma) : SimP K (tCB rr t) (pCallB op ma) := by
  intro c H tv td σ ρ A tt hl w e Q q
  unfold pCallB at e
  obtain ⟨x, e1, e⟩ := Option.bind_eq_some_iff.mp e
  refine sa c H tv td σ ρ A x hl w e1 _ fun vs A1 r1 h1 => ?_
  refine ho _ H vs x A1 r1 Q (then_okV e ?_)
  intro w' C r3 h3
  exact q w' C r3 fun a ha => h1 a (List.count_pos_iff.mp (Nat.lt_of_lt_of_le (List.count_pos_iff.mpr ha) (h3 a)))
variable {x : Str} {p : Pos} {id TY : String} {rr : List V → Hp → VK → Prop} {op : List T → R RV}
theorem qe_callB {ma : MA} (hc : CallR X (.builtin id) rr) (hv : CallV X.K rr op) (hx : NoXL op) (hm : X.mg x = none) (hb : bootBuiltins x = some (.builtin id)) {g1 : Bool} (ha : QA X E g1 (e :: es) t ma) (hg : Gl X x := by rfl) (hn : x ≠ "__name__" := by decide) (hdb : (x == ("__debug__" : Str)) = false := by decide)
    (he : starEach (e :: es) X.env = (false, eval e X.env) :: starEach es X.env := by rfl) (hpl : (backTo pos (starEach es X.env)).any (·.1) = false := by rfl) : QE X E g1 (.Call (.Name x p) (e :: es) [] pos) (tCB rr t) (mCallB op ma) :=
  ⟨pe_callB hc hg hm hb ha.pa hn hdb he hpl, sim_callB hv hx ha.sim⟩
theorem qp_callB {ma : MPA} (hc : CallR X (.builtin id) rr) (hv : CallV X.K rr op) (hm : X.mg x = none) (hb : bootBuiltins x = some (.builtin id)) (ha : QPA X (e :: es) t ma) (hg : Gl X x := by rfl) (hn : x ≠ "__name__" := by decide) (hdb : (x == ("__debug__" : Str)) = false := by decide)
    (he : starEach (e :: es) X.env = (false, eval e X.env) :: starEach es X.env := by rfl) (hpl : (backTo pos (starEach es X.env)).any (·.1) = false := by rfl) : QP X (.Call (.Name x p) (e :: es) [] pos) (tCB rr t) (pCallB op ma) :=
  ⟨pe_callB hc hg hm hb ha.pa hn hdb he hpl, sim_pcallB hv ha.sim⟩
theorem qe_callTy {ma : MA} (hc : CallR X (.type TY) rr) (hv : CallV X.K rr op) (hx : NoXL op) (hm : X.mg x = none) (hb : bootBuiltins x = some (.type TY)) {g1 : Bool} (ha : QA X E g1 (e :: es) t ma) (hg : Gl X x := by rfl) (hn : x ≠ "__name__" := by decide) (hdb : (x == ("__debug__" : Str)) = false := by decide)
    (he : starEach (e :: es) X.env = (false, eval e X.env) :: starEach es X.env := by rfl) (hpl : (backTo pos (starEach es X.env)).any (·.1) = false := by rfl) : QE X E g1 (.Call (.Name x p) (e :: es) [] pos) (tCB rr t) (mCallB op ma) :=
  ⟨pe_callTy hc hg hm hb ha.pa hn hdb he hpl, sim_callB hv hx ha.sim⟩
theorem qp_callTy {ma : MPA} (hc : CallR X (.type TY) rr) (hv : CallV X.K rr op) (hm : X.mg x = none) (hb : bootBuiltins x = some (.type TY)) (ha : QPA X (e :: es) t ma) (hg : Gl X x := by rfl) (hn : x ≠ "__name__" := by decide) (hdb : (x == ("__debug__" : Str)) = false := by decide)
    (he : starEach (e :: es) X.env = (false, eval e X.env) :: starEach es X.env := by rfl) (hpl : (backTo pos (starEach es X.env)).any (·.1) = false := by rfl) : QP X (.Call (.Name x p) (e :: es) [] pos) (tCB rr t) (pCallB op ma) :=
  ⟨pe_callTy hc hg hm hb ha.pa hn hdb he hpl, sim_pcallB hv ha.sim⟩
end
end L3
/-! L3e -/
/-! L3e: tests, statements, targets. -/
namespace L3
open PySem PySem.Spec PyProof.Rows L2

/-! ### tests -/
abbrev MT := Env → R (Bool × Env)
def SimT (K : PySem.W.Frag) (E : Str → Hp → Prop) (tt : TT) (m : MT) : Prop :=
  ∀ (c : C0) (H : Hp) (tv : List (Option V)) (td : Env) (σ : L2.St) (ρ : Env), tv.length = td.length → StR K c H (tv ++ σ) (td ++ ρ) → ∀ Q : Bool → Hp → Prop,
    Then (m ρ) (fun r => ∀ H', StR K c H' (tv ++ σ) (td ++ r.2) → Q r.1 H') (fun x => ∀ H', KeepC c H' → E x H') → tt σ H Q
structure QT (X : Cx) (E : Str → Hp → Prop) (e : Expr) (tt : TT) (m : MT) : Prop where
  pt : PT X e tt
  sim : SimT X.K E tt m
structure QW (X : Cx) (E : Str → Hp → Prop) (e : Expr) (tt : TT) (m : MT) : Prop where
  pw : PW X e tt
  sim : SimT X.K E tt m
def mTest (m : MEx) : MT := fun ρ => (m ρ).bind fun r => match r.1 with | .d (.bool b) => .ok (b, r.2) | _ => .bad
def T.truth : T → Option Bool
  | .d .none => some false
  | .d (.bool b) => some b
  | .d (.int i) => some (i != 0)
  | .d (.list ds) => some (!ds.isEmpty)
  | .d (.tuple ds) => some (!ds.isEmpty)
  | .ol ts => some (!ts.isEmpty)
  | _ => none
def mTruth (m : MP) : MT := fun ρ => match (m ρ).bind T.truth with | some b => .ok (b, ρ) | none => .bad
def mNot (m : MT) : MT := fun ρ => (m ρ).bind fun r => .ok (!r.1, r.2)
def mAnd (m n : MT) : MT := fun ρ => (m ρ).bind fun r => if r.1 = true then n r.2 else .ok (false, r.2)
def mOr (m n : MT) : MT := fun ρ => (m ρ).bind fun r => if r.1 = true then .ok (true, r.2) else n r.2
def mB (m : MT) : MEx := fun ρ => (m ρ).bind fun r => .ok (.d (.bool r.1), r.2)
def mIf (m : MT) (a b : MEx) : MEx := fun ρ => (m ρ).bind fun r => if r.1 = true then a r.2 else b r.2
section
variable {X : Cx} {E : Str → Hp → Prop} {e a b c' : Expr} {es : List Expr} {te ta tb : TE} {tt tu : TT} {m ma mb : MEx} {mt mu : MT} {g1 g2 : Bool} {pos : Pos}
theorem sim_test {K : PySem.W.Frag} {g : Bool} (s : SimE K E g te m) : SimT K E (tTest te) (mTest m) := by
  intro c H tv td σ ρ hl st Q q
  unfold mTest at q
  rw [then_bind] at q
  refine s c H tv td σ ρ hl st _ (q.imp ?_)
  rintro ⟨t, ρ1⟩ q1 v H1 _ st1
  dsimp only at q1
  split at q1
  · obtain ⟨A, w⟩ := st1
    obtain ⟨f, w'⟩ := w.topD
    cases f
    exact ⟨_, rfl, q1 H1 ⟨A, w'⟩⟩
  · exact q1.elim
theorem qt_cmp {op : CmpOp} {r : R2} {f : T → T → R RV} (ho : OpR X (compareOp op) r) (hv : OpV X.K r f) (hx : NoX f) (ha : QE X E g1 a ta ma) (hb : QE X E g2 b tb mb) (hm : behindInMarks op b = false) : QT X E (.Compare a [op] [b] pos) (tTest (tOp r ta tb)) (mTest (mBin f ma mb)) :=
  ⟨pt_cmpR ho ha.pe hb.pe hm, sim_test (sim_bin hv hx ha.sim hb.sim)⟩
theorem qt_pcmp {op : CmpOp} {r : R2} {f : T → T → R RV} {ma mb : MP} (ho : OpR X (compareOp op) r) (hv : OpV X.K r f) (ha : QP X a ta ma) (hb : QP X b tb mb) (hm : behindInMarks op b = false) : QT X E (.Compare a [op] [b] pos) (tTest (tOp r ta tb)) (mTest (mLift (pBin f ma mb))) :=
  ⟨pt_cmpR ho ha.pe hb.pe hm, sim_test (qp_cmp (pos := pos) ho hv ha hb hm).lift.sim⟩
theorem qt_val (h : QE X E g1 e te m) (he : ∀ whole, isTrue e X.env whole = (do let v ← whole; standAt e.pos; holding [v] (truthy v)) := by intro _; rfl) : QT X E e (tTest te) (mTest m) := ⟨pt_val h.pe he, sim_test h.sim⟩
theorem truth_v {K : PySem.W.Frag} {F : Addr → Prop} {H : Hp} {v : V} {t : T} {A : List Addr} {k : Bool} (h : Rp K F H v t A) (e : t.truth = some k) : TruV K v H k := by
  unfold T.truth at e
  split at e
  · cases h with | d h => cases h; cases e; rfl
  · cases h with | d h => cases h; cases e; rfl
  · cases h with | d h => cases h; cases e; rfl
  · cases h with | d h =>
      cases h with
      | lst h1 _ f =>
        cases e
        have l := f.len
        refine .inl ⟨_, .of h1, ?_⟩
        cases f <;> rfl
  · cases h with | d h =>
      cases h with
      | tup h1 f =>
        cases e
        refine .inr (.inl ⟨_, h1, ?_⟩)
        cases f <;> rfl
  · cases h with
    | ol h1 f =>
      cases e
      refine .inl ⟨_, .of h1, ?_⟩
      cases f <;> rfl
  · cases e
theorem qt_truth {m : MP} (h : QP X e te m) (he : ∀ whole, isTrue e X.env whole = (do let v ← whole; standAt e.pos; holding [v] (truthy v)) := by intro _; rfl) :
    QT X E e (fun σ H Q => te σ H fun x H' => ∃ k, TruV X.K x H' k ∧ Q k H') (mTruth m) := by
  refine ⟨pt_truth h.pe he, fun c H tv td σ ρ hl st Q q => ?_⟩
  unfold mTruth at q
  obtain ⟨A, w⟩ := st
  cases e1 : (m ρ).bind T.truth with
  | none => rw [e1] at q; exact q.elim
  | some k =>
    rw [e1] at q
    obtain ⟨t, e2, e3⟩ := Option.bind_eq_some_iff.mp e1
    exact h.sim c H tv td σ ρ A t hl w e2 _ fun v A1 r _ => ⟨k, truth_v r e3, q H ⟨A, w⟩⟩
theorem sim_tnot {K : PySem.W.Frag} (s : SimT K E tt mt) : SimT K E (tNot tt) (mNot mt) := by
  intro c H tv td σ ρ hl st Q q
  unfold mNot at q
  rw [then_bind] at q
  exact s c H tv td σ ρ hl st _ (q.imp fun r q1 H1 st1 => q1 H1 st1)
theorem qt_not (h : QT X E e tt mt) : QT X E (.UnaryOp .Not e pos) (tNot tt) (mNot mt) := ⟨pt_not h.pt, sim_tnot h.sim⟩
theorem QW.qt (h : QW X E e tt mt) : QT X E e tt mt := ⟨h.pw.pt, h.sim⟩
theorem qw_and1 (h : QT X E a tt mt) : QW X E (.BoolOp .And [a] pos) tt mt := ⟨pw_and1 h.pt, h.sim⟩
theorem qw_or1 (h : QT X E a tt mt) : QW X E (.BoolOp .Or [a] pos) tt mt := ⟨pw_or1 h.pt, h.sim⟩
theorem sim_tand {K : PySem.W.Frag} (s : SimT K E tt mt) (s2 : SimT K E tu mu) : SimT K E (tAnd tt tu) (mAnd mt mu) := by
  intro c H tv td σ ρ hl st Q q
  unfold mAnd at q
  rw [then_bind] at q
  refine s c H tv td σ ρ hl st _ (q.imp ?_)
  rintro ⟨k, ρ1⟩ q1 H1 st1
  cases k with
  | true => exact s2 c H1 tv td σ ρ1 hl st1 Q q1
  | false => exact q1 H1 st1
theorem sim_tor {K : PySem.W.Frag} (s : SimT K E tt mt) (s2 : SimT K E tu mu) : SimT K E (tOr tt tu) (mOr mt mu) := by
  intro c H tv td σ ρ hl st Q q
  unfold mOr at q
  rw [then_bind] at q
  refine s c H tv td σ ρ hl st _ (q.imp ?_)
  rintro ⟨k, ρ1⟩ q1 H1 st1
  cases k with
  | true => exact q1 H1 st1
  | false => exact s2 c H1 tv td σ ρ1 hl st1 Q q1
theorem qw_and {rest : List Expr} (h : QT X E a tt mt) (h2 : QW X E (.BoolOp .And (b :: rest) pos) tu mu) : QW X E (.BoolOp .And (a :: b :: rest) pos) (tAnd tt tu) (mAnd mt mu) := ⟨pw_and h.pt h2.pw, sim_tand h.sim h2.sim⟩
theorem qw_or {rest : List Expr} (h : QT X E a tt mt) (h2 : QW X E (.BoolOp .Or (b :: rest) pos) tu mu) : QW X E (.BoolOp .Or (a :: b :: rest) pos) (tOr tt tu) (mOr mt mu) := ⟨pw_or h.pt h2.pw, sim_tor h.sim h2.sim⟩
/-! values: True, False alone -/
def mAndV (m n : MEx) : MEx := fun ρ => (mTest m ρ).bind fun r => if r.1 = true then n r.2 else .ok (.d (.bool false), r.2)
def mOrV (m n : MEx) : MEx := fun ρ => (mTest m ρ).bind fun r => if r.1 = true then .ok (.d (.bool true), r.2) else n r.2
def mNotV (m : MEx) : MEx := fun ρ => (mTest m ρ).bind fun r => .ok (.d (.bool (!r.1)), r.2)
theorem StR.pushC {K : PySem.W.Frag} {c : C0} {H : Hp} {sl : List (Option V)} {ρ : Env} {v : V} {x : PyData} (h : StR K c H sl ρ) (f : ∀ F H, Fz K F H v x) : StR K c H (some v :: sl) (some (.d x) :: ρ) := let ⟨A, w⟩ := h; ⟨A, w.pushD (f _ _)⟩
/-- a bool on top is known -/
theorem StR.topB {K : PySem.W.Frag} {c : C0} {H : Hp} {sl : List (Option V)} {ρ : Env} {v : V} {b : Bool} (h : StR K c H (some v :: sl) (some (.d (.bool b)) :: ρ)) : v = .bl b ∧ StR K c H sl ρ := by
  obtain ⟨A, w⟩ := h
  obtain ⟨f, w'⟩ := w.topD
  cases f
  exact ⟨rfl, A, w'⟩
theorem sim_boolean {K : PySem.W.Frag} {g : Bool} (s : SimE K E g te m) {c : C0} {H : Hp} {tv : List (Option V)} {td : Env} {σ : L2.St} {ρ : Env} (hl : tv.length = td.length) (st : StR K c H (tv ++ σ) (td ++ ρ)) {Q : VK}
    (q : Then (mTest m ρ) (fun r => ∀ H', (g = true → Same H H') → StR K c H' (tv ++ σ) (td ++ r.2) → Q (.bl r.1) H') (fun x => ∀ H', KeepC c H' → E x H')) : te σ H Q := by
  unfold mTest at q
  rw [then_bind] at q
  refine s c H tv td σ ρ hl st _ (q.imp ?_)
  rintro ⟨t, ρ1⟩ q1 v H1 sm st1
  dsimp only at q1
  split at q1
  · obtain ⟨rfl, st2⟩ := st1.topB
    exact q1 H1 sm st2
  · exact q1.elim
theorem qe_and {rest : List Expr} (h : QE X E g1 a ta ma) (h2 : QE X E g2 (.BoolOp .And (b :: rest) pos) tb mb) : QE X E (g1 && g2) (.BoolOp .And (a :: b :: rest) pos) (tAndV ta tb) (mAndV ma mb) := by
  refine ⟨pe_and h.pe h2.pe, fun c H tv td σ ρ hl st Q q => ?_⟩
  unfold mAndV at q
  rw [then_bind] at q
  refine sim_boolean h.sim hl st (q.imp ?_)
  rintro ⟨k, ρ1⟩ q1 H1 sm st1
  refine ⟨k, rfl, ?_⟩
  cases k with
  | true => exact h2.sim c H1 tv td σ ρ1 hl st1 Q (q1.imp fun r q2 v H2 sm2 st2 => q2 v H2 (fun e => by rw [Bool.and_eq_true] at e; exact (sm e.1).trans (sm2 e.2)) st2)
  | false => exact q1 _ H1 (fun e => by rw [Bool.and_eq_true] at e; exact sm e.1) (st1.pushC fun _ _ => .bl false)
theorem qe_or {rest : List Expr} (h : QE X E g1 a ta ma) (h2 : QE X E g2 (.BoolOp .Or (b :: rest) pos) tb mb) : QE X E (g1 && g2) (.BoolOp .Or (a :: b :: rest) pos) (tOrV ta tb) (mOrV ma mb) := by
  refine ⟨pe_or h.pe h2.pe, fun c H tv td σ ρ hl st Q q => ?_⟩
  unfold mOrV at q
  rw [then_bind] at q
  refine sim_boolean h.sim hl st (q.imp ?_)
  rintro ⟨k, ρ1⟩ q1 H1 sm st1
  refine ⟨k, rfl, ?_⟩
  cases k with
  | false => exact h2.sim c H1 tv td σ ρ1 hl st1 Q (q1.imp fun r q2 v H2 sm2 st2 => q2 v H2 (fun e => by rw [Bool.and_eq_true] at e; exact (sm e.1).trans (sm2 e.2)) st2)
  | true => exact q1 _ H1 (fun e => by rw [Bool.and_eq_true] at e; exact sm e.1) (st1.pushC fun _ _ => .bl true)
theorem qe_one {op : BoolOp} (h : QE X E g1 a ta ma) : QE X E g1 (.BoolOp op [a] pos) ta ma := ⟨pe_one h.pe, h.sim⟩
theorem qe_not (h : QE X E g1 a ta ma) : QE X E g1 (.UnaryOp .Not a pos) (tNotV ta) (mNotV ma) := by
  refine ⟨pe_not h.pe, fun c H tv td σ ρ hl st Q q => ?_⟩
  unfold mNotV at q
  rw [then_bind] at q
  refine sim_boolean h.sim hl st (q.imp ?_)
  rintro ⟨k, ρ1⟩ q1 H1 sm st1
  exact ⟨k, rfl, q1 _ H1 sm (st1.pushC fun _ _ => .bl _)⟩
theorem qe_if (h : QT X E c' tt mt) (h1 : QE X E g1 a ta ma) (h2 : QE X E g2 b tb mb) : QE X E false (.IfExp c' a b pos) (tIf tt ta tb) (mIf mt ma mb) := by
  refine ⟨pe_ifExp h.pt h1.pe h2.pe, fun c H tv td σ ρ hl st Q q => ?_⟩
  unfold mIf at q
  rw [then_bind] at q
  refine h.sim c H tv td σ ρ hl st _ (q.imp ?_)
  rintro ⟨k, ρ1⟩ q1 H1 st1
  cases k with
  | true => exact h1.sim.weak c H1 tv td σ ρ1 hl st1 Q (q1.imp fun r q2 v H2 _ st2 => q2 v H2 (fun z => by cases z) st2)
  | false => exact h2.sim.weak c H1 tv td σ ρ1 hl st1 Q (q1.imp fun r q2 v H2 _ st2 => q2 v H2 (fun z => by cases z) st2)
/-- frozen -/
def mFz (m : MEx) : MEx := fun ρ => (m ρ).bind fun r => match r.1.fz with | some x => .ok (.d x, r.2) | none => .bad
theorem StW.freezeTop {K : PySem.W.Frag} {c : C0} {H : Hp} {sl : List (Option V)} {ρ : Env} {A : List Addr} {v : V} {t : T} {x : PyData} (w : StW K c H (some v :: sl) (some t :: ρ) A) (e : t.fz = some x) : StR K c H (some v :: sl) (some (.d x) :: ρ) := by
  obtain ⟨A1, B, eA, r, s⟩ := w.top
  have hB : ∀ a, B.count a ≤ A.count a := fun a => by rw [eA, List.count_append]; omega
  have own1 : ∀ a ∈ A1, Fok c B a := fun a ha => by
    have h1 := List.count_pos_iff.mpr ha
    have h3 := w.uniq a
    rw [eA, List.count_append] at h3
    refine ⟨?_, fun z => ?_⟩
    · rcases w.own a (by rw [eA]; exact List.mem_append_left _ ha) with z | z
      · exact .inr (.inr z)
      · exact .inr (.inl z)
    · have := List.count_pos_iff.mpr z
      omega
  have f := r.freeze (fun a _ => Fok.sub hB a) own1 e
  have w' : StW K c H sl ρ B := ⟨fun a => Nat.le_trans (hB a) (w.uniq a), s.mono (.sub fun a _ => Fok.sub hB a) fun _ _ => rfl, fun a ha => w.own a (by rw [eA]; exact List.mem_append_right _ ha), w.keep⟩
  exact ⟨B, w'.pushD f⟩
theorem QE.fz (h : QE X E g1 e te m) : QE X E g1 e te (mFz m) := by
  refine ⟨h.pe, fun c H tv td σ ρ hl st Q q => ?_⟩
  unfold mFz at q
  rw [then_bind] at q
  refine h.sim c H tv td σ ρ hl st _ (q.imp ?_)
  rintro ⟨t, ρ1⟩ q1 v H1 sm st1
  dsimp only at q1
  cases e1 : t.fz with
  | none => rw [e1] at q1; exact q1.elim
  | some x =>
    rw [e1] at q1
    obtain ⟨A, w⟩ := st1
    exact q1 v H1 sm (w.freezeTop e1)
end

/-! ### statements -/
inductive Out where
  | next (ρ : Env) | ret (t : T) (ρ : Env) | brk (ρ : Env) | cont (ρ : Env)
abbrev MS := Env → R Out
structure SameIo (io : List Nat) (σ σ' : L2.St) : Prop where
  len : σ'.length = σ.length
  same : ∀ i ∈ io, σ'[i]? = σ[i]?
theorem SameIo.refl {io : List Nat} {σ : L2.St} : SameIo io σ σ := ⟨rfl, fun _ _ => rfl⟩
theorem SameIo.trans {io : List Nat} {σ σ1 σ2 : L2.St} (a : SameIo io σ σ1) (b : SameIo io σ1 σ2) : SameIo io σ σ2 := ⟨b.len.trans a.len, fun i h => (b.same i h).trans (a.same i h)⟩
theorem SameIo.set {io : List Nat} {σ : L2.St} {i : Nat} {o : Option V} (h : io.contains i = false) : SameIo io σ (σ.set i o) := ⟨by simp, fun j hj => by
  have e : i ≠ j := fun z => by
    subst z
    rw [List.contains_eq_mem] at h
    simp [hj] at h
  rw [List.getElem?_set_ne e]⟩
def OutTo (K : PySem.W.Frag) (c : C0) (tv : List (Option V)) (td : Env) (io : List Nat) (σ : L2.St) (D : Ends) : Out → Prop
  | .next ρ' => ∀ σ' H', SameIo io σ σ' → StR K c H' (tv ++ σ') (td ++ ρ') → D.nx σ' H'
  | .ret t ρ' => ∀ v σ' H', SameIo io σ σ' → StR K c H' (some v :: (tv ++ σ')) (some t :: (td ++ ρ')) → D.rt v H'
  | .brk ρ' => ∀ σ' H', SameIo io σ σ' → StR K c H' (tv ++ σ') (td ++ ρ') → D.bk σ' H'
  | .cont ρ' => ∀ σ' H', SameIo io σ σ' → StR K c H' (tv ++ σ') (td ++ ρ') → D.ct σ' H'
theorem OutTo.from {K : PySem.W.Frag} {c : C0} {tv : List (Option V)} {td : Env} {io : List Nat} {σ σ1 : L2.St} {D : Ends} {o : Out} (s : SameIo io σ σ1) (h : OutTo K c tv td io σ D o) : OutTo K c tv td io σ1 D o := by
  cases o with
  | next ρ => exact fun σ' H' s' st => h σ' H' (s.trans s') st
  | ret t ρ => exact fun v σ' H' s' st => h v σ' H' (s.trans s') st
  | brk ρ => exact fun σ' H' s' st => h σ' H' (s.trans s') st
  | cont ρ => exact fun σ' H' s' st => h σ' H' (s.trans s') st
def SimS (K : PySem.W.Frag) (E : Str → Hp → Prop) (io : List Nat) (ts : TS) (m : MS) : Prop :=
  ∀ (c : C0) (H : Hp) (tv : List (Option V)) (td : Env) (σ : L2.St) (ρ : Env), tv.length = td.length → StR K c H (tv ++ σ) (td ++ ρ) → ∀ D : Ends,
    Then (m ρ) (OutTo K c tv td io σ D) (fun x => ∀ H', KeepC c H' → E x H') → ts D σ H
structure QS (X : Cx) (E : Str → Hp → Prop) (io : List Nat) (s : Stmt) (ts : TS) (m : MS) : Prop where
  ps : PS X s ts
  sim : SimS X.K E io ts m
structure QSs (X : Cx) (E : Str → Hp → Prop) (io : List Nat) (s : List Stmt) (ts : TS) (m : MS) : Prop where
  ps : PSs X s ts
  sim : SimS X.K E io ts m
/-- at a def's own level: nothing lies on the stack of temporaries -/
def SimS0 (K : PySem.W.Frag) (E : Str → Hp → Prop) (io : List Nat) (ts : TS) (m : MS) : Prop :=
  ∀ (c : C0) (H : Hp) (σ : L2.St) (ρ : Env), StR K c H σ ρ → ∀ D : Ends,
    Then (m ρ) (OutTo K c [] [] io σ D) (fun x => ∀ H', KeepC c H' → E x H') → ts D σ H
theorem SimS.z {K : PySem.W.Frag} {E : Str → Hp → Prop} {io : List Nat} {ts : TS} {m : MS} (h : SimS K E io ts m) : SimS0 K E io ts m := fun c H σ ρ st D q => h c H [] [] σ ρ rfl st D q
structure QSs0 (X : Cx) (E : Str → Hp → Prop) (io : List Nat) (s : List Stmt) (ts : TS) (m : MS) : Prop where
  ps : PSs X s ts
  sim : SimS0 X.K E io ts m
structure QS0 (X : Cx) (E : Str → Hp → Prop) (io : List Nat) (s : Stmt) (ts : TS) (m : MS) : Prop where
  ps : PS X s ts
  sim : SimS0 X.K E io ts m
theorem QSs.z {X : Cx} {E : Str → Hp → Prop} {io : List Nat} {s : List Stmt} {ts : TS} {m : MS} (h : QSs X E io s ts m) : QSs0 X E io s ts m := ⟨h.ps, h.sim.z⟩
theorem QS.z {X : Cx} {E : Str → Hp → Prop} {io : List Nat} {s : Stmt} {ts : TS} {m : MS} (h : QS X E io s ts m) : QS0 X E io s ts m := ⟨h.ps, h.sim.z⟩
def mNext : MS := fun ρ => .ok (.next ρ)
def mSeq (m n : MS) : MS := fun ρ => (m ρ).bind fun o => match o with | .next ρ1 => n ρ1 | o => .ok o
def mRet (m : MEx) : MS := fun ρ => (m ρ).bind fun r => .ok (.ret r.1 r.2)
def mDrop (m : MEx) : MS := fun ρ => (m ρ).bind fun r => .ok (.next r.2)
def mIfS (m : MT) (a b : MS) : MS := fun ρ => (m ρ).bind fun r => if r.1 = true then a r.2 else b r.2
def mBrk : MS := fun ρ => .ok (.brk ρ)
def mCont : MS := fun ρ => .ok (.cont ρ)
section
variable {X : Cx} {E : Str → Hp → Prop} {io : List Nat} {e a b c' : Expr} {st : Stmt} {rest : List Stmt} {te ta tb : TE} {tt tu : TT} {t u : TS} {m ma mb : MEx} {mt mu : MT} {ms mr : MS} {g1 g2 : Bool} {pos : Pos}
theorem sim_next {K : PySem.W.Frag} : SimS K E io tNext mNext := fun c H tv td σ ρ hl st D q => q σ H .refl st
theorem qss_nil : QSs X E io [] tNext mNext := ⟨pss_nil, sim_next⟩
theorem sim_seq {K : PySem.W.Frag} (s1 : SimS K E io t ms) (s2 : SimS K E io u mr) : SimS K E io (tSeq t u) (mSeq ms mr) := by
  intro c H tv td σ ρ hl st D q
  unfold mSeq at q
  rw [then_bind] at q
  refine s1 c H tv td σ ρ hl st { D with nx := u D } (q.imp ?_)
  intro o q1
  cases o with
  | next ρ1 => exact fun σ' H' s' st' => s2 c H' tv td σ' ρ1 hl st' D (q1.imp fun o' z => z.from s')
  | ret t ρ1 => exact q1
  | brk ρ1 => exact q1
  | cont ρ1 => exact q1
theorem qss_cons (h : QS X E io st t ms) (h2 : QSs X E io rest u mr) : QSs X E io (st :: rest) (tSeq t u) (mSeq ms mr) := ⟨pss_cons h.ps h2.ps, sim_seq h.sim h2.sim⟩
theorem qss0_cons (h : QS0 X E io st t ms) (h2 : QSs0 X E io rest u mr) : QSs0 X E io (st :: rest) (tSeq t u) (mSeq ms mr) := ⟨pss_cons h.ps h2.ps, by
  intro c H σ ρ st D q
  unfold mSeq at q
  rw [then_bind] at q
  refine h.sim c H σ ρ st { D with nx := u D } (q.imp ?_)
  intro o q1
  cases o with
  | next ρ1 => exact fun σ' H' s' st' => h2.sim c H' σ' ρ1 st' D (q1.imp fun o' z => z.from s')
  | ret t ρ1 => exact q1
  | brk ρ1 => exact q1
  | cont ρ1 => exact q1⟩
theorem qss0_one (h : QS0 X E io st t ms) : QSs0 X E io [st] t ms := ⟨pss_one h.ps, h.sim⟩
theorem qss_one (h : QS X E io st t ms) : QSs X E io [st] t ms := ⟨pss_one h.ps, h.sim⟩
theorem qs_pass : QS X E io (.Pass pos) tNext mNext := ⟨ps_pass, sim_next⟩
theorem qs_brk : QS X E io (.Break pos) tBreak mBrk := ⟨ps_break, fun c H tv td σ ρ hl st D q => q σ H .refl st⟩
theorem qs_cont : QS X E io (.Continue pos) tCont mCont := ⟨ps_continue, fun c H tv td σ ρ hl st D q => q σ H .refl st⟩
theorem qs_ret (h : QE X E g1 e te m) : QS X E io (.Return (some e) pos) (tRet te) (mRet m) := by
  refine ⟨ps_ret h.pe, fun c H tv td σ ρ hl st D q => ?_⟩
  unfold mRet at q
  rw [then_bind] at q
  exact h.sim c H tv td σ ρ hl st _ (q.imp fun r q1 v H1 _ st1 => q1 v σ H1 .refl st1)
theorem qs_expr (h : QE X E g1 e te m) (hs : swapsWith e none pos.line X.env = pure false := by rfl) : QS X E io (.Expr e pos) (tDrop te) (mDrop m) := by
  refine ⟨ps_expr h.pe hs, fun c H tv td σ ρ hl st D q => ?_⟩
  unfold mDrop at q
  rw [then_bind] at q
  exact h.sim c H tv td σ ρ hl st _ (q.imp fun r q1 v H1 _ st1 => q1 σ H1 .refl st1.drop)
theorem qs_if {p q' : List Stmt} (h : QT X E c' tt mt) (h1 : QSs X E io p t ms) (h2 : QSs X E io q' u mr) : QS X E io (.If c' p q' pos) (tIfS tt t u) (mIfS mt ms mr) := by
  refine ⟨ps_if h.pt h1.ps h2.ps, fun c H tv td σ ρ hl st D q => ?_⟩
  unfold mIfS at q
  rw [then_bind] at q
  refine h.sim c H tv td σ ρ hl st _ (q.imp ?_)
  rintro ⟨k, ρ1⟩ q1 H1 st1
  cases k with
  | true => exact h1.sim c H1 tv td σ ρ1 hl st1 D q1
  | false => exact h2.sim c H1 tv td σ ρ1 hl st1 D q1
/-- what the proof never comes to -/
def mNever : MS := fun _ => .bad
theorem qs_never : QS X E io st tNever mNever := ⟨ps_never, fun c H tv td σ ρ hl st D q => q.elim⟩

/-! ### targets: pr tells which slots stay -/
structure SameP (pr : Nat → Bool) (σ σ' : L2.St) : Prop where
  len : σ'.length = σ.length
  same : ∀ i, pr i = true → σ'[i]? = σ[i]?
theorem SameP.refl {pr : Nat → Bool} {σ : L2.St} : SameP pr σ σ := ⟨rfl, fun _ _ => rfl⟩
theorem SameP.trans {pr : Nat → Bool} {σ σ1 σ2 : L2.St} (a : SameP pr σ σ1) (b : SameP pr σ1 σ2) : SameP pr σ σ2 := ⟨b.len.trans a.len, fun i h => (b.same i h).trans (a.same i h)⟩
theorem SameP.set {pr : Nat → Bool} {σ : L2.St} {i : Nat} {o : Option V} (h : pr i = false) : SameP pr σ (σ.set i o) := ⟨by simp, fun j hj => by
  have e : i ≠ j := fun z => by
    subst z
    rw [h] at hj
    cases hj
  rw [List.getElem?_set_ne e]⟩
abbrev inIo (io : List Nat) : Nat → Bool := fun i => io.contains i
theorem SameP.toIo {io : List Nat} {σ σ' : L2.St} (h : SameP (inIo io) σ σ') : SameIo io σ σ' := ⟨h.len, fun i hi => h.same i (by show io.contains i = true; rw [List.contains_eq_mem]; exact decide_eq_true hi)⟩
variable {pr : Nat → Bool}
abbrev MG := T → Env → Option Env
def SimG (K : PySem.W.Frag) (pr : Nat → Bool) (tg : TG) (m : MG) : Prop :=
  ∀ (c : C0) (H : Hp) (tv : List (Option V)) (td : Env) (σ : L2.St) (ρ ρ' : Env) (v : V) (t : T), tv.length = td.length → StR K c H (some v :: (tv ++ σ)) (some t :: (td ++ ρ)) → m t ρ = some ρ' → ∀ Q : L2.St → Hp → Prop,
    (∀ σ' H', SameP pr σ σ' → StR K c H' (tv ++ σ') (td ++ ρ') → Q σ' H') → tg v σ H Q
structure QG (X : Cx) (pr : Nat → Bool) (e : Expr) (tg : TG) (m : MG) : Prop where
  pg : PG X e tg
  sim : SimG X.K pr tg m
def mgName (i : Nat) : MG := fun t ρ => some (ρ.set i (some t))
theorem StR.store {K : PySem.W.Frag} {c : C0} {H : Hp} {tv : List (Option V)} {td : Env} {σ : L2.St} {ρ : Env} {v : V} {t : T} {i : Nat} (hl : tv.length = td.length) (h : StR K c H (some v :: (tv ++ σ)) (some t :: (td ++ ρ))) : StR K c H (tv ++ σ.set i (some v)) (td ++ ρ.set i (some t)) := by
  obtain ⟨A, w⟩ := h
  obtain ⟨A1, B, eA, r, s⟩ := w.top
  have hlen : (tv ++ σ).length = (td ++ ρ).length := s.len
  by_cases hi : i < σ.length
  · obtain ⟨B1, hb, ar, _⟩ := s.around (i := tv.length + i) (by rw [List.length_append]; omega)
    obtain ⟨C, s', z⟩ := ar.put (Mono.sub fun _ _ x => x) (fun _ _ => rfl) r
    rw [app_set rfl, app_set hl.symm] at s'
    refine ⟨C, w.remake (fun a => ?_) s'⟩
    rw [z a, eA, List.count_append]
    have := hb a
    omega
  · have hi2 : ¬ i < ρ.length := by
      rw [List.length_append, List.length_append] at hlen; omega
    rw [List.set_eq_of_length_le (by omega), List.set_eq_of_length_le (by omega)]
    exact ⟨B, w.remake (fun a => by rw [eA, List.count_append]; omega) s⟩
theorem sim_gname {K : PySem.W.Frag} {i : Nat} (hio : pr i = false) : SimG K pr (gName i) (mgName i) := by
  intro c H tv td σ ρ ρ' v t hl st e Q q
  cases e
  exact q _ H (.set hio) (st.store hl)
theorem qg_name {i : Nat} {x : Str} (hN : X.N.Nodup) (hi : X.N[i]? = some x := by rfl) (hx : Loc X.env.scope x := by first | exact Or.inl rfl | exact Or.inr rfl) (hio : pr i = false := by rfl) (hf : X.fn x = true ∨ X.env.scope.names.lookup x = some .local := by first | exact .inl rfl | exact .inr rfl | assumption) : QG X pr (.Name x pos) (gName i) (mgName i) :=
  ⟨pg_name hN hi hx hf, sim_gname hio⟩
def mAsg (m : MEx) (g : MG) : MS := fun ρ => (m ρ).bind fun r => (ofO (g r.1 r.2)).bind fun ρ' => .ok (.next ρ')
theorem sim_asg {K : PySem.W.Frag} {g : TG} {mg : MG} (s : SimE K E g1 te m) (sg : SimG K (inIo io) g mg) : SimS K E io (tAsg te g) (mAsg m mg) := by
  intro c H tv td σ ρ hl st D q
  unfold mAsg at q
  rw [then_bind] at q
  refine s c H tv td σ ρ hl st _ (q.imp ?_)
  intro r q1 v H1 _ st1
  obtain ⟨ρ', e, q2⟩ := then_ofO.mp (then_bind.mp q1)
  exact sg c H1 tv td σ r.2 ρ' v r.1 hl st1 e _ fun σ' H' s st' => q2 σ' H' s.toIo st'
theorem qs_set {i : Nat} {x : Str} {pos' : Pos} (hN : X.N.Nodup) (he : QE X E g1 e te m) (hi : X.N[i]? = some x := by rfl) (hx : Loc X.env.scope x := by first | exact Or.inl rfl | exact Or.inr rfl) (hs : swapsWith e (some (.Name x pos')) pos.line X.env = pure false := by rfl) (hio : inIo io i = false := by rfl)
    (hf : X.fn x = true ∨ X.env.scope.names.lookup x = some .local := by first | exact .inl rfl | exact .inr rfl | assumption) : QS X E io (.Assign [.Name x pos'] e pos) (tAsg te (gName i)) (mAsg m (mgName i)) := ⟨ps_set hN hi hx he.pe hs hf, sim_asg he.sim (sim_gname hio)⟩
theorem qs_asg {tg : Expr} {g : TG} {mg : MG} (he : QE X E g1 e te m) (hg : QG X (inIo io) tg g mg) (hs : swapsWithSole [tg] e pos.line X.env = pure false := by rfl) (hw : swappedStores [tg] e X.env = pure none := by rfl)
    (h1 : (assignEach [tg] X.env).map (·.2) = [assign tg X.env] := by rfl) : QS X E io (.Assign [tg] e pos) (tAsg te g) (mAsg m mg) := ⟨ps_asg he.pe hg.pg hs hw h1, sim_asg he.sim hg.sim⟩
/-! several -/
abbrev MGs := List T → Env → Option Env
def SimGs (K : PySem.W.Frag) (pr : Nat → Bool) (tg : TGs) (m : MGs) : Prop :=
  ∀ (c : C0) (H : Hp) (tv : List (Option V)) (td : Env) (σ : L2.St) (ρ ρ' : Env) (vs : List V) (ts : List T), tv.length = td.length → vs.length = ts.length → StR K c H (vs.map some ++ (tv ++ σ)) (ts.map some ++ (td ++ ρ)) → m ts ρ = some ρ' → ∀ Q : L2.St → Hp → Prop,
    (∀ σ' H', SameP pr σ σ' → StR K c H' (tv ++ σ') (td ++ ρ') → Q σ' H') → tg vs σ H Q
structure QGs (X : Cx) (pr : Nat → Bool) (es : List Expr) (tg : TGs) (m : MGs) : Prop where
  pg : PGs X es tg
  sim : SimGs X.K pr tg m
def mgNil : MGs := fun ts ρ => if ts.isEmpty then some ρ else none
def mgCons (g : MG) (r : MGs) : MGs := fun ts ρ => match ts with | t :: ts => (g t ρ).bind fun ρ1 => r ts ρ1 | [] => none
theorem qgs_nil : QGs X pr [] gNil mgNil := by
  refine ⟨pgs_nil, fun c H tv td σ ρ ρ' vs ts hl hv st e Q q => ?_⟩
  unfold mgNil at e
  cases ts with
  | nil =>
    cases vs with
    | nil => cases e; exact ⟨rfl, q σ H .refl st⟩
    | cons _ _ => simp at hv
  | cons _ _ => cases e
theorem qgs_cons {es : List Expr} {tg : TG} {tgs : TGs} {g : MG} {r : MGs} (h : QG X pr e tg g) (h2 : QGs X pr es tgs r) (hs : (assignEach (e :: es) X.env).map (·.2) = assign e X.env :: (assignEach es X.env).map (·.2) := by rfl) : QGs X pr (e :: es) (gCons tg tgs) (mgCons g r) := by
  refine ⟨pgs_cons h.pg h2.pg hs, fun c H tv td σ ρ ρ' vs ts hl hv st e Q q => ?_⟩
  cases ts with
  | nil => cases e
  | cons t ts =>
    cases vs with
    | nil => simp at hv
    | cons v vs =>
      obtain ⟨ρ1, e1, e2⟩ := Option.bind_eq_some_iff.mp e
      have hv' : vs.length = ts.length := by simpa using hv
      refine ⟨v, vs, rfl, ?_⟩
      refine h.sim c H (vs.map some ++ tv) (ts.map some ++ td) σ ρ ρ1 v t (by simp [hl, hv']) (by simpa using st) e1 _ fun σ1 H1 s1 st1 => ?_
      exact h2.sim c H1 tv td σ1 ρ1 ρ' vs ts hl hv' (by simpa using st1) e2 Q fun σ2 H2 s2 st2 => q σ2 H2 (s1.trans s2) st2
def T.parts : T → Option (List T)
  | .d (.tuple ds) => some (ds.map T.d)
  | .ot ts => some ts
  | _ => none
def mgTup (n : Nat) (r : MGs) : MG := fun t ρ => match t.parts with | some ts => if ts.length = n then r ts ρ else none | none => none
section
variable {K : PySem.W.Frag} {F : Addr → Prop} {H : Hp}
theorem Sl.many : ∀ {vs : List V} {ts : List T} {A B : List Addr} {sl : List (Option V)} {ρ : Env}, RpAll K F H vs ts A → Sl K F H sl ρ B → Sl K F H (vs.map some ++ sl) (ts.map some ++ ρ) (A ++ B)
  | _, _, _, _, _, _, .nil, s => s
  | _, _, _, _, _, _, .cons x r, s => by
    rw [List.append_assoc]
    exact .cons x (Sl.many r s)
theorem Rp.parts {v : V} {t : T} {ts : List T} {A : List Addr} (h : Rp K F H v t A) (e : t.parts = some ts) : ∃ a vs, v = .ref a ∧ SqT K H a vs ∧ RpAll K F H vs ts A := by
  unfold T.parts at e
  split at e
  · cases e
    cases h with
    | d h =>
      cases h with
      | tup h f => exact ⟨_, _, rfl, h, RpAll.ofFz f⟩
  · cases e
    cases h with
    | ot h r => exact ⟨_, _, rfl, .of h, r⟩
  · cases e
end
theorem qg_tup {es : List Expr} {k : Nat} {tgs : TGs} {r : MGs} (hc : X.calm = true) (h : QGs X pr es tgs r) {n : Nat} (hn : (assignEach es X.env).length = n := by rfl) (hst : (assignEach es X.env).findIdx? (·.1) = none := by rfl) : QG X pr (.Tuple es k pos) (gTup X.K n tgs) (mgTup n r) := by
  refine ⟨pg_tup hc h.pg hn hst, fun c H tv td σ ρ ρ' v t hl st e Q q => ?_⟩
  unfold mgTup at e
  cases ep : t.parts with
  | none => rw [ep] at e; cases e
  | some ts =>
    rw [ep] at e
    dsimp only at e
    split at e
    · rename_i hlen
      obtain ⟨A, w⟩ := st
      obtain ⟨A1, B, eA, x, s⟩ := w.top
      obtain ⟨a, vs, rfl, hq, ra⟩ := x.parts ep
      have hvt := ra.len
      refine ⟨a, vs, rfl, hq, by omega, ?_⟩
      exact h.sim c H tv td σ ρ ρ' vs ts hl hvt ⟨A1 ++ B, w.remake (fun b => by rw [eA]; exact Nat.le_refl _) (Sl.many ra s)⟩ e Q q
    · cases e
end
end L3
/-! L3f -/
/-! L3f: defs and their calls. -/
namespace L3
open PySem PySem.Spec PyProof.Rows L2

section
variable {K : PySem.W.Frag} {F F' : Addr → Prop} {H H' : Hp}
theorem Sl.raiseO : ∀ {xs : List (Option V)} {as : Env} {ys : List (Option V)} {bs : Env} {v : Option V} {t : Option T} {A : List Addr}, xs.length = as.length → Sl K F H (xs ++ v :: ys) (as ++ t :: bs) A →
    ∃ C, Sl K F H (v :: (xs ++ ys)) (t :: (as ++ bs)) C ∧ ∀ a, C.count a = A.count a
  | [], [], _, _, _, _, A, _, h => ⟨A, h, fun _ => rfl⟩
  | o :: xs, a :: as, ys, bs, v, t, _, hl, h => by
    have hl' : xs.length = as.length := by simpa using hl
    cases h with
    | skip r =>
      obtain ⟨C, s, z⟩ := r.raiseO hl'
      cases s with
      | cons x s => exact ⟨_, .cons x (.skip s), z⟩
      | skip s => exact ⟨_, .skip (.skip s), z⟩
    | cons y r =>
      rename_i u t0 A1 B1
      obtain ⟨C, s, z⟩ := r.raiseO hl'
      cases s with
      | cons x s =>
        rename_i A2 B2
        exact ⟨_, .cons x (.cons y s), fun a => by have := z a; simp only [List.count_append] at this ⊢; omega⟩
      | skip s => exact ⟨_, .skip (.cons y s), fun a => by have := z a; simp only [List.count_append] at this ⊢; omega⟩
  | [], _ :: _, _, _, _, _, _, hl, _ => by simp at hl
  | _ :: _, [], _, _, _, _, _, hl, _ => by simp at hl
end

/-! ### what a def promises -/
def sel (io : List Nat) (vs : List V) : List V := io.filterMap fun i => vs[i]?
structure KeepF (H H' : Hp) (A : List Addr) : Prop where
  keep : ∀ a o, H a = some o → a ∉ A → H' a = some o
  there : ∀ a, H' a = none → H a = none
def EX (cl : Str → Option Addr) (E : XK) : Str → Hp → Prop := fun x H' => ∀ C, cl x = some C → E (.ref C) none H'
def spT (K : PySem.W.Frag) (rz : Bool) (cl : Str → Option Addr) (n : Nat) (io : List Nat) (m : List T → R (T × List T)) : Sp := fun vs H Q E => ∃ (ts : List T) (F : Addr → Prop) (A : List Addr), vs.length = n ∧ (∀ a, A.count a ≤ 1) ∧ RpAll K (fun a => F a ∧ a ∉ A) H vs ts A ∧
  Then (m ts) (fun r => ∀ v H' A', (∀ a, A'.count a ≤ 1) → (∀ a ∈ A', a ∈ A ∨ H a = none) → KeepF H H' A → (io = [] → A = [] → Same H H') → RpAll K (fun a => (F a ∨ H a = none ∨ a ∈ A) ∧ a ∉ A') H' (v :: sel io vs) (r.1 :: r.2) A' → Q v H') (fun x => rz = true ∧ ∀ H', KeepF H H' A → EX cl E x H')
def outs : List Nat → Env → R (List T)
  | [], _ => .ok []
  | i :: r, ρ => match ρ[i]? with
    | some (some t) => (outs r ρ).bind fun os => .ok (t :: os)
    | _ => .bad
def mFn (io : List Nat) (k : Nat) (ms : MS) : List T → R (T × List T) := fun ts => (ms (ts.map some ++ List.replicate k none)).bind fun o => match o with
  | .ret t ρ => (outs io ρ).bind fun os => .ok (t, os)
  | .next ρ => (outs io ρ).bind fun os => .ok (.d .none, os)
  | _ => .bad
section
variable {K : PySem.W.Frag} {F F' : Addr → Prop} {H H' : Hp}
theorem outs_cons {i : Nat} {r : List Nat} {ρ : Env} {os : List T} (e : outs (i :: r) ρ = .ok os) : ∃ t os', ρ[i]? = some (some t) ∧ outs r ρ = .ok os' ∧ os = t :: os' := by
  unfold outs at e
  split at e
  · rename_i t e0
    cases e1 : outs r ρ with
    | ok os' => rw [e1] at e; cases e; exact ⟨t, os', e0, rfl, rfl⟩
    | exc _ => rw [e1] at e; cases e
    | bad => rw [e1] at e; cases e
  · cases e
theorem outs_gone {i : Nat} : ∀ {r : List Nat} {ρ : Env} {os : List T}, i ∉ r → outs r ρ = .ok os → outs r (ρ.set i none) = .ok os
  | [], _, _, _, e => e
  | j :: r, ρ, os, h, e => by
    obtain ⟨t, os', e1, e2, rfl⟩ := outs_cons e
    have hj : i ≠ j := fun z => h (by rw [z]; exact List.mem_cons_self)
    have e3 := outs_gone (fun z => h (List.mem_cons_of_mem _ z)) e2
    unfold outs
    rw [List.getElem?_set_ne hj, e1]
    dsimp only
    rw [e3]
    rfl
/-- the named slots picked out -/
theorem Sl.pick {us : List V} : ∀ {io : List Nat} {sl : List (Option V)} {ρ : Env} {A : List Addr} {os : List T}, io.Nodup → (∀ i ∈ io, ∃ v, us[i]? = some v ∧ sl[i]? = some (some v)) → Sl K F H sl ρ A → outs io ρ = .ok os →
    ∃ A1 B, RpAll K F H (sel io us) os A1 ∧ ∀ a, A1.count a + List.count a B = A.count a
  | [], _, _, A, _, _, _, s, e => by cases e; exact ⟨[], A, .nil, fun a => by simp⟩
  | i :: io, sl, ρ, A, os, nd, hv, s, e => by
    obtain ⟨t, os', e1, e2, rfl⟩ := outs_cons e
    obtain ⟨v, hv1, hv2⟩ := hv i List.mem_cons_self
    have hi : i < sl.length := (List.getElem?_eq_some_iff.mp hv2).1
    obtain ⟨B, hb, ar, get⟩ := s.around hi
    obtain ⟨v', A1, e3, x, hc⟩ := get t e1
    have ev : v' = v := by rw [hv2] at e3; cases e3; rfl
    subst ev
    obtain ⟨C, s', z⟩ := ar.gone (some v')
    have hnd := List.nodup_cons.mp nd
    rw [set_self hv2] at s'
    obtain ⟨A2, B2, ra, hc2⟩ := Sl.pick (us := us) hnd.2 (fun j hj => hv j (List.mem_cons_of_mem _ hj)) s' (outs_gone hnd.1 e2)
    refine ⟨A1 ++ A2, B2, ?_, fun a => ?_⟩
    · have : sel (i :: io) us = v' :: sel io us := by unfold sel; rw [List.filterMap_cons, hv1]
      rw [this]
      exact .cons x ra
    · have h1 := hc a
      have h2 := hc2 a
      have h3 := z a
      rw [List.count_append]
      omega
theorem Sl.nones : ∀ (k : Nat) (sl : List (Option V)), sl.length = k → Sl K F H sl (List.replicate k none) []
  | 0, [], _ => .nil
  | k + 1, o :: sl, h => by
    rw [List.replicate_succ]
    exact .skip (Sl.nones k sl (by simpa using h))
  | 0, _ :: _, h => by simp at h
  | _ + 1, [], h => by simp at h
theorem start_eq (N : List Str) (vs : List V) : start N vs = vs.map some ++ List.replicate (N.length - vs.length) none := rfl
/-- the entry of a body, its end -/
theorem body_run {E : Str → Hp → Prop} {io : List Nat} {tb : TS} {ms : MS} {cl : Str → Option Addr} {N : List Str} {vs : List V} {Q : VK} {Ek : XK} {rz : Bool} {n : Nat} (sm : SimS0 K E io tb ms) (hE : ∀ x H', EX cl Ek x H' → E x H') (hnd : io.Nodup) (hio : ∀ i ∈ io, i < n)
    (h : spT K rz cl n io (mFn io (N.length - n) ms) vs H Q Ek) : tb { nx := fun _ H' => Q .non H', rt := Q } (start N vs) H := by
  obtain ⟨ts, F, A, hn, u, ra, q⟩ := h
  have hts := ra.len
  unfold mFn at q
  rw [then_bind] at q
  have c0 : Sl K (Fok ⟨H, A, F⟩ A) H (start N vs) (ts.map some ++ List.replicate (N.length - n) none) A := by
    rw [start_eq, hn]
    have r2 : RpAll K (Fok ⟨H, A, F⟩ A) H vs ts A := ra.mono (.sub fun a _ ⟨x, y⟩ => ⟨.inl x, y⟩) fun _ _ => rfl
    have := Sl.many r2 (Sl.nones (N.length - n) (List.replicate (N.length - n) none) (by simp))
    rwa [List.append_nil] at this
  have w0 : StW K ⟨H, A, F⟩ H (start N vs) (ts.map some ++ List.replicate (N.length - n) none) A := ⟨u, c0, fun a ha => .inl ha, ⟨fun _ _ e _ => e, fun _ e => e⟩⟩
  refine sm ⟨H, A, F⟩ H (start N vs) _ ⟨A, w0⟩ _ (q.mono ?_ fun x k H' kc => hE _ _ (k.2 H' ⟨kc.keep, kc.there⟩))
  have pickS : ∀ {σ' : L2.St} {H' : Hp} {ρ' : Env} {os : List T} {B : List Addr} {F1 : Addr → Prop}, SameIo io (start N vs) σ' → Sl K F1 H' σ' ρ' B → outs io ρ' = .ok os → ∃ A1 B1, RpAll K F1 H' (sel io vs) os A1 ∧ ∀ a, A1.count a + List.count a B1 = B.count a := by
    intro σ' H' ρ' os B F1 s' sl eo
    refine Sl.pick hnd (fun i hi => ?_) sl eo
    have h1 : i < vs.length := by have := hio i hi; omega
    refine ⟨vs[i], List.getElem?_eq_getElem h1, ?_⟩
    rw [s'.same i hi, start_eq, List.getElem?_append_left (by simpa using h1), List.getElem?_map, List.getElem?_eq_getElem h1]
    rfl
  have fin : ∀ {v : V} {t : T} {σ' : L2.St} {H' : Hp} {ρ' : Env} {os : List T}, SameIo io (start N vs) σ' → StR K ⟨H, A, F⟩ H' (some v :: σ') (some t :: ρ') → outs io ρ' = .ok os →
      (∀ v H' A', (∀ a, A'.count a ≤ 1) → (∀ a ∈ A', a ∈ A ∨ H a = none) → KeepF H H' A → (io = [] → A = [] → Same H H') → RpAll K (fun a => (F a ∨ H a = none ∨ a ∈ A) ∧ a ∉ A') H' (v :: sel io vs) (t :: os) A' → Q v H') → Q v H' := by
    intro v t σ' H' ρ' os s' st eo k
    obtain ⟨A2, w⟩ := st
    obtain ⟨A3, B, eA, x, s⟩ := w.top
    obtain ⟨A4, B4, rr, hc⟩ := pickS s' s eo
    have hle : ∀ a, (A3 ++ A4).count a ≤ A2.count a := fun a => by rw [eA, List.count_append, List.count_append]; have := hc a; omega
    refine k v H' (A3 ++ A4) (fun a => Nat.le_trans (hle a) (w.uniq a)) (fun a ha => ?_) ⟨w.keep.keep, w.keep.there⟩ (fun _ eA0 a o e => w.keep.keep a o e (by rw [eA0]; simp)) ?_
    · exact w.own a (List.count_pos_iff.mp (Nat.lt_of_lt_of_le (List.count_pos_iff.mpr ha) (hle a)))
    · exact (RpAll.cons x rr).mono (.sub fun a _ => Fok.sub hle a) fun _ _ => rfl
  intro o qo
  cases o with
  | ret t ρ' =>
    intro v σ' H' s' st
    cases eo : outs io ρ' with
    | ok os =>
      have qo' : Then ((outs io ρ').bind fun os => R.ok (t, os)) _ _ := qo
      rw [eo] at qo'
      exact fin s' st eo qo'
    | exc _ => have qo' : Then ((outs io ρ').bind fun os => R.ok (t, os)) _ _ := qo; rw [eo] at qo'; exact (outs_noexc eo).elim
    | bad => have qo' : Then ((outs io ρ').bind fun os => R.ok (t, os)) _ _ := qo; rw [eo] at qo'; exact qo'.elim
  | next ρ' =>
    intro σ' H' s' st
    have st2 : StR K ⟨H, A, F⟩ H' (some .non :: σ') (some (.d .none) :: ρ') := st.pushC fun _ _ => .non
    cases eo : outs io ρ' with
    | ok os =>
      have qo' : Then ((outs io ρ').bind fun os => R.ok (T.d .none, os)) _ _ := qo
      rw [eo] at qo'
      exact fin s' st2 eo qo'
    | exc _ => have qo' : Then ((outs io ρ').bind fun os => R.ok (T.d .none, os)) _ _ := qo; rw [eo] at qo'; exact (outs_noexc eo).elim
    | bad => have qo' : Then ((outs io ρ').bind fun os => R.ok (T.d .none, os)) _ _ := qo; rw [eo] at qo'; exact qo'.elim
  | brk ρ' => exact qo.elim
  | cont ρ' => exact qo.elim
where
  outs_noexc {io : List Nat} {ρ : Env} {x : Str} (e : outs io ρ = .exc x) : False := by
    induction io with
    | nil => cases e
    | cons i r ih =>
      unfold outs at e
      split at e
      · cases e1 : outs r ρ with
        | ok os => rw [e1] at e; cases e
        | exc y => rw [e1] at e; cases e; exact ih e1
        | bad => rw [e1] at e; cases e
      · cases e
end
section
variable {P : Program} {w : World} {K : PySem.W.Frag} {mg : Str → Option Value} {base : Heap} {cl : Str → Option Addr}
/-- THE RULE for a def that raises nothing -/
theorem fnT {x qual : Str} {st : Stmt} {f : Addr} {fd : FuncData} {N ps : List Str} {k : Nat} {io : List Nat} {ms : MS} (Fu : Fun K x qual st f fd) (S : FnScope N ps (defScope st)) (hnd : io.Nodup) (hio : ∀ i ∈ io, i < ps.length)
    (body : ∀ (cdv : Value) (A : Around) (outer : List PySem.Env) (s : Shared) (H : Hp) (E : XK), Room k (A.deeper (envOfC qual (defScope st) s.heap.objs.size f cdv)) →
      ∃ t, QSs ((cxOf CX0 P w K mg base N qual (defScope st) f cdv A outer s H E).nox) (EX cl E0) io (defBody st) t ms) : FnOk P w K mg base CX0 (k + 1) f fd ps (spT K false cl ps.length io (mFn io (N.length - ps.length) ms)) := by
  refine Fu.ok S (fun vs H Q E h => by obtain ⟨_, _, _, h, _⟩ := h; exact h) fun cdv A outer s H vs Q E hr h => ?_
  obtain ⟨t, b⟩ := body cdv A outer s H E hr
  refine ⟨t, b.ps, ?_⟩
  obtain ⟨ts, F, A1, h1, h2, h3, h4⟩ := h
  exact body_run (Ek := E0) (rz := false) b.sim.z (fun _ _ z => z) hnd hio ⟨ts, F, A1, h1, h2, h3, h4.mono (fun _ z => z) fun _ z => by cases z.1⟩
/-- for a def that raises nothing, with a try at its own level -/
theorem fnT0 {x qual : Str} {st : Stmt} {f : Addr} {fd : FuncData} {N ps : List Str} {k : Nat} {io : List Nat} {ms : MS} (Fu : Fun K x qual st f fd) (S : FnScope N ps (defScope st)) (hnd : io.Nodup) (hio : ∀ i ∈ io, i < ps.length)
    (body : ∀ (cdv : Value) (A : Around) (outer : List PySem.Env) (s : Shared) (H : Hp) (E : XK), Room k (A.deeper (envOfC qual (defScope st) s.heap.objs.size f cdv)) →
      ∃ t, QSs0 ((cxOf CX0 P w K mg base N qual (defScope st) f cdv A outer s H E).nox) (EX cl E0) io (defBody st) t ms) : FnOk P w K mg base CX0 (k + 1) f fd ps (spT K false cl ps.length io (mFn io (N.length - ps.length) ms)) := by
  refine Fu.ok S (fun vs H Q E h => by obtain ⟨_, _, _, h, _⟩ := h; exact h) fun cdv A outer s H vs Q E hr h => ?_
  obtain ⟨t, b⟩ := body cdv A outer s H E hr
  refine ⟨t, b.ps, ?_⟩
  obtain ⟨ts, F, A1, h1, h2, h3, h4⟩ := h
  exact body_run (Ek := E0) (rz := false) b.sim (fun _ _ z => z) hnd hio ⟨ts, F, A1, h1, h2, h3, h4.mono (fun _ z => z) fun _ z => by cases z.1⟩
/-- for a def that may raise -/
theorem fnTX {x qual : Str} {st : Stmt} {f : Addr} {fd : FuncData} {N ps : List Str} {k : Nat} {io : List Nat} {ms : MS} (Fu : Fun K x qual st f fd) (S : FnScope N ps (defScope st)) (hnd : io.Nodup) (hio : ∀ i ∈ io, i < ps.length)
    (body : ∀ (cdv : Value) (A : Around) (outer : List PySem.Env) (s : Shared) (H : Hp) (E : XK), Room k (A.deeper (envOfC qual (defScope st) s.heap.objs.size f cdv)) →
      ∃ t, QSs (cxOf (L2.CX P w) P w K mg base N qual (defScope st) f cdv A outer s H E) (EX cl E) io (defBody st) t ms) : FnOk P w K mg base (L2.CX P w) (k + 1) f fd ps (spT K true cl ps.length io (mFn io (N.length - ps.length) ms)) := by
  refine Fu.okX S (fun vs H Q E h => by obtain ⟨_, _, _, h, _⟩ := h; exact h) fun cdv A outer s H vs Q E hr h => ?_
  obtain ⟨t, b⟩ := body cdv A outer s H E hr
  exact ⟨t, b.ps, body_run (Ek := E) b.sim.z (fun _ _ z => z) hnd hio h⟩
end

/-! ### calls -/
abbrev MB := Env → R (List (Option T) × Env)
/-- arguments; an owned tree that is handed by its name (kinds: its slot) stays there until the call -/
def SimB (K : PySem.W.Frag) (E : Str → Hp → Prop) (gr : Bool) (ks : List (Option Nat)) (ta : TA) (m : MB) : Prop :=
  ∀ (c : C0) (H : Hp) (tv : List (Option V)) (td : Env) (σ : L2.St) (ρ : Env), tv.length = td.length → StR K c H (tv ++ σ) (td ++ ρ) → ∀ Q : List V → Hp → Prop,
    Then (m ρ) (fun r => ∀ vs H', (gr = true → Same H H') → vs.length = r.1.length → (∀ (j i : Nat), ks[j]? = some (some i) → ∃ v, vs[j]? = some v ∧ σ[i]? = some (some v)) → StR K c H' (vs.map some ++ (tv ++ σ)) (r.1 ++ (td ++ r.2)) → Q vs H') (fun x => ∀ H', KeepC c H' → E x H') → ta σ H Q
structure QB (X : Cx) (E : Str → Hp → Prop) (gr : Bool) (ks : List (Option Nat)) (es : List Expr) (ta : TA) (m : MB) : Prop where
  pa : PA X es ta
  sim : SimB X.K E gr ks ta m
def mbNil : MB := fun ρ => .ok ([], ρ)
def mbCons (m : MEx) (r : MB) : MB := fun ρ => (m ρ).bind fun x => (r x.2).bind fun y => .ok (some x.1 :: y.1, y.2)
def mbIo (i : Nat) (r : MB) : MB := fun ρ => match ρ[i]? with | some (some _) => (r ρ).bind fun y => .ok (none :: y.1, y.2) | _ => .bad
theorem StR.raiseO {K : PySem.W.Frag} {c : C0} {H : Hp} {xs : List (Option V)} {as : Env} {ys : List (Option V)} {bs : Env} {v : Option V} {t : Option T} (hl : xs.length = as.length) (h : StR K c H (xs ++ v :: ys) (as ++ t :: bs)) : StR K c H (v :: (xs ++ ys)) (t :: (as ++ bs)) := by
  obtain ⟨A, w⟩ := h
  obtain ⟨C, s, z⟩ := w.slots.raiseO hl
  exact ⟨C, w.remake (fun a => Nat.le_of_eq (z a)) s⟩
section
variable {X : Cx} {E : Str → Hp → Prop} {e : Expr} {es : List Expr} {te : TE} {t : TA} {m : MEx} {r : MB} {ks : List (Option Nat)} {g1 g2 : Bool} {pos : Pos}
theorem qb_nil : QB X E true [] [] tNil mbNil := ⟨pa_nil, fun c H tv td σ ρ hl st Q q => q [] H (fun _ => Same.refl H) rfl (fun _ _ z => by simp at z) st⟩
theorem qb_cons (h : QE X E g1 e te m) (hr : QB X E g2 ks es t r) (hs : starEach (e :: es) X.env = (false, eval e X.env) :: starEach es X.env := by rfl) : QB X E (g1 && g2) (none :: ks) (e :: es) (tCons te t) (mbCons m r) := by
  refine ⟨pa_cons h.pe hr.pa hs, fun c H tv td σ ρ hl st Q q => ?_⟩
  unfold mbCons at q
  rw [then_bind] at q
  refine h.sim c H tv td σ ρ hl st _ (q.imp ?_)
  intro x q1 v H1 sm1 st1
  rw [then_bind] at q1
  refine hr.sim c H1 (some v :: tv) (some x.1 :: td) σ x.2 (by simp [hl]) st1 _ (q1.imp ?_)
  intro y q2 vs H2 sm2 hvs hk st2
  refine q2 (v :: vs) H2 (fun e => by rw [Bool.and_eq_true] at e; exact (sm1 e.1).trans (sm2 e.2)) (by simp [hvs]) (fun j i z => ?_) ?_
  · cases j with
    | zero => simp at z
    | succ j => exact hk j i (by simpa using z)
  · exact StR.raiseO (xs := vs.map some) (as := y.1) (by simp [hvs]) st2
theorem qb_io (i : Nat) {x : Str} {p : Pos} (hr : QB X E g2 ks es t r) (hN : X.N[i]? = some x := by rfl) (hv : Vis X.env.scope x := by first | exact Or.inl rfl | exact Or.inr (Or.inl rfl) | exact Or.inr (Or.inr rfl)) (hd : (x == ("__debug__" : Str)) = false := by decide)
    (hcd : (x == ("__classdict__" : Str)) = false := by decide) (hs : starEach (.Name x p :: es) X.env = (false, eval (.Name x p) X.env) :: starEach es X.env := by rfl) : QB X E g2 (some i :: ks) (.Name x p :: es) (tCons (tVar i) t) (mbIo i r) := by
  refine ⟨pa_cons (pe_var hN hv hd hcd) hr.pa hs, fun c H tv td σ ρ hl st Q q => ?_⟩
  unfold mbIo at q
  split at q
  · rename_i t0 e0
    rw [then_bind] at q
    obtain ⟨A, w⟩ := st
    obtain ⟨v, A1, e3, _, _⟩ := w.see hl e0
    refine ⟨v, e3, ?_⟩
    have st' : StR X.K c H ((some v :: tv) ++ σ) ((none :: td) ++ ρ) := ⟨A, w.uniq, .skip w.slots, w.own, w.keep⟩
    refine hr.sim c H (some v :: tv) (none :: td) σ ρ (by simp [hl]) st' _ (q.imp ?_)
    intro y q2 vs H2 sm2 hvs hk st2
    refine q2 (v :: vs) H2 sm2 (by simp [hvs]) (fun j i' z => ?_) ?_
    · cases j with
      | zero =>
        have : i = i' := by simpa using z
        subst this
        exact ⟨v, rfl, e3⟩
      | succ j => exact hk j i' (by simpa using z)
    · exact StR.raiseO (xs := vs.map some) (as := y.1) (by simp [hvs]) st2
  · exact q.elim
end
/-- the owned trees come out of their slots, and go back -/
def fillIo : List (Option Nat) → List (Option T) → Env → Option (List T × Env)
  | [], [], ρ => some ([], ρ)
  | none :: ks, some t :: ts, ρ => (fillIo ks ts ρ).map fun r => (t :: r.1, r.2)
  | some i :: ks, none :: ts, ρ => match ρ[i]? with
    | some (some t) => (fillIo ks ts (ρ.set i none)).map fun r => (t :: r.1, r.2)
    | _ => none
  | _, _, _ => none
def putIo : List Nat → List T → Env → Option Env
  | [], [], ρ => some ρ
  | i :: is, t :: ts, ρ => putIo is ts (ρ.set i (some t))
  | _, _, _ => none
def R.nx {α : Type} : R α → R α
  | .exc _ => .bad
  | r => r
section
variable {K : PySem.W.Frag} {F F' : Addr → Prop} {H H' : Hp}
theorem Sl.fill {tv : List (Option V)} {td : Env} {σ : L2.St} (hl : tv.length = td.length) : ∀ {ks : List (Option Nat)} {vs : List V} {os : List (Option T)} {ρ ρ2 : Env} {ts : List T} {A : List Addr}, vs.length = os.length →
    (∀ (j i : Nat), ks[j]? = some (some i) → ∃ v, vs[j]? = some v ∧ σ[i]? = some (some v)) → Sl K F H (vs.map some ++ (tv ++ σ)) (os ++ (td ++ ρ)) A → fillIo ks os ρ = some (ts, ρ2) →
    ∃ A1 B, RpAll K F H vs ts A1 ∧ Sl K F H (tv ++ σ) (td ++ ρ2) B ∧ ∀ a, A1.count a + B.count a = A.count a
  | [], [], [], ρ, ρ2, ts, A, _, _, s, e => by
    cases e
    exact ⟨[], A, .nil, s, fun a => by simp⟩
  | none :: ks, v :: vs, some t :: os, ρ, ρ2, ts, A, hv, hk, s, e => by
    unfold fillIo at e
    obtain ⟨r, e1, e2⟩ := Option.map_eq_some_iff.mp e
    cases e2
    cases s with
    | cons x s =>
      rename_i A0 B0
      obtain ⟨A1, B, ra, s', hc⟩ := Sl.fill hl (by simpa using hv) (fun j i z => hk (j + 1) i (by simpa using z)) s e1
      exact ⟨A0 ++ A1, B, .cons x ra, s', fun a => by have := hc a; rw [List.count_append, List.count_append]; omega⟩
  | some i :: ks, v :: vs, none :: os, ρ, ρ2, ts, A, hv, hk, s, e => by
    unfold fillIo at e
    split at e
    · rename_i t e0
      obtain ⟨r, e1, e2⟩ := Option.map_eq_some_iff.mp e
      cases e2
      obtain ⟨v', h1, h2⟩ := hk 0 i rfl
      have ev : v = v' := by simpa using h1
      subst ev
      cases s with
      | skip s0 =>
        have s : Sl K F H (vs.map some ++ (tv ++ σ)) (os ++ (td ++ ρ)) A := s0
        have hv' : vs.length = os.length := by simpa using hv
        have hlen := s.len
        have hi : i < σ.length := (List.getElem?_eq_some_iff.mp h2).1
        obtain ⟨B0, hb, ar, get⟩ := s.around (i := vs.length + (tv.length + i)) (by simp only [List.length_append, List.length_map]; omega)
        have e3 : (os ++ (td ++ ρ))[vs.length + (tv.length + i)]? = some (some t) := by rw [app_at hv'.symm, app_at hl.symm, e0]
        obtain ⟨v2, A2, e4, x, hc⟩ := get t e3
        have e5 : (vs.map some ++ (tv ++ σ))[vs.length + (tv.length + i)]? = some (some v) := by rw [app_at (by simp), app_at rfl, h2]
        have : v2 = v := by rw [e4] at e5; cases e5; rfl
        subst this
        obtain ⟨C, s', z⟩ := ar.gone (some v2)
        rw [app_set (by simp), app_set rfl, set_self h2, app_set hv'.symm, app_set hl.symm] at s'
        obtain ⟨A1, B, ra, s2, hc2⟩ := Sl.fill hl hv' (fun j i z => hk (j + 1) i (by simpa using z)) s' e1
        exact ⟨A2 ++ A1, B, .cons x ra, s2, fun a => by have := hc a; have := hc2 a; have := z a; rw [List.count_append]; omega⟩
    · cases e
  | [], _ :: _, some _ :: _, _, _, _, _, hv, _, _, e => by cases e
  | [], _ :: _, none :: _, _, _, _, _, hv, _, _, e => by cases e
  | [], _ :: _, [], _, _, _, _, hv, _, _, e => by simp at hv
  | [], [], _ :: _, _, _, _, _, hv, _, _, e => by simp at hv
  | none :: _, [], [], _, _, _, _, _, hk, _, e => by cases e
  | some _ :: _, [], [], _, _, _, _, _, hk, _, e => by cases e
  | _ :: _, [], _ :: _, _, _, _, _, hv, _, _, e => by simp at hv
  | _ :: _, _ :: _, [], _, _, _, _, hv, _, _, e => by simp at hv
  | none :: _, _ :: _, none :: _, _, _, _, _, hv, _, _, e => by cases e
  | some _ :: _, _ :: _, some _ :: _, _, _, _, _, hv, _, _, e => by cases e
theorem Sl.putIo {tv : List (Option V)} {td : Env} {σ : L2.St} (hl : tv.length = td.length) : ∀ {is : List Nat} {us : List V} {os : List T} {ρ ρ2 : Env} {A B : List Addr}, RpAll K F H us os A → (∀ (j i : Nat), is[j]? = some i → ∃ v, us[j]? = some v ∧ σ[i]? = some (some v)) → us.length = is.length →
    Sl K F H (tv ++ σ) (td ++ ρ) B → L3.putIo is os ρ = some ρ2 → ∃ C, Sl K F H (tv ++ σ) (td ++ ρ2) C ∧ ∀ a, C.count a ≤ A.count a + B.count a
  | [], _, [], ρ, ρ2, A, B, ra, _, _, s, e => by
    cases e
    exact ⟨B, s, fun a => by omega⟩
  | i :: is, u :: us, o :: os, ρ, ρ2, _, B, ra, hk, hz, s, e => by
    cases ra with
    | cons x r =>
    rename_i A1 A2
    have e' : L3.putIo is os (ρ.set i (some o)) = some ρ2 := e
    obtain ⟨v, h1, h2⟩ := hk 0 i rfl
    have ev : u = v := by simpa using h1
    subst ev
    have hlen := s.len
    have hi : i < σ.length := (List.getElem?_eq_some_iff.mp h2).1
    obtain ⟨B0, hb, ar, _⟩ := s.around (i := tv.length + i) (by rw [List.length_append]; omega)
    obtain ⟨C, s', z⟩ := ar.put (Mono.sub fun _ _ x => x) (fun _ _ => rfl) x
    rw [app_set rfl, set_self h2, app_set hl.symm] at s'
    obtain ⟨C2, s2, z2⟩ := Sl.putIo hl r (fun j i z => hk (j + 1) i (by simpa using z)) (by simpa using hz) s' e'
    exact ⟨C2, s2, fun a => by have := z2 a; have := z a; have := hb a; rw [List.count_append]; omega⟩
  | _ :: _, [], _, _, _, _, _, _, _, hz, _, _ => by simp at hz
  | _ :: _, _ :: _, [], _, _, _, _, _, _, _, _, e => by cases e
  | [], _, _ :: _, _, _, _, _, _, _, _, _, e => by cases e
end
def posOf : List (Option Nat) → Nat → List Nat
  | [], _ => []
  | some _ :: r, n => n :: posOf r (n + 1)
  | none :: r, n => posOf r (n + 1)
theorem posOf_len : ∀ (ks : List (Option Nat)) (n : Nat), (posOf ks n).length = (ks.filterMap id).length
  | [], _ => rfl
  | some _ :: r, n => by show _ + 1 = _; rw [posOf_len r]; rfl
  | none :: r, n => posOf_len r (n + 1)
theorem posOf_at {σ : L2.St} {vs0 : List V} : ∀ {ks : List (Option Nat)} {n : Nat}, (∀ (j i : Nat), ks[j]? = some (some i) → ∃ v, vs0[n + j]? = some v ∧ σ[i]? = some (some v)) →
    (sel (posOf ks n) vs0).length = (ks.filterMap id).length ∧ ∀ (j i : Nat), (ks.filterMap id)[j]? = some i → ∃ v, (sel (posOf ks n) vs0)[j]? = some v ∧ σ[i]? = some (some v)
  | [], n, _ => ⟨rfl, fun j i z => by simp at z⟩
  | none :: r, n, h => posOf_at (ks := r) (n := n + 1) fun j i z => by
      have := h (j + 1) i (by simpa using z)
      rwa [show n + (j + 1) = n + 1 + j by omega] at this
  | some i0 :: r, n, h => by
    obtain ⟨v, h1, h2⟩ := h 0 i0 rfl
    obtain ⟨a, b⟩ := posOf_at (ks := r) (n := n + 1) fun j i z => by
      have := h (j + 1) i (by simpa using z)
      rwa [show n + (j + 1) = n + 1 + j by omega] at this
    have e : sel (posOf (some i0 :: r) n) vs0 = v :: sel (posOf r (n + 1)) vs0 := by
      show List.filterMap _ (n :: posOf r (n + 1)) = _
      rw [List.filterMap_cons, show vs0[n]? = some v by simpa using h1]
      rfl
    rw [e]
    refine ⟨by simp [a], fun j i z => ?_⟩
    cases j with
    | zero =>
      have : i0 = i := by simpa using z
      subst this
      exact ⟨v, rfl, h2⟩
    | succ j => exact b j i (by simpa using z)
def allData : List T → Bool
  | [] => true
  | .d _ :: r => allData r
  | _ => false
theorem RpAll.allData {K : PySem.W.Frag} {F : Addr → Prop} {H : Hp} : ∀ {vs : List V} {ts : List T} {A : List Addr}, RpAll K F H vs ts A → L3.allData ts = true → A = []
  | _, _, _, .nil, _ => rfl
  | _, .d _ :: _, _, .cons x r, e => by
    cases x with
    | d _ => exact r.allData e
  | _, .ol _ :: _, _, .cons _ _, e => by cases e
  | _, .ot _ :: _, _, .cons _ _, e => by cases e
  | _, .od _ _ :: _, _, .cons _ _, e => by cases e
  | _, .rd _ :: _, _, .cons _ _, e => by cases e
theorem nx_red {α : Type} {rz : Bool} {r : R α} {P P' : α → Prop} {E E' : Str → Prop} (h : Then (if rz = true then r else r.nx) P E) (hp : ∀ a, P a → P' a) (he : ∀ x, E x → E' x) : Then r P' (fun x => rz = true ∧ E' x) := by
  cases rz with
  | true =>
    rw [if_pos rfl] at h
    exact h.mono hp fun x z => ⟨rfl, he x z⟩
  | false =>
    rw [if_neg (by decide)] at h
    cases r with
    | ok a => exact hp a h
    | exc x => exact h.elim
    | bad => exact h.elim
section
variable {X : Cx} {CX : CXT} {k : Nat} {f : Addr} {fd : FuncData} {ps : List Str} {Ek : XK} {cl : Str → Option Addr} {x : Str} {p pos : Pos} {e : Expr} {es : List Expr} {t : TA} {mb : MB} {ks : List (Option Nat)} {io : List Nat} {fm : List T → R (T × List T)} {rz g : Bool} {n : Nat}
theorem sim_call {K : PySem.W.Frag} (hio : io = posOf ks 0) (sb : SimB K (EX cl Ek) g ks t mb) {gz : Bool} (hg : gz = true → g = true ∧ io = []) : SimE K (EX cl Ek) gz (tCall (spT K rz cl n io fm) [] Ek t) (fun ρ => (mb ρ).bind fun r => (ofO (fillIo ks r.1 r.2)).bind fun s =>
    guard (!gz || allData s.1) ((if decide (s.1.length = n) then (if rz = true then fm s.1 else (fm s.1).nx) else .bad).bind fun z => (ofO (putIo (ks.filterMap id) z.2 s.2)).bind fun ρ' => .ok (z.1, ρ'))) := by
  intro c H tv td σ ρ hl st Q q
  rw [then_bind] at q
  refine sb c H tv td σ ρ hl st _ (q.imp ?_)
  intro r q1 vs H1 sm1 hvs hk st1
  rw [then_bind] at q1
  obtain ⟨s, es, q1⟩ := then_ofO.mp q1
  obtain ⟨gd, q1⟩ := then_guard.mp q1
  rw [then_bind] at q1
  have hn : s.1.length = n := by
    by_cases h : s.1.length = n
    · exact h
    · rw [if_neg (by simp [h])] at q1; exact q1.elim
  rw [if_pos (by simp [hn])] at q1
  obtain ⟨A, w⟩ := st1
  obtain ⟨A1, B, ra, sl, hc⟩ := w.slots.fill hl hvs hk es
  have hA1 : ∀ a, A1.count a ≤ A.count a := fun a => by have := hc a; omega
  have hB : ∀ a, B.count a ≤ A.count a := fun a => by have := hc a; omega
  have mem1 : ∀ a ∈ A1, a ∈ A := fun a ha => List.count_pos_iff.mp (Nat.lt_of_lt_of_le (List.count_pos_iff.mpr ha) (hA1 a))
  have memB : ∀ a ∈ B, a ∈ A := fun a ha => List.count_pos_iff.mp (Nat.lt_of_lt_of_le (List.count_pos_iff.mpr ha) (hB a))
  have apart : ∀ a ∈ B, a ∉ A1 := fun a ha z => by
    have h1 := List.count_pos_iff.mpr ha
    have h2 := List.count_pos_iff.mpr z
    have h3 := hc a
    have h4 := w.uniq a
    omega
  have thereB : ∀ a ∈ B, H1 a ≠ none := fun a ha e => by
    rcases sl.own a ha with ⟨xs, z⟩ | ⟨xs, z⟩ <;> (rw [e] at z; cases z)
  show spT K rz cl n io fm (vs ++ []) H1 Q Ek
  rw [List.append_nil]
  refine ⟨s.1, Fok c A, A1, by rw [ra.len, hn], fun a => Nat.le_trans (hA1 a) (w.uniq a), ra.mono (.sub fun a _ z => ⟨z, fun y => z.2 (mem1 a y)⟩) fun _ _ => rfl, ?_⟩
  have kc : ∀ {H' : Hp}, KeepF H1 H' A1 → KeepC c H' := fun {H'} kf => ⟨fun a o e n => kf.keep a o (w.keep.keep a o e n) fun ha => by
    rcases w.own a (mem1 a ha) with z | z
    · exact n z
    · exact absurd (e.symm.trans z) (by intro y; cases y), fun a e => w.keep.there a (kf.there a e)⟩
  refine nx_red q1 (fun z q2 => ?_) (fun y q2 H' kf => q2 H' (kc kf))
  rw [then_bind] at q2
  obtain ⟨ρ', ep, q2⟩ := then_ofO.mp q2
  intro v H' A' u' own' kf same rr
  cases rr with
  | cons xv rio =>
    rename_i C0 C1
    have own2 : ∀ a ∈ C0 ++ C1, a ∈ c.A0 ∨ c.H0 a = none := fun a ha => by
      rcases own' a ha with z | z
      · exact w.own a (mem1 a z)
      · exact .inr (w.keep.there a z)
    have eqB : ∀ a ∈ B, H' a = H1 a := fun a ha => by
      rcases sl.own a ha with ⟨xs, z⟩ | ⟨xs, z⟩ <;> rw [z, kf.keep a _ z (apart a ha)]
    have dis : ∀ a ∈ B, a ∉ C0 ++ C1 := fun a ha z => by
      rcases own' a z with y | y
      · exact apart a ha y
      · exact thereB a ha y
    have tot : ∀ a, (C0 ++ C1).count a + B.count a ≤ 1 := fun a => by
      by_cases ha : a ∈ B
      · rw [List.count_eq_zero.mpr (dis a ha)]; have := hB a; have := w.uniq a; omega
      · rw [List.count_eq_zero.mpr ha]; exact u' a
    let G : Addr → Prop := fun a => (c.F0 a ∨ c.H0 a = none ∨ a ∈ c.A0) ∧ a ∉ C0 ++ C1 ∧ a ∉ B
    have mG : Mono (Fok c A) G H1 H' := ⟨fun a vs e f => by
      have na : a ∉ A := f.2
      have e2 := kf.keep a _ e fun z => na (mem1 a z)
      refine ⟨e2, f.1, fun z => ?_, fun z => na (memB a z)⟩
      rcases own' a z with y | y
      · exact na (mem1 a y)
      · exact absurd (e.symm.trans y) (by intro y; cases y), fun a u e st => kf.keep a u e fun z => by
        rcases ra.own a z with ⟨xs, y⟩ | ⟨xs, y⟩ <;> (rw [e] at y; cases y; exact st.elim)⟩
    have mR : Mono (fun a => (Fok c A a ∨ H1 a = none ∨ a ∈ A1) ∧ a ∉ C0 ++ C1) G H' H' := .sub fun a _ ⟨h1, h2⟩ => by
      rcases h1 with h1 | h1 | h1
      · exact ⟨h1.1, h2, fun z => h1.2 (memB a z)⟩
      · exact ⟨.inr (.inl (w.keep.there a h1)), h2, fun z => thereB a z h1⟩
      · refine ⟨?_, h2, fun z => apart a z h1⟩
        rcases w.own a (mem1 a h1) with y | y
        · exact .inr (.inr y)
        · exact .inr (.inl y)
    have sl2 : Sl K G H' (tv ++ σ) (td ++ s.2) B := sl.mono mG eqB
    obtain ⟨hlen, hat⟩ := posOf_at (σ := σ) (vs0 := vs) (ks := ks) (n := 0) fun j i z => by rw [Nat.zero_add]; exact hk j i z
    rw [← hio] at hlen hat
    obtain ⟨C2, s3, hc3⟩ := sl2.putIo hl (rio.mono mR fun _ _ => rfl) hat hlen ep
    have hfin : ∀ a, (C0 ++ C2).count a ≤ (C0 ++ C1).count a + B.count a := fun a => by rw [List.count_append, List.count_append]; have := hc3 a; omega
    refine q2 v H' (fun e => ?_) ⟨C0 ++ C2, fun a => Nat.le_trans (hfin a) (tot a), ?_, fun a ha => ?_, kc kf⟩
    · obtain ⟨g1, g2⟩ := hg e
      have ad : allData s.1 = true := by rw [e] at gd; simpa using gd
      exact (sm1 g1).trans (same g2 (ra.allData ad))
    · have m3 : Mono G (Fok c (C0 ++ C2)) H' H' := .sub fun a _ ⟨h1, h2, h3⟩ => ⟨h1, fun z => by
        have := hfin a
        have := List.count_pos_iff.mpr z
        rw [List.count_eq_zero.mpr h2, List.count_eq_zero.mpr h3] at *
        omega⟩
      exact (Sl.cons (xv.mono mR fun _ _ => rfl) s3).mono m3 fun _ _ => rfl
    · have h1 := hfin a
      have h2 := List.count_pos_iff.mpr ha
      by_cases hb : a ∈ B
      · exact w.own a (memB a hb)
      · rw [List.count_eq_zero.mpr hb] at h1
        exact own2 a (List.count_pos_iff.mp (by omega))
def mCallF (rz gz : Bool) (n : Nat) (fm : List T → R (T × List T)) (ks : List (Option Nat)) (mb : MB) : MEx := fun ρ => (mb ρ).bind fun r => (ofO (fillIo ks r.1 r.2)).bind fun s =>
    guard (!gz || allData s.1) ((if decide (s.1.length = n) then (if rz = true then fm s.1 else (fm s.1).nx) else .bad).bind fun z => (ofO (putIo (ks.filterMap id) z.2 s.2)).bind fun ρ' => .ok (z.1, ρ'))
theorem qe_call (Fn : FnOk X.prog X.w X.K X.mg X.base CX k f fd ps (spT X.K rz cl n io fm)) (hr : Room k X.A) (hm : X.mg x = some (.ref f)) (hk : PySem.W.keepIn X.K (.ref f) = true) (hb : Binds X.K fd ps []) (hx : Passes CX X Ek)
    (ha : QB X (EX cl Ek) g ks (e :: es) t mb) (hio : io = posOf ks 0 := by rfl) (hg : Gl X x := by rfl) (hdb : (x == ("__debug__" : Str)) = false := by decide) (he : starEach (e :: es) X.env = (false, eval e X.env) :: starEach es X.env := by rfl) (hpl : (backTo pos (starEach es X.env)).any (·.1) = false := by rfl) :
    QE X (EX cl Ek) false (.Call (.Name x p) (e :: es) [] pos) (tCall (spT X.K rz cl n io fm) [] Ek t) (mCallF rz false n fm ks mb) := ⟨pe_call Fn hr hg hm hk hb .nil hx ha.pa hdb he hpl, sim_call hio ha.sim fun z => by cases z⟩
theorem qe_callG (Fn : FnOk X.prog X.w X.K X.mg X.base CX k f fd ps (spT X.K rz cl n io fm)) (hr : Room k X.A) (hm : X.mg x = some (.ref f)) (hk : PySem.W.keepIn X.K (.ref f) = true) (hb : Binds X.K fd ps []) (hx : Passes CX X Ek)
    (ha : QB X (EX cl Ek) true ks (e :: es) t mb) (hio : io = posOf ks 0 := by rfl) (hi0 : io = [] := by rfl) (hg : Gl X x := by rfl) (hdb : (x == ("__debug__" : Str)) = false := by decide) (he : starEach (e :: es) X.env = (false, eval e X.env) :: starEach es X.env := by rfl) (hpl : (backTo pos (starEach es X.env)).any (·.1) = false := by rfl) :
    QE X (EX cl Ek) true (.Call (.Name x p) (e :: es) [] pos) (tCall (spT X.K rz cl n io fm) [] Ek t) (mCallF rz true n fm ks mb) := ⟨pe_call Fn hr hg hm hk hb .nil hx ha.pa hdb he hpl, sim_call hio ha.sim fun _ => ⟨rfl, hi0⟩⟩
end
end L3
/-! L3g -/
/-! L3g: loops and comprehensions. -/
namespace L3
open PySem PySem.Spec PyProof.Rows L2

/-! ### the loop of a for -/
def mLoop (g : MG) (body : MS) : List T → Env → R Out
  | [], ρ => .ok (.next ρ)
  | x :: xs, ρ => (ofO (g x ρ)).bind fun ρ1 => (body ρ1).bind fun o => match o with
    | .next ρ2 => mLoop g body xs ρ2
    | .cont ρ2 => mLoop g body xs ρ2
    | .brk ρ2 => .ok (.next ρ2)
    | .ret t ρ2 => .ok (.ret t ρ2)
section
variable {K : PySem.W.Frag} {c : C0} {H : Hp}
/-- below the top the source lies: it goes when the loop is left -/
theorem StR.drop2 {o o' : Option V} {t t' : Option T} {sl : List (Option V)} {ρ : Env} (h : StR K c H (o :: o' :: sl) (t :: t' :: ρ)) : StR K c H (o :: sl) (t :: ρ) := by
  obtain ⟨A, w⟩ := h
  obtain ⟨u, s, ow, k⟩ := w
  cases s with
  | skip s =>
    cases s with
    | skip s => exact ⟨_, u, .skip s, ow, k⟩
    | cons x s =>
      rename_i A1 B
      have w : StW K c H (o :: some _ :: sl) (none :: some _ :: ρ) (A1 ++ B) := ⟨u, .skip (.cons x s), ow, k⟩
      exact ⟨B, w.remake (fun a => by rw [List.count_append]; omega) (.skip s)⟩
  | cons y s =>
    rename_i A0 B0
    cases s with
    | skip s => exact ⟨_, u, .cons y s, ow, k⟩
    | cons x s =>
      rename_i A1 B
      have w : StW K c H (some _ :: some _ :: sl) (some _ :: some _ :: ρ) (A0 ++ (A1 ++ B)) := ⟨u, .cons y (.cons x s), ow, k⟩
      exact ⟨A0 ++ B, w.remake (fun a => by simp only [List.count_append]; omega) (.cons y s)⟩
end
/-- how a source is walked: what stands on top of the state (xv, xt) keeps G and gives the items -/
structure Src (K : PySem.W.Frag) (J : It) (xv : List (Option V)) (xt : Env) (items : List T) : Prop where
  len : xv.length = xt.length
  goes : ∀ (c : C0) (H : Hp) (sl : List (Option V)) (ρ : Env) (i : Nat), i < items.length → StR K c H (xv ++ sl) (xt ++ ρ) → J.go i H
  stops : ∀ (c : C0) (H : Hp) (sl : List (Option V)) (ρ : Env), StR K c H (xv ++ sl) (xt ++ ρ) → J.stop items.length H
  yields : ∀ (c : C0) (H : Hp) (sl : List (Option V)) (ρ : Env) (i : Nat) (x : V) (H' : Hp) (t : T), items[i]? = some t → StR K c H (xv ++ sl) (xt ++ ρ) → J.yld i H x H' → Same H H' ∧ StR K c H' (some x :: (xv ++ sl)) (some t :: (xt ++ ρ))
theorem StR.dropN {K : PySem.W.Frag} {c : C0} {H : Hp} : ∀ {xs : List (Option V)} {as : Env} {sl : List (Option V)} {ρ : Env}, xs.length = as.length → StR K c H (xs ++ sl) (as ++ ρ) → StR K c H sl ρ
  | [], [], _, _, _, h => h
  | _ :: xs, _ :: as, _, _, e, h => StR.dropN (by simpa using e) h.drop
  | [], _ :: _, _, _, e, _ => by simp at e
  | _ :: _, [], _, _, e, _ => by simp at e
theorem StR.dropN1 {K : PySem.W.Frag} {c : C0} {H : Hp} {o : Option V} {t : Option T} : ∀ {xs : List (Option V)} {as : Env} {sl : List (Option V)} {ρ : Env}, xs.length = as.length → StR K c H (o :: (xs ++ sl)) (t :: (as ++ ρ)) → StR K c H (o :: sl) (t :: ρ)
  | [], [], _, _, _, h => h
  | _ :: xs, _ :: as, _, _, e, h => StR.dropN1 (by simpa using e) h.drop2
  | [], _ :: _, _, _, e, _ => by simp at e
  | _ :: _, [], _, _, e, _ => by simp at e
section
variable {E : Str → Hp → Prop} {io : List Nat}
theorem loop_run {K : PySem.W.Frag} {J : It} {xv : List (Option V)} {xt : Env} {items : List T} (S : Src K J xv xt items) {g : TG} {mg : MG} {tb : TS} {mb : MS} (sg : SimG K (inIo io) g mg) (sb : SimS K E io tb mb) {c : C0} {H : Hp} {tv : List (Option V)} {td : Env} {σ : L2.St} {ρ : Env}
    (hl : tv.length = td.length) (st : StR K c H (xv ++ (tv ++ σ)) (xt ++ (td ++ ρ))) {D : Ends} (q : Then (mLoop mg mb items ρ) (OutTo K c tv td io σ D) (fun x => ∀ H', KeepC c H' → E x H')) :
    ∃ W : Nat → Nat → L2.St → Hp → Prop, (∃ m, W 0 m σ H) ∧ ∀ i m σ H, W i m σ H →
      (J.stop i H ∧ D.nx σ H) ∨ (J.go i H ∧ ∃ N : L2.St → Hp → Prop, (∀ σ' H', N σ' H' → ∃ m', m' < m ∧ W (i + 1) m' σ' H') ∧ ∀ x H', J.yld i H x H' → g x σ H' fun σ2 H2 => tb { D with nx := N, ct := N, bk := D.nx } σ2 H2) := by
  refine ⟨fun i m σ' H' => m = items.length - i ∧ i ≤ items.length ∧ SameIo io σ σ' ∧ ∃ ρ', StR K c H' (xv ++ (tv ++ σ')) (xt ++ (td ++ ρ')) ∧ Then (mLoop mg mb (items.drop i) ρ') (OutTo K c tv td io σ D) (fun x => ∀ H', KeepC c H' → E x H'),
    ⟨items.length, by simp, Nat.zero_le _, .refl, ρ, st, by simpa using q⟩, ?_⟩
  rintro i m σ1 H1 ⟨rfl, hi, s1, ρ1, st1, q1⟩
  by_cases hlt : i < items.length
  · refine .inr ⟨S.goes c H1 _ _ i hlt st1, fun σ' H' => SameIo io σ σ' ∧ ∃ ρ', StR K c H' (xv ++ (tv ++ σ')) (xt ++ (td ++ ρ')) ∧ Then (mLoop mg mb (items.drop (i + 1)) ρ') (OutTo K c tv td io σ D) (fun x => ∀ H', KeepC c H' → E x H'), fun σ' H' p => ⟨items.length - (i + 1), by omega, rfl, hlt, p.1, p.2⟩, fun x H' y => ?_⟩
    have eI : items[i]? = some items[i] := List.getElem?_eq_getElem hlt
    have hd : items.drop i = items[i] :: items.drop (i + 1) := List.drop_eq_getElem_cons hlt
    rw [hd] at q1
    obtain ⟨sm, st2⟩ := S.yields c H1 _ _ i x H' _ eI st1 y
    have q2 := then_bind.mp q1
    obtain ⟨ρ2, e2, q2⟩ := then_ofO.mp q2
    refine sg c H' (xv ++ tv) (xt ++ td) σ1 ρ1 ρ2 x items[i] (by simp [S.len, hl]) (by simpa [List.append_assoc] using st2) e2 _ fun σ2 H2 s2 st3 => ?_
    have q3 := then_bind.mp q2
    have s12 : SameIo io σ σ2 := s1.trans s2.toIo
    refine sb c H2 (xv ++ tv) (xt ++ td) σ2 ρ2 (by simp [S.len, hl]) st3 _ (q3.imp fun o q4 => ?_)
    cases o with
    | next ρ3 => exact fun σ' H' s' st' => ⟨s12.trans s', ρ3, by simpa [List.append_assoc] using st', q4⟩
    | cont ρ3 => exact fun σ' H' s' st' => ⟨s12.trans s', ρ3, by simpa [List.append_assoc] using st', q4⟩
    | brk ρ3 => exact fun σ' H' s' st' => q4 σ' H' (s12.trans s') (StR.dropN S.len (by simpa [List.append_assoc] using st'))
    | ret t ρ3 => exact fun v σ' H' s' st' => q4 v σ' H' (s12.trans s') (StR.dropN1 S.len (by simpa [List.append_assoc] using st'))
  · have e : i = items.length := by omega
    subst e
    rw [List.drop_length] at q1
    exact .inl ⟨S.stops c H1 _ _ st1, q1 σ1 H1 s1 (StR.dropN S.len st1)⟩
end
/-! ### sources -/
abbrev MI := Env → R (List T × Env)
/-- wi walks what mi tells; xs: what it leaves on top -/
def SimI (K : PySem.W.Frag) (E : Str → Hp → Prop) (wi : TI) (mi : MI) : Prop :=
  ∀ (c : C0) (H : Hp) (tv : List (Option V)) (td : Env) (σ : L2.St) (ρ : Env), tv.length = td.length → StR K c H (tv ++ σ) (td ++ ρ) → ∀ Rr : It → Hp → Prop,
    Then (mi ρ) (fun r => ∀ J H' xv xt, Src K J xv xt r.1 → StR K c H' (xv ++ (tv ++ σ)) (xt ++ (td ++ r.2)) → Rr J H') (fun x => ∀ H', KeepC c H' → E x H') → wi σ H Rr
structure QI (X : Cx) (E : Str → Hp → Prop) (tg : Expr) (e : Expr) (wi : TI) (mi : MI) : Prop where
  pi : PI X tg e wi
  sim : SimI X.K E wi mi
def mFor (mi : MI) (g : MG) (body : MS) : MS := fun ρ => (mi ρ).bind fun r => mLoop g body r.1 r.2
section
variable {X : Cx} {E : Str → Hp → Prop} {io : List Nat} {pos : Pos}
theorem qs_for {tg iter : Expr} {body : List Stmt} {wi : TI} {mi : MI} {g : TG} {mg : MG} {tb : TS} {mb : MS} (hc : X.calm = true) (hp : PassesOwn (model X.prog X.w) X.A X.env X.xe) (hi : QI X E tg iter wi mi) (hg : QG X (inIo io) tg g mg) (hb : QSs X E io body tb mb)
    (hs : ∀ x, foldedSetIterable iter X.env x = pure x := by intro _; rfl) : QS X E io (.For tg iter body [] pos) (tFor wi g tb) (mFor mi mg mb) := by
  refine ⟨ps_for hp hc hi.pi hg.pg hb.ps hs, fun c H tv td σ ρ hl st D q => ?_⟩
  unfold mFor at q
  rw [then_bind] at q
  refine hi.sim c H tv td σ ρ hl st _ (q.imp ?_)
  intro r q1 J H' xv xt S st1
  exact loop_run S hg.sim hb.sim hl st1 q1
/-! a list, a tuple -/
def items? : T → Option (List T)
  | .d (.list ds) => some (ds.map T.d)
  | _ => none
def itemsT? : T → Option (List T)
  | .d (.tuple ds) => some (ds.map T.d)
  | _ => none
def miL (m : MEx) : MI := fun ρ => (m ρ).bind fun r => (ofO (items? r.1)).bind fun ts => .ok (ts, r.2)
def miT (m : MEx) : MI := fun ρ => (m ρ).bind fun r => (ofO (itemsT? r.1)).bind fun ts => .ok (ts, r.2)
theorem StR.look {K : PySem.W.Frag} {c : C0} {H : Hp} {sl : List (Option V)} {ρ : Env} {v : V} {x : PyData} (h : StR K c H (some v :: sl) (some (.d x) :: ρ)) : ∃ A, StW K c H (some v :: sl) (some (.d x) :: ρ) A ∧ Fz K (Fok c A) H v x := by
  obtain ⟨A, w⟩ := h
  exact ⟨A, w, w.topD.1⟩
theorem src_list {K : PySem.W.Frag} {a : Addr} {ds : List PyData} : Src K (Itl K a) [some (.ref a)] [some (.d (.list ds))] (ds.map T.d) where
  len := rfl
  goes := by
    intro c H sl ρ i hi st
    obtain ⟨A, w, f⟩ := StR.look st
    cases f with
    | @lst _ vs _ h _ f =>
      have hl := f.len
      have hi2 : i < vs.length := by rw [hl]; simpa using hi
      exact ⟨vs, vs[i], .of h, List.getElem?_eq_getElem hi2⟩
  stops := by
    intro c H sl ρ st
    obtain ⟨A, w, f⟩ := StR.look st
    cases f with
    | lst h _ f => exact ⟨_, .of h, by rw [List.length_map, f.len]; exact Nat.le_refl _⟩
  yields := by
    intro c H sl ρ i x H' t ht st y
    obtain ⟨rfl, y⟩ := y
    obtain ⟨A, w, f⟩ := StR.look st
    refine ⟨Same.refl _, A, ?_⟩
    rw [List.getElem?_map] at ht
    obtain ⟨z, e1, rfl⟩ := Option.map_eq_some_iff.mp ht
    cases f with
    | lst h _ f =>
      obtain ⟨v, e2, fz⟩ := f.get e1
      have := y _ (.of h)
      rw [e2] at this
      cases this
      exact w.pushD fz
theorem sim_iL {K : PySem.W.Frag} {te : TE} {m : MEx} {g : Bool} (s : SimE K E g te m) : SimI K E (iList K te) (miL m) := by
  intro c H tv td σ ρ hl st Rr q
  unfold miL at q
  rw [then_bind] at q
  refine s c H tv td σ ρ hl st _ (q.imp ?_)
  rintro ⟨t, ρ1⟩ q1 v H1 _ st1
  obtain ⟨ts, e, q2⟩ := then_ofO.mp (then_bind.mp q1)
  unfold items? at e
  dsimp only at e
  split at e
  · rename_i ds
    cases e
    obtain ⟨A, w, f⟩ := StR.look st1
    cases f with
    | lst h h2 f => exact ⟨_, rfl, ⟨_, .of h⟩, q2 _ H1 [some _] [some _] src_list st1⟩
  · cases e
theorem qi_list {tg e : Expr} {te : TE} {m : MEx} {g : Bool} (h : QE X E g e te m) : QI X E tg e (iList X.K te) (miL m) := ⟨pi_list h.pe, sim_iL h.sim⟩
/-! range -/
def rangeItems (lo hi : Int) : List T := (List.range (hi - lo).toNat).map fun i => .d (.int (lo + (i : Nat)))
def small62 (i : Int) : Bool := decide (-(2 ^ 62) ≤ i ∧ i < 2 ^ 62)
def miR1 (m : MA) : MI := fun ρ => (m ρ).bind fun r => match r.1 with | [.d (.int j)] => guard (small62 j) (.ok (rangeItems 0 j, r.2)) | _ => .bad
def miR2 (m : MA) : MI := fun ρ => (m ρ).bind fun r => match r.1 with | [.d (.int i), .d (.int j)] => guard (small62 i && small62 j) (.ok (rangeItems i j, r.2)) | _ => .bad
theorem src_range {K : PySem.W.Frag} {lo hi : Int} : Src K (Itr lo (hi - lo).toNat) [] [] (rangeItems lo hi) where
  len := rfl
  goes := fun c H sl ρ i hi st => by simpa [rangeItems, Itr] using hi
  stops := fun c H sl ρ st => by
    show (hi - lo).toNat ≤ (rangeItems lo hi).length
    unfold rangeItems
    rw [List.length_map, List.length_range]
    exact Nat.le_refl _
  yields := by
    intro c H sl ρ i x H' t ht st y
    obtain ⟨rfl, rfl⟩ := y
    refine ⟨Same.refl _, ?_⟩
    unfold rangeItems at ht
    rw [List.getElem?_map] at ht
    obtain ⟨z, e1, rfl⟩ := Option.map_eq_some_iff.mp ht
    have : z = i := by
      obtain ⟨h1, h2⟩ := List.getElem?_eq_some_iff.mp e1
      simpa using h2.symm
    subst this
    exact StR.pushC st fun _ _ => .int _
theorem StR.top1 {K : PySem.W.Frag} {c : C0} {H : Hp} {sl : List (Option V)} {ρ : Env} {v : V} {i : Int} (h : StR K c H (some v :: sl) (some (.d (.int i)) :: ρ)) : v = .int i ∧ StR K c H sl ρ := by
  obtain ⟨A, w⟩ := h
  obtain ⟨f, w'⟩ := w.topD
  cases f
  exact ⟨rfl, A, w'⟩
theorem sim_iR1 {K : PySem.W.Frag} {ta : TA} {m : MA} {g : Bool} (s : SimA K E g ta m) : SimI K E (iRng1 ta) (miR1 m) := by
  intro c H tv td σ ρ hl st Rr q
  unfold miR1 at q
  rw [then_bind] at q
  refine s c H tv td σ ρ hl st _ (q.imp ?_)
  rintro ⟨ts, ρ1⟩ q1 vs H1 _ hvs st1
  dsimp only at q1 hvs st1
  split at q1
  · rename_i j
    obtain ⟨gd, q2⟩ := then_guard.mp q1
    match vs, hvs, st1 with
    | [v], _, st1 =>
      obtain ⟨rfl, st2⟩ := StR.top1 st1
      have hz := of_decide_eq_true gd
      refine ⟨j, rfl, hz.1, hz.2, q2 _ H1 [] [] ?_ st2⟩
      have := src_range (K := K) (lo := 0) (hi := j)
      rwa [Int.sub_zero] at this
  · exact q1.elim
theorem sim_iR2 {K : PySem.W.Frag} {ta : TA} {m : MA} {g : Bool} (s : SimA K E g ta m) : SimI K E (iRng2 ta) (miR2 m) := by
  intro c H tv td σ ρ hl st Rr q
  unfold miR2 at q
  rw [then_bind] at q
  refine s c H tv td σ ρ hl st _ (q.imp ?_)
  rintro ⟨ts, ρ1⟩ q1 vs H1 _ hvs st1
  dsimp only at q1 hvs st1
  split at q1
  · rename_i i j
    obtain ⟨gd, q2⟩ := then_guard.mp q1
    rw [Bool.and_eq_true] at gd
    match vs, hvs, st1 with
    | [v, u], _, st1 =>
      obtain ⟨rfl, st2⟩ := StR.top1 st1
      obtain ⟨rfl, st3⟩ := StR.top1 st2
      have h1 := of_decide_eq_true gd.1
      have h2 := of_decide_eq_true gd.2
      exact ⟨i, j, rfl, ⟨h1.1, h1.2, h2.1, h2.2⟩, q2 _ H1 [] [] src_range st3⟩
  · exact q1.elim
theorem qi_range1 {tg a : Expr} {ta : TA} {m : MA} {g : Bool} {p : Pos} (hm : X.mg "range" = none) (ha : QA X E g [a] ta m) (hg : Gl X "range" := by rfl) (hs : starEach [a] X.env = [(false, eval a X.env)] := by rfl) : QI X E tg (.Call (.Name "range" p) [a] [] pos) (iRng1 ta) (miR1 m) := ⟨pi_range1 hg hm ha.pa hs, sim_iR1 ha.sim⟩
theorem qi_range2 {tg a b : Expr} {ta : TA} {m : MA} {g : Bool} {p : Pos} (hm : X.mg "range" = none) (ha : QA X E g [a, b] ta m) (hg : Gl X "range" := by rfl) (hs : starEach [a, b] X.env = [(false, eval a X.env), (false, eval b X.env)] := by rfl) (hs2 : starEach [b] X.env = [(false, eval b X.env)] := by rfl) : QI X E tg (.Call (.Name "range" p) [a, b] [] pos) (iRng2 ta) (miR2 m) := ⟨pi_range2 hg hm ha.pa hs hs2, sim_iR2 ha.sim⟩
end
/-! ### while -/
def mWhileN (mt : MT) (mb : MS) : Nat → Env → R Out
  | 0, _ => .bad
  | n + 1, ρ => (mt ρ).bind fun r => if r.1 = true then (mb r.2).bind (fun o => match o with
    | .next ρ2 => mWhileN mt mb n ρ2
    | .cont ρ2 => mWhileN mt mb n ρ2
    | .brk ρ2 => .ok (.next ρ2)
    | .ret t ρ2 => .ok (.ret t ρ2)) else .ok (.next r.2)
open Classical in
noncomputable def mWhile (mt : MT) (mb : MS) : MS := fun ρ => if h : ∃ n, mWhileN mt mb n ρ ≠ .bad then mWhileN mt mb (Classical.choose h) ρ else .bad
theorem mWhileN_succ {mt : MT} {mb : MS} : ∀ {n : Nat} {ρ : Env}, mWhileN mt mb n ρ ≠ .bad → mWhileN mt mb (n + 1) ρ = mWhileN mt mb n ρ
  | 0, ρ, h => (h rfl).elim
  | n + 1, ρ, h => by
    have go : ∀ ρ2, mWhileN mt mb n ρ2 ≠ .bad → mWhileN mt mb (n + 1) ρ2 = mWhileN mt mb n ρ2 := fun ρ2 => mWhileN_succ
    show (mt ρ).bind _ = (mt ρ).bind _
    have h' : (mt ρ).bind (fun r => if r.1 = true then (mb r.2).bind (fun o => match o with
      | .next ρ2 => mWhileN mt mb n ρ2
      | .cont ρ2 => mWhileN mt mb n ρ2
      | .brk ρ2 => .ok (.next ρ2)
      | .ret t ρ2 => .ok (.ret t ρ2)) else .ok (.next r.2)) ≠ .bad := h
    cases e : mt ρ with
    | exc x => rfl
    | bad => rfl
    | ok r =>
      rw [e] at h'
      dsimp only [R.bind] at h' ⊢
      by_cases hr : r.1 = true
      · rw [if_pos hr] at h'
        rw [if_pos hr, if_pos hr]
        cases e2 : mb r.2 with
        | exc x => rfl
        | bad => rfl
        | ok o =>
          rw [e2] at h'
          cases o with
          | next ρ2 => exact go ρ2 h'
          | cont ρ2 => exact go ρ2 h'
          | brk ρ2 => rfl
          | ret t ρ2 => rfl
      · rw [if_neg hr, if_neg hr]
theorem mWhileN_le {mt : MT} {mb : MS} {n m : Nat} {ρ : Env} (h : mWhileN mt mb n ρ ≠ .bad) (l : n ≤ m) : mWhileN mt mb m ρ = mWhileN mt mb n ρ := by
  induction m with
  | zero => have : n = 0 := by omega
            subst this; rfl
  | succ m ih =>
    by_cases e : n = m + 1
    · rw [e]
    · have e1 := ih (by omega)
      rw [mWhileN_succ (by rw [e1]; exact h), e1]
/-- the fuel is anything that is enough -/
theorem then_while {mt : MT} {mb : MS} {n : Nat} {ρ : Env} {P : Out → Prop} {E : Str → Prop} (h : Then (mWhileN mt mb n ρ) P E) : Then (mWhile mt mb ρ) P E := by
  have hn : mWhileN mt mb n ρ ≠ .bad := fun e => by rw [e] at h; exact h
  have hx : ∃ n, mWhileN mt mb n ρ ≠ .bad := ⟨n, hn⟩
  unfold mWhile
  rw [dif_pos hx]
  have hc := Classical.choose_spec hx
  have e : mWhileN mt mb (Classical.choose hx) ρ = mWhileN mt mb n ρ := by
    rcases Nat.le_total n (Classical.choose hx) with l | l
    · exact mWhileN_le hn l
    · exact (mWhileN_le hc l).symm
  rw [e]
  exact h
section
variable {X : Cx} {E : Str → Hp → Prop} {io : List Nat} {pos : Pos}
theorem sim_while {K : PySem.W.Frag} {tc : TT} {mt : MT} {tb : TS} {mb : MS} (sc : SimT K E tc mt) (sb : SimS K E io tb mb) : SimS K E io (tWhile tc tb) (mWhile mt mb) := by
  intro c H tv td σ ρ hl st D q
  have q0 : ∃ n, Then (mWhileN mt mb n ρ) (OutTo K c tv td io σ D) (fun x => ∀ H', KeepC c H' → E x H') := by
    unfold mWhile at q
    split at q
    · exact ⟨_, q⟩
    · exact q.elim
  obtain ⟨n, q0⟩ := q0
  refine ⟨fun m σ' H' => SameIo io σ σ' ∧ ∃ ρ', StR K c H' (tv ++ σ') (td ++ ρ') ∧ Then (mWhileN mt mb m ρ') (OutTo K c tv td io σ D) (fun x => ∀ H', KeepC c H' → E x H'), ⟨n, .refl, ρ, st, q0⟩, ?_⟩
  rintro m σ1 H1 ⟨s1, ρ1, st1, q1⟩
  cases m with
  | zero => exact q1.elim
  | succ m =>
    have q1' := then_bind.mp q1
    refine sc c H1 tv td σ1 ρ1 hl st1 _ (q1'.imp ?_)
    rintro ⟨b, ρ2⟩ q2 H2 st2
    cases b with
    | false =>
      rw [if_neg (show ¬ (false = true) by decide)]
      exact q2 σ1 H2 s1 st2
    | true =>
      rw [if_pos rfl]
      refine ⟨fun σ' H' => SameIo io σ σ' ∧ ∃ ρ', StR K c H' (tv ++ σ') (td ++ ρ') ∧ Then (mWhileN mt mb m ρ') (OutTo K c tv td io σ D) (fun x => ∀ H', KeepC c H' → E x H'), fun σ' H' p => ⟨m, Nat.lt_succ_self m, p⟩, ?_⟩
      refine sb c H2 tv td σ1 ρ2 hl st2 _ ((then_bind.mp q2).imp fun o q3 => ?_)
      cases o with
      | next ρ3 => exact fun σ' H' s' st' => ⟨s1.trans s', ρ3, st', q3⟩
      | cont ρ3 => exact fun σ' H' s' st' => ⟨s1.trans s', ρ3, st', q3⟩
      | brk ρ3 => exact fun σ' H' s' st' => q3 σ' H' (s1.trans s') st'
      | ret t ρ3 => exact fun v σ' H' s' st' => q3 v σ' H' (s1.trans s') st'
theorem qs_while {c' : Expr} {body : List Stmt} {tc : TT} {mt : MT} {tb : TS} {mb : MS} (hp : PassesOwn (model X.prog X.w) X.A X.env X.xe) (hc : QT X E c' tc mt) (hb : QSs X E io body tb mb) : QS X E io (.While c' body [] pos) (tWhile tc tb) (mWhile mt mb) := ⟨ps_while hp hc.pt hb.ps, sim_while hc.sim hb.sim⟩
end
end L3
/-! L3h -/
/-! L3h: comprehensions; lists changed where they lie. -/
namespace L3
open PySem PySem.Spec PyProof.Rows L2

/-! ### comprehensions -/
def wipeE (ρ : Env) : List Nat → Env
  | [] => ρ
  | v :: vs => (wipeE ρ vs).set v none
section
variable {K : PySem.W.Frag} {c : C0} {H : Hp}
theorem StR.gone {tv : List (Option V)} {td : Env} {σ : L2.St} {ρ : Env} {i : Nat} (hl : tv.length = td.length) (h : StR K c H (tv ++ σ) (td ++ ρ)) (o : Option V) : StR K c H (tv ++ σ.set i o) (td ++ ρ.set i none) := by
  obtain ⟨A, w⟩ := h
  have hlen := w.slots.len
  by_cases hi : i < σ.length
  · obtain ⟨B, hb, ar, _⟩ := w.slots.around (i := tv.length + i) (by rw [List.length_append]; omega)
    obtain ⟨C, s, z⟩ := ar.gone o
    rw [app_set rfl, app_set hl.symm] at s
    exact ⟨C, w.remake (fun a => by rw [z a]; exact hb a) s⟩
  · have hi2 : ¬ i < ρ.length := by
      rw [List.length_append, List.length_append] at hlen; omega
    rw [List.set_eq_of_length_le (by omega), List.set_eq_of_length_le (by omega)]
    exact ⟨A, w⟩
theorem StR.wiped {tv : List (Option V)} {td : Env} {σ : L2.St} {ρ : Env} (hl : tv.length = td.length) (h : StR K c H (tv ++ σ) (td ++ ρ)) : ∀ vs : List Nat, StR K c H (tv ++ wipe σ vs) (td ++ wipeE ρ vs)
  | [] => h
  | v :: vs => (StR.wiped hl h vs).gone hl none
/-- the slots' values do not matter where nothing is told of them -/
theorem StR.any {tv : List (Option V)} {td : Env} {σ σ' : L2.St} {ρ : Env} (hl : tv.length = td.length) (h : StR K c H (tv ++ σ) (td ++ ρ)) {vs : List Nat} (hz : σ'.length = σ.length) (hs : ∀ (i : Nat), i ∉ vs → σ'[i]? = σ[i]?) (hn : ∀ (i : Nat), i ∈ vs → ∀ (t : T), ρ[i]? ≠ some (some t)) : StR K c H (tv ++ σ') (td ++ ρ) := by
  obtain ⟨A, w⟩ := h
  refine ⟨A, w.uniq, ?_, w.own, w.keep⟩
  have key : ∀ {σ σ' : L2.St} {ρ : Env} {F : Addr → Prop} {B : List Addr}, σ'.length = σ.length → (∀ (i : Nat) (t : T), ρ[i]? = some (some t) → σ'[i]? = σ[i]?) → Sl K F H σ ρ B → Sl K F H σ' ρ B := by
    intro σ
    induction σ with
    | nil =>
      intro σ' ρ F B hz _ s
      have : σ' = [] := List.eq_nil_of_length_eq_zero (by simpa using hz)
      subst this
      exact s
    | cons o σ ih =>
      intro σ' ρ F B hz hs s
      cases σ' with
      | nil => simp at hz
      | cons o' σ' =>
        cases s with
        | skip s => exact .skip (ih (by simpa using hz) (fun i t e => by simpa using hs (i + 1) t (by simpa using e)) s)
        | cons x s =>
          have := hs 0 _ rfl
          rename_i v0 t0 ρ0 A0 B0
          have e : o' = some v0 := by simpa using this
          subst e
          exact .cons x (ih (by simpa using hz) (fun i t e => by simpa using hs (i + 1) t (by simpa using e)) s)
  refine key (σ := tv ++ σ) (by simp [hz]) (fun i t e => ?_) w.slots
  by_cases hi : i < tv.length
  · rw [List.getElem?_append_left hi, List.getElem?_append_left hi]
  · obtain ⟨j, rfl⟩ : ∃ j, i = tv.length + j := ⟨i - tv.length, by omega⟩
    rw [app_at rfl, app_at rfl]
    rw [app_at hl.symm] at e
    exact hs j fun z => hn j z t e
theorem wipe_get {σ : L2.St} : ∀ {vs : List Nat} {i : Nat}, i ∉ vs → (wipe σ vs)[i]? = σ[i]?
  | [], _, _ => rfl
  | v :: vs, i, h => by
    show ((wipe σ vs).set v none)[i]? = _
    rw [List.getElem?_set_ne (fun e => h (by rw [e]; exact List.mem_cons_self)), wipe_get fun z => h (List.mem_cons_of_mem _ z)]
theorem wipeE_none {ρ : Env} : ∀ {vs : List Nat} {i : Nat}, i ∈ vs → ∀ t, (wipeE ρ vs)[i]? ≠ some (some t)
  | [], _, h, _ => by simp at h
  | v :: vs, i, h, t => by
    intro e
    have e : ((wipeE ρ vs).set v none)[i]? = some (some t) := e
    by_cases hv : v = i
    · subst hv
      by_cases hl : v < (wipeE ρ vs).length
      · rw [List.getElem?_set_self hl] at e; cases e
      · rw [List.getElem?_eq_none (by simpa using hl)] at e; cases e
    · rw [List.getElem?_set_ne hv] at e
      rcases List.mem_cons.mp h with z | z
      · exact hv z.symm
      · exact wipeE_none z t e
theorem wipe_eq {σ σ' : L2.St} (hl : σ'.length = σ.length) : ∀ {vs : List Nat}, (∀ i, i ∉ vs → σ'[i]? = σ[i]?) → wipe σ' vs = wipe σ vs := by
  intro vs h
  apply List.ext_getElem?
  intro i
  by_cases hi : i ∈ vs
  · have hn : ∀ (τ : L2.St), (wipe τ vs)[i]? = if i < τ.length then some none else none := by
      intro τ
      clear h
      induction vs with
      | nil => simp at hi
      | cons v vs ih =>
        show ((wipe τ vs).set v none)[i]? = _
        by_cases hv : v = i
        · subst hv
          by_cases hz : v < τ.length
          · rw [List.getElem?_set_self (by rw [wipe_length]; exact hz), if_pos hz]
          · rw [List.getElem?_eq_none (by rw [List.length_set, wipe_length]; omega), if_neg hz]
        · rw [List.getElem?_set_ne hv]
          exact ih ((List.mem_cons.mp hi).resolve_left fun e => hv e.symm)
    rw [hn, hn, hl]
  · rw [wipe_get hi, wipe_get hi, h i hi]
end
abbrev notOwn (vs : List Nat) : Nat → Bool := fun i => !vs.contains i
def mtYes : MT := fun ρ => .ok (true, ρ)
def mLcLoop (g : MG) (mt : MT) (me : MEx) (vs : List Nat) : List T → List T → Env → R (List T × Env)
  | [], acc, ρ => .ok (acc, ρ)
  | x :: xs, acc, ρ => (ofO (g x (wipeE ρ vs))).bind fun ρ1 => (mt ρ1).bind fun r => if r.1 = true then guard (decide (acc.length < sLine)) ((me r.2).bind fun y => mLcLoop g mt me vs xs (acc ++ [y.1]) y.2) else mLcLoop g mt me vs xs acc r.2
def mLc (mi : MI) (g : MG) (mt : MT) (me : MEx) (vs : List Nat) : MEx := fun ρ => (mi ρ).bind fun r => (mLcLoop g mt me vs r.1 [] r.2).bind fun z => .ok (.ol z.1, wipeE z.2 vs)
theorem RpAll.snoc {K : PySem.W.Frag} {F : Addr → Prop} {H : Hp} : ∀ {vs : List V} {ts : List T} {A B : List Addr} {v : V} {t : T}, RpAll K F H vs ts A → Rp K F H v t B → ∃ C, RpAll K F H (vs ++ [v]) (ts ++ [t]) C ∧ ∀ a, C.count a = A.count a + B.count a
  | _, _, _, B, _, _, .nil, x => ⟨B ++ [], .cons x .nil, fun a => by simp⟩
  | _, _, _, _, _, _, .cons (A := A1) y r, x => by
    obtain ⟨C, r', z⟩ := r.snoc x
    exact ⟨A1 ++ C, .cons y r', fun a => by rw [List.count_append, List.count_append, z a]; omega⟩
/-- a list on top of the state takes the next thing -/
theorem StR.grown {K : PySem.W.Frag} {c : C0} {H : Hp} {L : Addr} {ts : List T} {v : V} {t : T} {sl : List (Option V)} {ρ : Env} (h : StR K c H (some v :: some (.ref L) :: sl) (some t :: some (.ol ts) :: ρ)) :
    ∃ acc, H L = some (.lst acc) ∧ acc.length = ts.length ∧ StR K c (upd H L (.lst (acc ++ [v]))) (some (.ref L) :: sl) (some (.ol (ts ++ [t])) :: ρ) := by
  obtain ⟨A, w⟩ := h
  obtain ⟨A1, B1, eA, x, s⟩ := w.top
  cases s with
  | cons y s =>
    rename_i A2 B2
    cases y with
    | @ol _ acc _ A3 hL r =>
      refine ⟨acc, hL, r.len, ?_⟩
      -- every footprint but L itself is as it was
      have cnt : ∀ a, A.count a = A1.count a + ((L :: A3).count a + B2.count a) := fun a => by rw [eA, List.count_append, List.count_append]
      have hLA : L ∈ A := by rw [eA]; simp
      have nL : ∀ C : List Addr, (∀ a, C.count a + (if L = a then 1 else 0) ≤ A.count a) → ∀ a ∈ C, a ≠ L := fun C hC a ha e => by
        subst e
        have h1 := hC a
        have h2 := w.uniq a
        have h3 := List.count_pos_iff.mpr ha
        rw [if_pos rfl] at h1
        omega
      have cc : ∀ a, (L :: A3).count a = A3.count a + (if L = a then 1 else 0) := fun a => by
        rw [List.count_cons]
        by_cases e : L = a
        · simp [e]
        · simp [e]
      have n1 := nL A1 fun a => by have := cnt a; rw [cc a] at this; omega
      have n3 := nL A3 fun a => by have := cnt a; rw [cc a] at this; omega
      have n2 := nL B2 fun a => by have := cnt a; rw [cc a] at this; omega
      have mo : Mono (Fok c A) (Fok c A) H (upd H L (.lst (acc ++ [v]))) := ⟨fun a vs e f => ⟨by rw [upd_ne (fun z => f.2 (by rw [z]; exact hLA))]; exact e, f⟩, fun a u e st => by
        rw [upd_ne (fun z => by rw [z, hL] at e; cases e; exact st)]
        exact e⟩
      have eqs : ∀ {C : List Addr}, (∀ a ∈ C, a ≠ L) → ∀ a ∈ C, (upd H L (.lst (acc ++ [v]))) a = H a := fun h a ha => upd_ne (h a ha)
      obtain ⟨C, r', z⟩ := (r.mono mo (eqs n3)).snoc (x.mono mo (eqs n1))
      have tot : ∀ a, ((L :: C) ++ B2).count a = A.count a := fun a => by
        rw [List.count_append, cnt a, cc a, List.count_cons]
        have := z a
        by_cases e : L = a
        · simp [e]; omega
        · simp [e]; omega
      refine ⟨(L :: C) ++ B2, fun a => by rw [tot a]; exact w.uniq a, ?_, fun a ha => w.own a (List.count_pos_iff.mp (by rw [← tot a]; exact List.count_pos_iff.mpr ha)), ⟨fun a o e n => ?_, fun a e => ?_⟩⟩
      · have m2 : Mono (Fok c A) (Fok c ((L :: C) ++ B2)) (upd H L (.lst (acc ++ [v]))) (upd H L (.lst (acc ++ [v]))) := .sub fun a _ => Fok.sub (fun a => Nat.le_of_eq (tot a)) a
        exact (Sl.cons (Rp.ol upd_same r') (s.mono mo (eqs n2))).mono m2 fun _ _ => rfl
      · rw [upd_ne]
        · exact w.keep.keep a o e n
        · intro z
          subst z
          rcases w.own a hLA with y | y
          · exact n y
          · rw [e] at y; cases y
      · by_cases z : a = L
        · subst z
          rw [upd_same] at e; cases e
        · rw [upd_ne z] at e
          exact w.keep.there a e
section
variable {X : Cx} {E : Str → Hp → Prop} {pos : Pos}
theorem sim_lc {K : PySem.W.Frag} {wi : TI} {mi : MI} {g : TG} {mg : MG} {tt : TT} {mt : MT} {te : TE} {me : MEx} {vs : List Nat} {g1 : Bool} (si : SimI K E wi mi) (sg : SimG K (notOwn vs) g mg) (st' : SimT K E tt mt) (se : SimE K E g1 te me) : SimE K E false (tLc wi g tt te vs) (mLc mi mg mt me vs) := by
  intro c H tv td σ ρ hl st Q q
  unfold mLc at q
  rw [then_bind] at q
  refine si c H tv td σ ρ hl st _ (q.imp ?_)
  rintro ⟨items, ρ0⟩ q0 J H0 xv xt S st0
  intro L hL
  have q1 := then_bind.mp q0
  -- the state while it runs: the new list on top, then the source
  let Pv : Nat → Hp → Prop := fun i H' => ∃ acc ρ', StR K c H' (some (.ref L) :: (xv ++ (tv ++ wipe σ vs))) (some (.ol acc) :: (xt ++ (td ++ wipeE ρ' vs))) ∧
    Then (mLcLoop mg mt me vs (items.drop i) acc ρ') (fun z => ∀ v H', (false = true → Same H H') → StR K c H' (some v :: (tv ++ σ)) (some (.ol z.1) :: (td ++ wipeE z.2 vs)) → Q v H') (fun x => ∀ H', KeepC c H' → E x H')
  refine ⟨fun i m H' => m = items.length - i ∧ i ≤ items.length ∧ Pv i H', ⟨items.length, by simp, Nat.zero_le _, [], ρ0, ?_, ?_⟩, ?_⟩
  · have s2 : StR K c H0 ((xv ++ tv) ++ wipe σ vs) ((xt ++ td) ++ wipeE ρ0 vs) := StR.wiped (by simp [S.len, hl]) (by simpa [List.append_assoc] using st0) vs
    obtain ⟨A, w⟩ := s2
    have sm := same_upd (o := .lst []) hL
    have m0 : Mono (Fok c A) (Fok c (L :: A)) H0 H0 := Fok.fresh hL
    have sl2 := (w.slots.mono m0 fun _ _ => rfl).mono (.same sm) fun a ha => upd_ne (fun z => w.not_mem_of_none hL (by rw [← z]; exact ha))
    have := Sl.cons (Rp.ol (K := K) (F := Fok c (L :: A)) (H := upd H0 L (.lst [])) (a := L) upd_same .nil) sl2
    refine ⟨L :: A, fun a => ?_, by simpa [List.append_assoc] using this, fun a ha => ?_, w.keep.grow sm⟩
    · rw [List.count_cons]
      have h2 := w.uniq a
      by_cases e : L = a
      · subst e
        have : A.count L = 0 := List.count_eq_zero.mpr (w.not_mem_of_none hL)
        simp [this]
      · have e' : (L == a) = false := by simpa using e
        simp [e']; omega
    · rcases List.mem_cons.mp ha with z | z
      · subst z
        exact .inr (w.keep.there _ hL)
      · exact w.own a z
  · exact q1
  · rintro i m H1 ⟨rfl, hi, acc, ρ1, st1, q1⟩
    by_cases hlt : i < items.length
    · refine .inr ⟨S.goes c H1 _ _ i hlt st1.drop, Pv (i + 1), fun H' p => ⟨items.length - (i + 1), by omega, rfl, hlt, p⟩, fun x H' y => ?_⟩
      have eI : items[i]? = some items[i] := List.getElem?_eq_getElem hlt
      rw [List.drop_eq_getElem_cons hlt] at q1
      -- the source below the new list
      have st1r : StR K c H1 (xv ++ (some (.ref L) :: (tv ++ wipe σ vs))) (xt ++ (some (.ol acc) :: (td ++ wipeE ρ1 vs))) := by
        obtain ⟨A, w⟩ := st1
        obtain ⟨C, s, z⟩ := Sl.sink S.len w.slots
        exact ⟨C, w.remake (fun a => Nat.le_of_eq (z a)) s⟩
      obtain ⟨sm, st2⟩ := S.yields c H1 _ _ i x H' _ eI st1r y
      obtain ⟨ρ2, e2, q2⟩ := then_ofO.mp (then_bind.mp q1)
      refine sg c H' (xv ++ (some (.ref L) :: tv)) (xt ++ (some (.ol acc) :: td)) (wipe σ vs) _ ρ2 x items[i] (by simp [S.len, hl]) (by simpa [List.append_assoc] using st2) e2 _ fun σ2 H2 s2 st3 => ?_
      have ew : wipe σ2 vs = wipe σ vs := by
        have h1 : wipe σ2 vs = wipe (wipe σ vs) vs := wipe_eq s2.len fun i hi => s2.same i (by show (!vs.contains i) = true; simp [hi])
        have h2 : wipe (wipe σ vs) vs = wipe σ vs := wipe_eq (wipe_length σ vs) fun i hi => wipe_get hi
        rw [h1, h2]
      refine ⟨ew, ?_⟩
      refine st' c H2 (xv ++ (some (.ref L) :: tv)) (xt ++ (some (.ol acc) :: td)) σ2 ρ2 (by simp [S.len, hl]) st3 _ ((then_bind.mp q2).imp ?_)
      rintro ⟨b, ρ3⟩ q3 H3 st4
      -- back: the new list on top, slots wiped
      have back : ∀ {H'' : Hp} {ρ'' : Env} {acc' : List T}, StR K c H'' (xv ++ (some (.ref L) :: (tv ++ σ2))) (xt ++ (some (.ol acc') :: (td ++ ρ''))) → StR K c H'' (some (.ref L) :: (xv ++ (tv ++ wipe σ vs))) (some (.ol acc') :: (xt ++ (td ++ wipeE ρ'' vs))) := by
        intro H'' ρ'' acc' h
        have h2 := StR.raiseO S.len h
        have h3 := StR.wiped (tv := some (.ref L) :: (xv ++ tv)) (td := some (.ol acc') :: (xt ++ td)) (by simp [S.len, hl]) (by simpa [List.append_assoc] using h2) vs
        rw [ew] at h3
        simpa [List.append_assoc] using h3
      cases b with
      | false =>
        rw [if_neg (show ¬ (false = true) by decide)]
        exact ⟨acc, ρ3, back (by simpa [List.append_assoc] using st4), q3⟩
      | true =>
        rw [if_pos rfl]
        obtain ⟨gd, q4⟩ := then_guard.mp q3
        refine se c H3 (xv ++ (some (.ref L) :: tv)) (xt ++ (some (.ol acc) :: td)) σ2 ρ3 (by simp [S.len, hl]) st4 _ ((then_bind.mp q4).imp ?_)
        rintro ⟨t, ρ4⟩ q5 v H4 _ st5
        have st6 : StR K c H4 (some (.ref L) :: (some v :: (xv ++ (tv ++ σ2)))) (some (.ol acc) :: (some t :: (xt ++ (td ++ ρ4)))) := StR.raiseO (xs := some v :: xv) (as := some t :: xt) (by simp [S.len]) (by simpa [List.append_assoc] using st5)
        have st7 : StR K c H4 (some v :: (some (.ref L) :: (xv ++ (tv ++ σ2)))) (some t :: (some (.ol acc) :: (xt ++ (td ++ ρ4)))) := StR.raiseO (xs := [some (.ref L)]) (as := [some (.ol acc)]) rfl st6
        obtain ⟨vacc, hv, hlen, st8⟩ := st7.grown
        refine ⟨vacc, hv, by rw [hlen, ← sLine_eq]; exact of_decide_eq_true gd, acc ++ [t], ρ4, ?_, q5⟩
        have h3 := StR.wiped (tv := some (.ref L) :: (xv ++ tv)) (td := some (.ol (acc ++ [t])) :: (xt ++ td)) (by simp [S.len, hl]) (by simpa [List.append_assoc] using st8) vs
        rw [ew] at h3
        simpa [List.append_assoc] using h3
    · have e : i = items.length := by omega
      subst e
      rw [List.drop_length] at q1
      refine .inl ⟨S.stops c H1 _ _ st1.drop, q1 _ H1 (fun z => by cases z) ?_⟩
      have h2 := StR.dropN1 S.len st1
      exact StR.any (tv := some (.ref L) :: tv) (td := some (.ol acc) :: td) (vs := vs) (by simp [hl]) h2 (wipe_length σ vs).symm (fun i hi => (wipe_get hi).symm) fun i hi t => wipeE_none hi t
where
  Sl.sink {K : PySem.W.Frag} {F : Addr → Prop} {H : Hp} {xs : List (Option V)} {as : Env} {ys : List (Option V)} {bs : Env} {v : Option V} {t : Option T} {A : List Addr} (hl : xs.length = as.length) (h : Sl K F H (v :: (xs ++ ys)) (t :: (as ++ bs)) A) : ∃ C, Sl K F H (xs ++ v :: ys) (as ++ t :: bs) C ∧ ∀ a, C.count a = A.count a := by
    induction xs generalizing as A with
    | nil =>
      cases as with
      | nil => exact ⟨A, h, fun _ => rfl⟩
      | cons _ _ => simp at hl
    | cons o xs ih =>
      cases as with
      | nil => simp at hl
      | cons a as =>
        have hl' : xs.length = as.length := by simpa using hl
        cases h with
        | skip s =>
          cases s with
          | skip s =>
            obtain ⟨C, s', z⟩ := ih hl' (.skip s)
            exact ⟨C, .skip s', z⟩
          | cons x s =>
            rename_i A1 B1
            obtain ⟨C, s', z⟩ := ih hl' (.skip s)
            exact ⟨_, .cons x s', fun a => by rw [List.count_append, List.count_append, z a]⟩
        | cons y s =>
          rename_i A0 B0
          cases s with
          | skip s =>
            obtain ⟨C, s', z⟩ := ih hl' (.cons y s)
            exact ⟨C, .skip s', z⟩
          | cons x s =>
            rename_i A1 B1
            obtain ⟨C, s', z⟩ := ih hl' (.cons y s)
            exact ⟨_, .cons x s', fun a => by have := z a; simp only [List.count_append] at this ⊢; omega⟩
end
end L3
/-! L3i -/
/-! L3i: lists changed where they lie. -/
namespace L3
open PySem PySem.Spec PyProof.Rows L2

/-! ### places in a tree -/
def T.at? : List Int → T → Option T
  | [], t => some t
  | j :: js, .ol ts => (atI ts j).bind (T.at? js)
  | j :: js, .ot ts => (atI ts j).bind (T.at? js)
  | _ :: _, _ => none
def T.put? : List Int → T → T → Option T
  | [], n, _ => some n
  | j :: js, n, .ol ts => (ixN ts.length j).bind fun k => (ts[k]?).bind fun t => (T.put? js n t).map fun t' => .ol (ts.set k t')
  | j :: js, n, .ot ts => (ixN ts.length j).bind fun k => (ts[k]?).bind fun t => (T.put? js n t).map fun t' => .ot (ts.set k t')
  | _ :: _, _, _ => none
inductive Loc (H : Hp) : V → List Int → V → Prop
  | here (v : V) : Loc H v [] v
  | lst {a : Addr} {vs : List V} {j : Int} {js : List Int} {v u : V} : H a = some (.lst vs) → atI vs j = some v → Loc H v js u → Loc H (.ref a) (j :: js) u
  | tup {a : Addr} {vs : List V} {j : Int} {js : List Int} {v u : V} : H a = some (.tup vs) → atI vs j = some v → Loc H v js u → Loc H (.ref a) (j :: js) u
theorem Loc.uniq {H : Hp} : ∀ {v : V} {p : List Int} {u u' : V}, Loc H v p u → Loc H v p u' → u = u'
  | _, _, _, _, .here _, .here _ => rfl
  | _, _, _, _, .lst h1 h2 h3, .lst g1 g2 g3 => by
    rw [h1] at g1; cases g1
    rw [h2] at g2; cases g2
    exact h3.uniq g3
  | _, _, _, _, .tup h1 h2 h3, .tup g1 g2 g3 => by
    rw [h1] at g1; cases g1
    rw [h2] at g2; cases g2
    exact h3.uniq g3
  | _, _, _, _, .lst h1 _ _, .tup g1 _ _ => by rw [h1] at g1; cases g1
  | _, _, _, _, .tup h1 _ _, .lst g1 _ _ => by rw [h1] at g1; cases g1
theorem Loc.grow {H H' : Hp} (s : Same H H') : ∀ {v : V} {p : List Int} {u : V}, Loc H v p u → Loc H' v p u
  | _, _, _, .here v => .here v
  | _, _, _, .lst h1 h2 h3 => .lst (s _ _ h1) h2 (h3.grow s)
  | _, _, _, .tup h1 h2 h3 => .tup (s _ _ h1) h2 (h3.grow s)
theorem Loc.snoc {H : Hp} : ∀ {v : V} {p : List Int} {u w : V} {j : Int}, Loc H v p u → Loc H u [j] w → Loc H v (p ++ [j]) w
  | _, _, _, _, _, .here v, k => k
  | _, _, _, _, _, .lst h1 h2 h3, k => .lst h1 h2 (h3.snoc k)
  | _, _, _, _, _, .tup h1 h2 h3, k => .tup h1 h2 (h3.snoc k)
theorem at_snoc {j : Int} : ∀ {p : List Int} {t0 t : T}, T.at? (p ++ [j]) t0 = some t → ∃ t1, T.at? p t0 = some t1 ∧ T.at? [j] t1 = some t
  | [], t0, t, h => ⟨t0, rfl, h⟩
  | i :: p, .ol ts, t, h => by
    obtain ⟨t2, e1, e2⟩ := Option.bind_eq_some_iff.mp (show (atI ts i).bind (T.at? (p ++ [j])) = some t from h)
    obtain ⟨t1, e3, e4⟩ := at_snoc e2
    exact ⟨t1, by show (atI ts i).bind _ = _; rw [e1]; exact e3, e4⟩
  | i :: p, .ot ts, t, h => by
    obtain ⟨t2, e1, e2⟩ := Option.bind_eq_some_iff.mp (show (atI ts i).bind (T.at? (p ++ [j])) = some t from h)
    obtain ⟨t1, e3, e4⟩ := at_snoc e2
    exact ⟨t1, by show (atI ts i).bind _ = _; rw [e1]; exact e3, e4⟩
  | _ :: _, .d _, _, h => by cases h
  | _ :: _, .od _ _, _, h => by cases h
  | _ :: _, .rd _, _, h => by cases h
section
variable {K : PySem.W.Frag} {F F' : Addr → Prop} {H H' : Hp}
structure Put1 (K : PySem.W.Frag) (F : Addr → Prop) (H : Hp) (k : Nat) (vs : List V) (ts : List T) (B : List Addr) : Prop where
  put : ∀ {F' : Addr → Prop} {H' : Hp}, Mono F F' H H' → (∀ a ∈ B, H' a = H a) → ∀ {v' : V} {t' : T} {A2 : List Addr}, Rp K F' H' v' t' A2 → ∃ C, RpAll K F' H' (vs.set k v') (ts.set k t') C ∧ ∀ a, C.count a = A2.count a + B.count a
theorem RpAll.around : ∀ {vs : List V} {ts : List T} {A : List Addr}, RpAll K F H vs ts A → ∀ {k : Nat} {t : T}, ts[k]? = some t → ∃ (v : V) (A1 B : List Addr), vs[k]? = some v ∧ Rp K F H v t A1 ∧ (∀ a, A.count a = A1.count a + B.count a) ∧ Put1 K F H k vs ts B
  | _, _, _, .nil, k, t, h => by simp at h
  | _, _, _, .cons (v := v) (A := A1) (B := B1) x r, 0, t, h => by
    simp at h; subst h
    exact ⟨v, A1, B1, rfl, x, fun a => by rw [List.count_append], ⟨fun m k v' t' A2 y => ⟨A2 ++ B1, .cons y (r.mono m k), fun a => by rw [List.count_append]⟩⟩⟩
  | _, _, _, .cons (A := A0) (B := B0) x r, k + 1, t, h => by
    obtain ⟨v, A1, B, e, y, hc, p⟩ := r.around (k := k) (t := t) (by simpa using h)
    refine ⟨v, A1, A0 ++ B, by simpa using e, y, fun a => by rw [List.count_append, List.count_append, hc a]; omega, ⟨fun m kk v' t' A2 z => ?_⟩⟩
    obtain ⟨C, s, w⟩ := p.put m (fun a ha => kk a (List.mem_append_right _ ha)) z
    exact ⟨A0 ++ C, .cons (x.mono m fun a ha => kk a (List.mem_append_left _ ha)) s, fun a => by rw [List.count_append, List.count_append, w a]; omega⟩
theorem atI_ix {α : Type} {xs : List α} {j : Int} {x : α} (h : atI xs j = some x) : ∃ k, ixN xs.length j = some k ∧ xs[k]? = some x := by
  obtain ⟨k, e1, e2⟩ := Option.bind_eq_some_iff.mp (show (ixN xs.length j).bind (fun k => xs[k]?) = some x from h)
  exact ⟨k, e1, e2⟩
/-- a part of a tree: where it lies, what is around it -/
theorem Rp.loc : ∀ {p : List Int} {v0 : V} {t0 t : T} {A0 : List Addr}, Rp K F H v0 t0 A0 → T.at? p t0 = some t → ∃ (v : V) (A1 B : List Addr), Loc H v0 p v ∧ Rp K F H v t A1 ∧ (∀ a, A0.count a = A1.count a + B.count a) ∧
    ∀ {F' : Addr → Prop} {H' : Hp}, Mono F F' H H' → (∀ a ∈ B, H' a = H a) → ∀ {t' : T} {A2 : List Addr}, Rp K F' H' v t' A2 → ∃ t0' C, T.put? p t' t0 = some t0' ∧ Rp K F' H' v0 t0' C ∧ ∀ a, C.count a = A2.count a + B.count a
  | [], v0, t0, t, A0, h, e => by
    cases e
    exact ⟨v0, A0, [], .here v0, h, fun a => by simp, fun m k t' A2 x => ⟨t', A2, rfl, x, fun a => by simp⟩⟩
  | j :: js, _, .ol ts, t, _, .ol (a := a0) (vs := vs) (A := A1) h r, e => by
    obtain ⟨t1, e1, e2⟩ := Option.bind_eq_some_iff.mp (show (atI ts j).bind (T.at? js) = some t from e)
    obtain ⟨k, ek, ev⟩ := atI_ix e1
    obtain ⟨v1, A2, B2, g1, g2, g3, g4⟩ := r.around ev
    obtain ⟨v, A3, B3, l, x, hc, pt⟩ := Rp.loc g2 e2
    have lv : atI vs j = some v1 := by
      show (ixN vs.length j).bind (fun k => vs[k]?) = _
      rw [r.len, ek]; exact g1
    refine ⟨v, A3, a0 :: (B3 ++ B2), .lst h lv l, x, fun a => by rw [List.count_cons, List.count_cons, List.count_append, g3 a, hc a]; omega, fun {F' H'} m kk t' A4 y => ?_⟩
    have k2 : ∀ a ∈ B2, H' a = H a := fun a ha => kk a (List.mem_cons_of_mem _ (List.mem_append_right _ ha))
    have k3 : ∀ a ∈ B3, H' a = H a := fun a ha => kk a (List.mem_cons_of_mem _ (List.mem_append_left _ ha))
    obtain ⟨t1', C, q1, q2, q3⟩ := pt m k3 y
    obtain ⟨C2, s, q4⟩ := g4.put m k2 q2
    have es : vs.set k v1 = vs := set_self g1
    rw [es] at s
    refine ⟨.ol (ts.set k t1'), a0 :: C2, ?_, .ol ((kk a0 List.mem_cons_self).trans h) s, fun a => by rw [List.count_cons, List.count_cons, List.count_append, q4 a, q3 a]; omega⟩
    show (ixN ts.length j).bind _ = _
    rw [ek]
    show (ts[k]?).bind _ = _
    rw [ev]
    show (T.put? js t' t1).map _ = _
    rw [q1]
    rfl
  | j :: js, _, .ot ts, t, _, .ot (a := a0) (vs := vs) (A := A1) h r, e => by
    obtain ⟨t1, e1, e2⟩ := Option.bind_eq_some_iff.mp (show (atI ts j).bind (T.at? js) = some t from e)
    obtain ⟨k, ek, ev⟩ := atI_ix e1
    obtain ⟨v1, A2, B2, g1, g2, g3, g4⟩ := r.around ev
    obtain ⟨v, A3, B3, l, x, hc, pt⟩ := Rp.loc g2 e2
    have lv : atI vs j = some v1 := by
      show (ixN vs.length j).bind (fun k => vs[k]?) = _
      rw [r.len, ek]; exact g1
    refine ⟨v, A3, B3 ++ B2, .tup h lv l, x, fun a => by rw [List.count_append, g3 a, hc a]; omega, fun {F' H'} m kk t' A4 y => ?_⟩
    have k2 : ∀ a ∈ B2, H' a = H a := fun a ha => kk a (List.mem_append_right _ ha)
    have k3 : ∀ a ∈ B3, H' a = H a := fun a ha => kk a (List.mem_append_left _ ha)
    obtain ⟨t1', C, q1, q2, q3⟩ := pt m k3 y
    obtain ⟨C2, s, q4⟩ := g4.put m k2 q2
    have es : vs.set k v1 = vs := set_self g1
    rw [es] at s
    refine ⟨.ot (ts.set k t1'), C2, ?_, .ot (m.still _ _ h trivial) s, fun a => by rw [q4 a, q3 a, List.count_append]; omega⟩
    show (ixN ts.length j).bind _ = _
    rw [ek]
    show (ts[k]?).bind _ = _
    rw [ev]
    show (T.put? js t' t1).map _ = _
    rw [q1]
    rfl
  | _ :: _, _, .d _, _, _, _, e => by cases e
  | _ :: _, _, .od _ _, _, _, _, e => by cases e
  | _ :: _, _, .rd _, _, _, _, e => by cases e
end

/-! ### containers -/
def T.int? : T → Option Int
  | .d (.int j) => some j
  | _ => none
theorem int?_eq {t : T} {j : Int} (h : t.int? = some j) : t = .d (.int j) := by
  unfold T.int? at h
  split at h
  · cases h; rfl
  · cases h
abbrev ML := Env → Option (List Int)
def SimL (K : PySem.W.Frag) (i : Nat) (te : TE) (mp : ML) : Prop :=
  ∀ (c : C0) (H : Hp) (tv : List (Option V)) (td : Env) (σ : L2.St) (ρ : Env) (A : List Addr) (p : List Int) (t0 t : T), tv.length = td.length → StW K c H (tv ++ σ) (td ++ ρ) A → mp ρ = some p → ρ[i]? = some (some t0) → T.at? p t0 = some t → ∀ Q : VK,
    (∀ v0 v, σ[i]? = some (some v0) → Loc H v0 p v → Q v H) → te σ H Q
structure QL (X : Cx) (i : Nat) (e : Expr) (te : TE) (mp : ML) : Prop where
  pe : PE X e te
  sim : SimL X.K i te mp
def lHere : ML := fun _ => some []
def lIx (mp : ML) (mi : MP) : ML := fun ρ => (mp ρ).bind fun p => ((mi ρ).bind T.int?).bind fun j => some (p ++ [j])
section
variable {X : Cx} {E : Str → Hp → Prop} {a b : Expr} {ta tb : TE} {pos : Pos}
theorem ql_name (i : Nat) {x : Str} {pos : Pos} (hN : X.N[i]? = some x := by rfl) (hv : Vis X.env.scope x := by first | exact Or.inl rfl | exact Or.inr (Or.inl rfl) | exact Or.inr (Or.inr rfl)) (hd : (x == ("__debug__" : Str)) = false := by decide)
    (hcd : (x == ("__classdict__" : Str)) = false := by decide) : QL X i (.Name x pos) (tVar i) lHere := ⟨pe_var hN hv hd hcd, fun c H tv td σ ρ A p t0 t hl w e1 e2 e3 Q q => by
  cases e1
  obtain ⟨v, A1, e4, _, _⟩ := w.see hl e2
  exact ⟨v, e4, q v v e4 (.here v)⟩⟩
theorem ql_ix {i : Nat} {mp : ML} {mi : MP} (ha : QL X i a ta mp) (hb : QP X b tb mi) (hs : PlainIx b := by exact fun _ _ => rfl) : QL X i (.Subscript a b pos) (tOp (rIx X.K) ta tb) (lIx mp mi) := by
  refine ⟨pe_ix ix_seq ha.pe hb.pe hs, fun c H tv td σ ρ A p t0 t hl w e1 e2 e3 Q q => ?_⟩
  unfold lIx at e1
  obtain ⟨p0, e4, e5⟩ := Option.bind_eq_some_iff.mp e1
  obtain ⟨j, e6', e7⟩ := Option.bind_eq_some_iff.mp e5
  obtain ⟨tj, e6, e60⟩ := Option.bind_eq_some_iff.mp e6'
  · cases e7
    cases int?_eq e60
    obtain ⟨t1, e8, e9⟩ := at_snoc e3
    obtain ⟨v0, A0, ev0, r0, _⟩ := w.see hl e2
    refine ha.sim c H tv td σ ρ A p0 t0 t1 hl w e4 e2 e8 _ fun v0' v1 ev0' l1 => ?_
    rw [ev0] at ev0'; cases ev0'
    obtain ⟨v1', A1, B1, l1', r1, _, _⟩ := r0.loc e8
    have := l1.uniq l1'
    subst this
    obtain ⟨v2, A2, B2, l2, _, _, _⟩ := r1.loc e9
    refine hb.sim c H tv td σ ρ A _ hl w e6 _ fun u A3 r3 _ => ?_
    have eu := r3.i
    cases l2 with
    | lst h1 h2 h3 =>
      cases h3
      exact .inl ⟨_, _, j, v2, rfl, eu, .of h1, h2, q v0 v2 ev0 (l1.snoc (.lst h1 h2 (.here _)))⟩
    | tup h1 h2 h3 =>
      cases h3
      exact .inr (.inl ⟨_, _, j, v2, rfl, eu, .of h1, h2, q v0 v2 ev0 (l1.snoc (.tup h1 h2 (.here _)))⟩)
end

/-! ### a list's methods that change it -/
def UpdV (K : PySem.W.Frag) (rM : V → List V → Hp → VK → Prop) (op : List T → List T → Option (T × List T)) : Prop :=
  ∀ (F : Addr → Prop) (H : Hp) (a : Addr) (vs ys : List V) (ts us : List T) (A1 A2 : List Addr) (r : T × List T), H a = some (.lst vs) → RpAll K F H vs ts A1 → RpAll K F H ys us A2 → op ts us = some r → ∀ Q : VK,
    (∀ res vs' C1 C2, Rp K F H res r.1 C1 → RpAll K F H vs' r.2 C2 → (∀ b, C1.count b + C2.count b ≤ A1.count b + A2.count b) → Q res (upd H a (.lst vs'))) → rM (.ref a) ys H Q
def lstAt (p : List Int) (o : Option (Option T)) : Option (List T) := match o with
  | some (some t) => (match T.at? p t with | some (.ol ts) => some ts | _ => none)
  | _ => none
def putAt (i : Nat) (p : List Int) (ts : List T) (ρ : Env) : Option Env := match ρ[i]? with
  | some (some t) => (T.put? p (.ol ts) t).map fun t' => ρ.set i (some t')
  | _ => none
def mMeth (i : Nat) (mp : ML) (op : List T → List T → Option (T × List T)) (ma : MA) : MEx := fun ρ => (ofO (mp ρ)).bind fun p => (ofO (lstAt p ρ[i]?)).bind fun _ => (ma ρ).bind fun r => (ofO (lstAt p r.2[i]?)).bind fun ts => (ofO (op ts r.1)).bind fun z => (ofO (putAt i p z.2 r.2)).bind fun ρ' => .ok (z.1, ρ')
theorem lstAt_some {p : List Int} {o : Option (Option T)} {ts : List T} (h : lstAt p o = some ts) : ∃ t, o = some (some t) ∧ T.at? p t = some (.ol ts) := by
  unfold lstAt at h
  split at h
  · rename_i t
    split at h
    · rename_i e
      cases h
      exact ⟨t, rfl, e⟩
    · cases h
  · cases h
/-- the heart: a list that lies in slot i at p is written -/
theorem StW.write {K : PySem.W.Frag} {c : C0} {H : Hp} {tv : List (Option V)} {td : Env} {σ : L2.St} {ρ : Env} {A Aa B : List Addr} (hl : tv.length = td.length) (u : ∀ a, A.count a ≤ 1) (ow : ∀ a ∈ A, a ∈ c.A0 ∨ c.H0 a = none) (k : KeepC c H) (hc : ∀ a, Aa.count a + B.count a ≤ A.count a)
    (s : Sl K (Fok c A) H (tv ++ σ) (td ++ ρ) B) {i : Nat} {p : List Int} {t0 : T} {ts : List T} (e0 : ρ[i]? = some (some t0)) (e1 : T.at? p t0 = some (.ol ts)) :
    ∃ (v0 : V) (a : Addr) (vs : List V) (A1 : List Addr), σ[i]? = some (some v0) ∧ Loc H v0 p (.ref a) ∧ H a = some (.lst vs) ∧ RpAll K (Fok c A) H vs ts A1 ∧
      ∀ (res : V) (tr : T) (vs' : List V) (ts' : List T) (C1 C2 : List Addr) (ρ' : Env), Rp K (Fok c A) H res tr C1 → RpAll K (Fok c A) H vs' ts' C2 → (∀ b, C1.count b + C2.count b ≤ A1.count b + Aa.count b) → putAt i p ts' ρ = some ρ' →
        StR K c (upd H a (.lst vs')) (some res :: (tv ++ σ)) (some tr :: (td ++ ρ')) := by
  have hlen := s.len
  have hi : i < ρ.length := (List.getElem?_eq_some_iff.mp e0).1
  obtain ⟨B1, hb, ar, get⟩ := s.around (i := tv.length + i) (by rw [hlen, List.length_append]; omega)
  obtain ⟨v0, A0, e3, x, hc1⟩ := get t0 (by rw [app_at hl.symm, e0])
  rw [app_at rfl] at e3
  obtain ⟨v, Al, Bl, l, xl, hc2, pt⟩ := x.loc e1
  cases xl with
  | @ol a vs _ A1 ha ra =>
    refine ⟨v0, a, vs, A1, e3, l, ha, ra, fun res tr vs' ts' C1 C2 ρ' xr xs hC ep => ?_⟩
    have cc : ∀ b, (a :: A1).count b = A1.count b + (if a = b then 1 else 0) := fun b => by
      rw [List.count_cons]
      by_cases e : a = b
      · simp [e]
      · simp [e]
    have tot : ∀ b, A1.count b + (if a = b then 1 else 0) + Bl.count b + B1.count b + Aa.count b ≤ A.count b := fun b => by
      have h1 := hc b
      have h2 := hc1 b
      have h3 := hc2 b
      have h4 := cc b
      omega
    have aA : a ∈ A := List.count_pos_iff.mp (by have := tot a; rw [if_pos rfl] at this; omega)
    have ne : ∀ {C : List Addr}, (∀ b, C.count b + (if a = b then 1 else 0) ≤ A.count b) → ∀ b ∈ C, b ≠ a := fun {C} h b hb e => by
      subst e
      have h1 := h b
      have h2 := u b
      have h3 := List.count_pos_iff.mpr hb
      rw [if_pos rfl] at h1
      omega
    let H2 := upd H a (.lst vs')
    have mo : Mono (Fok c A) (Fok c A) H H2 := ⟨fun b ws e f => ⟨by show upd H a _ b = _; rw [upd_ne (fun z => f.2 (by rw [z]; exact aA))]; exact e, f⟩, fun b uu e st => by
      show upd H a _ b = _
      rw [upd_ne (fun z => by rw [z, ha] at e; cases e; exact st)]
      exact e⟩
    have eqs : ∀ {C : List Addr}, (∀ b ∈ C, b ≠ a) → ∀ b ∈ C, H2 b = H b := fun h b hb => upd_ne (h b hb)
    have nC1 : ∀ b ∈ C1, b ≠ a := ne fun b => by have := hC b; have := tot b; omega
    have nC2 : ∀ b ∈ C2, b ≠ a := ne fun b => by have := hC b; have := tot b; omega
    have nBl : ∀ b ∈ Bl, b ≠ a := ne fun b => by have := tot b; omega
    have nB1 : ∀ b ∈ B1, b ≠ a := ne fun b => by have := tot b; omega
    obtain ⟨t0', C3, q1, q2, q3⟩ := pt mo (eqs nBl) (t' := .ol ts') (A2 := a :: C2) (.ol upd_same (xs.mono mo (eqs nC2)))
    obtain ⟨C4, s4, q4⟩ := ar.put mo (eqs nB1) q2
    rw [app_set rfl, set_self e3, app_set hl.symm] at s4
    have er : ρ' = ρ.set i (some t0') := by
      unfold putAt at ep
      rw [e0] at ep
      dsimp only at ep
      rw [q1] at ep
      cases ep
      rfl
    subst er
    have fin : ∀ b, (C1 ++ C4).count b ≤ A.count b := fun b => by
      have h1 := q4 b
      have h2 := q3 b
      have h3 := hC b
      have h4 := tot b
      rw [List.count_append]
      rw [List.count_cons] at h2
      by_cases e : a = b
      · simp [e] at h2 h4; omega
      · simp [e] at h2 h4; omega
    refine ⟨C1 ++ C4, fun b => Nat.le_trans (fin b) (u b), ?_, fun b hb => ow b (List.count_pos_iff.mp (Nat.lt_of_lt_of_le (List.count_pos_iff.mpr hb) (fin b))), ⟨fun b o e n => ?_, fun b e => ?_⟩⟩
    · exact (Sl.cons (xr.mono mo (eqs nC1)) s4).mono (.sub fun b _ => Fok.sub fin b) fun _ _ => rfl
    · rw [upd_ne]
      · exact k.keep b o e n
      · intro z
        subst z
        rcases ow b aA with y | y
        · exact n y
        · rw [e] at y; cases y
    · by_cases z : b = a
      · subst z
        rw [upd_same] at e; cases e
      · rw [upd_ne z] at e
        exact k.there b e
section
variable {X : Cx} {E : Str → Hp → Prop} {o e : Expr} {es : List Expr} {to : TE} {t : TA} {name : Str} {apos cpos : Pos} {id : String} {rM : V → List V → Hp → VK → Prop} {op : List T → List T → Option (T × List T)} {g : Bool}
theorem ty_list {K : PySem.W.Frag} {a : Addr} {vs : List V} {H : Hp} (h : H a = some (.lst vs)) : tyV K "list" (.ref a) H := .inl ⟨rfl, vs, .of h⟩
theorem sim_meth {K : PySem.W.Frag} {i : Nat} {mp : ML} {ma : MA} (hv : UpdV K rM op) (sl : SimL K i to mp) (sa : SimA K E g t ma) (hg : g = true ∨ ∀ ρ p, mp ρ = some p → p = []) : SimE K E false (tBM K "list" rM to t) (mMeth i mp op ma) := by
  intro c H tv td σ ρ hl st Q q
  unfold mMeth at q
  obtain ⟨p, ep, q⟩ := then_ofO.mp (then_bind.mp q)
  obtain ⟨ts0, el, q⟩ := then_ofO.mp (then_bind.mp q)
  obtain ⟨t0, e0, e1⟩ := lstAt_some el
  have q1 := then_bind.mp q
  obtain ⟨A, w⟩ := st
  refine sl c H tv td σ ρ A p t0 _ hl w ep e0 e1 _ fun v0 v ev0 lv => ?_
  obtain ⟨v0', a0, vs0, A10, ev0', l0, ha0, _, _⟩ := StW.write (Aa := []) hl w.uniq w.own w.keep (fun a => by simp) w.slots e0 e1
  rw [ev0] at ev0'; cases ev0'
  have ev := lv.uniq l0
  subst ev
  refine ⟨ty_list ha0, ?_⟩
  refine sa c H tv td σ ρ hl ⟨A, w⟩ _ (q1.imp ?_)
  intro r q2 ys H1 sm hys st1
  obtain ⟨ts, er, q3⟩ := then_ofO.mp (then_bind.mp q2)
  obtain ⟨t1, e2, e3⟩ := lstAt_some er
  obtain ⟨z, ez, q4⟩ := then_ofO.mp (then_bind.mp q3)
  obtain ⟨ρ', eρ, q5⟩ := then_ofO.mp (then_bind.mp q4)
  obtain ⟨A', w1⟩ := st1
  obtain ⟨Aa, B, eA, ra, s⟩ := w1.slots.front hys
  obtain ⟨v1, a, vs, A1, ev1, l1, ha, rl, fin⟩ := StW.write (Aa := Aa) hl w1.uniq w1.own w1.keep (fun a => by rw [eA, List.count_append]; exact Nat.le_refl _) s e2 e3
  rw [ev0] at ev1; cases ev1
  have ea : a0 = a := by
    rcases hg with hg | hg
    · have := (lv.grow (sm hg)).uniq l1
      cases this; rfl
    · have := hg ρ p ep
      subst this
      cases l1; cases lv; rfl
  subst ea
  refine hv _ H1 a0 vs ys ts r.1 A1 Aa z ha rl ra ez Q fun res vs' C1 C2 x1 x2 hC => ?_
  exact q5 _ _ (fun y => by cases y) (fin res z.1 vs' z.2 C1 C2 ρ' x1 x2 hC eρ)
theorem lHere_nil {ρ : Env} {p : List Int} (h : lHere ρ = some p) : p = [] := by cases h; rfl
theorem qe_meth {i : Nat} {mp : ML} {ma : MA} (slot : Slot "list" name id) (hty : typeOf (.builtin id) = pure (.type "method_descriptor")) (hm : MtR X id rM) (hv : UpdV X.K rM op) (ho : QL X i o to mp) (ha : QA X E g (e :: es) t ma) (hg : g = true ∨ ∀ ρ p, mp ρ = some p → p = [])
    (hbase : attributeBase o name X.env (eval o X.env) = eval o X.env := by rfl)
    (hfew : ((backTo cpos (starEach (e :: es) X.env)).all (fun x => !x.1) && (backToKw cpos (keywordEach [] X.env)).all (fun x => x.1.isSome)
      && decide ((e :: es).length + ([] : List Keyword).length + (if ([] : List Keyword).isEmpty then 0 else 1) < 30)) = true := by rfl)
    (hline : (apos.endLine == cpos.line) = true := by rfl) (hs : starEach (e :: es) X.env = (false, eval e X.env) :: starEach es X.env := by rfl) (hplain : (backTo cpos (starEach es X.env)).any (·.1) = false := by rfl) :
    QE X E false (.Call (.Attribute o name apos) (e :: es) [] cpos) (tBM X.K "list" rM to t) (mMeth i mp op ma) := ⟨pe_bm PySem.F.plainAttrs_list slot hty hm ho.pe ha.pa hbase hfew hline hs hplain, sim_meth hv ho.sim ha.sim hg⟩
end
/-! append, extend, insert -/
def opAppend : List T → List T → Option (T × List T) := fun ts us => match us with
  | [u] => if decide (ts.length < sLine) = true then some (.d .none, ts ++ [u]) else none
  | _ => none
theorem append_v {K : PySem.W.Frag} : UpdV K rAppend opAppend := by
  intro F H a vs ys ts us A1 A2 r ha r1 r2 e Q q
  unfold opAppend at e
  split at e
  · split at e
    · rename_i u hz
      cases e
      cases r2 with
      | cons x rn =>
        rename_i v vs0 Ax Bx
        cases rn
        have hz' := of_decide_eq_true hz
        obtain ⟨C, r', z⟩ := r1.snoc x
        exact ⟨a, vs, v, rfl, rfl, ha, by rw [r1.len, ← sLine_eq]; exact hz', q .non _ [] C (.d .non) r' fun b => by rw [z b, List.count_append]; simp⟩
    · cases e
  · cases e
def T.kids : T → Option (List T)
  | .d (.list ds) => some (ds.map T.d)
  | .ol ts => some ts
  | _ => none
theorem RpAll.append {K : PySem.W.Frag} {F : Addr → Prop} {H : Hp} : ∀ {vs ws : List V} {ts us : List T} {A B : List Addr}, RpAll K F H vs ts A → RpAll K F H ws us B → ∃ C, RpAll K F H (vs ++ ws) (ts ++ us) C ∧ ∀ a, C.count a = A.count a + B.count a
  | _, _, _, _, _, B, .nil, x => ⟨B, x, fun a => by simp⟩
  | _, _, _, _, _, _, .cons (A := A1) y r, x => by
    obtain ⟨C, r', z⟩ := r.append x
    exact ⟨A1 ++ C, .cons y r', fun a => by rw [List.count_append, List.count_append, z a]; omega⟩
theorem Rp.kids {K : PySem.W.Frag} {F : Addr → Prop} {H : Hp} {v : V} {t : T} {A : List Addr} {us : List T} (h : Rp K F H v t A) (e : t.kids = some us) : ∃ b ws B, v = .ref b ∧ H b = some (.lst ws) ∧ RpAll K F H ws us B ∧ ∀ a, B.count a ≤ A.count a := by
  unfold T.kids at e
  split at e
  · cases e
    cases h with
    | d h =>
      cases h with
      | lst h1 _ f => exact ⟨_, _, [], rfl, h1, RpAll.ofFz f, fun a => by simp⟩
  · cases e
    cases h with
    | ol h1 r => exact ⟨_, _, _, rfl, h1, r, fun a => by rw [List.count_cons]; omega⟩
  · cases e
def opExtend : List T → List T → Option (T × List T) := fun ts us => match us with
  | [u] => (match u.kids with | some ks => if decide (ts.length + ks.length ≤ sLine) = true then some (.d .none, ts ++ ks) else none | none => none)
  | _ => none
theorem extend_v {K : PySem.W.Frag} : UpdV K rExtend opExtend := by
  intro F H a vs ys ts us A1 A2 r ha r1 r2 e Q q
  unfold opExtend at e
  split at e
  · rename_i u
    cases ek : u.kids with
    | none => rw [ek] at e; cases e
    | some ks =>
      rw [ek] at e
      dsimp only at e
      split at e
      · rename_i hz
        cases e
        cases r2 with
        | cons x rn =>
          rename_i v vs0 Ax Bx
          cases rn
          have hz' := of_decide_eq_true hz
          obtain ⟨b, ws, B, rfl, hb, rk, hB⟩ := x.kids ek
          obtain ⟨C, r', z⟩ := r1.append rk
          exact ⟨a, b, vs, ws, rfl, rfl, ha, hb, by rw [r1.len, rk.len, ← sLine_eq]; exact hz', q .non _ [] C (.d .non) r' fun a => by have := hB a; rw [z a, List.count_append]; simp; omega⟩
      · cases e
  · cases e

/-! ### a list's item stored -/
def mgItem (i : Nat) (mp : ML) (mi : MP) : MG := fun t ρ => (mp ρ).bind fun p => ((mi ρ).bind T.int?).bind fun j => (lstAt p ρ[i]?).bind fun ts => (ixN ts.length j).bind fun k => putAt i p (ts.set k t) ρ
section
variable {X : Cx} {a b : Expr} {ta tb : TE} {pos : Pos} {pr : Nat → Bool}
theorem RpAll.setk {K : PySem.W.Frag} {F : Addr → Prop} {H : Hp} {vs : List V} {ts : List T} {A B : List Addr} {v : V} {t : T} (r : RpAll K F H vs ts A) (k : Nat) (hk : k < ts.length) (x : Rp K F H v t B) : ∃ C, RpAll K F H (vs.set k v) (ts.set k t) C ∧ ∀ a, C.count a ≤ A.count a + B.count a := by
  obtain ⟨v1, A1, B1, _, _, hc, p⟩ := r.around (List.getElem?_eq_getElem hk)
  obtain ⟨C, s, z⟩ := p.put (Mono.sub fun _ _ x => x) (fun _ _ => rfl) x
  exact ⟨C, s, fun a => by have := z a; have := hc a; omega⟩
theorem qg_item {i : Nat} {mp : ML} {mi : MP} (ho : QL X i a ta mp) (hi : QP X b tb mi) (ha : ∀ v, assign (.Subscript a b pos) X.env v = (do
      let ov ← holding [v] (eval a X.env)
      let iv ← holding [v, ov] (eval b X.env)
      standAt pos
      holding [v, ov, iv] (setItem ov iv v)
      release [v, ov, iv] []) := by intro _; rfl) : QG X pr (.Subscript a b pos) (gSub ta tb rSetL) (mgItem i mp mi) := by
  refine ⟨pg_sub ho.pe hi.pe set_list ha, fun c H tv td σ ρ ρ' v t hl st e Q q => ?_⟩
  unfold mgItem at e
  obtain ⟨p, e1, e⟩ := Option.bind_eq_some_iff.mp e
  obtain ⟨j, e2', e⟩ := Option.bind_eq_some_iff.mp e
  obtain ⟨tj, e2, e20⟩ := Option.bind_eq_some_iff.mp e2'
  cases int?_eq e20
  obtain ⟨ts, e3, e⟩ := Option.bind_eq_some_iff.mp e
  · obtain ⟨k, e4, e5⟩ := Option.bind_eq_some_iff.mp e
    obtain ⟨t0, e6, e7⟩ := lstAt_some e3
    obtain ⟨A, w⟩ := st
    have w' : StW X.K c H ((some v :: tv) ++ σ) ((some t :: td) ++ ρ) A := w
    refine ho.sim c H (some v :: tv) (some t :: td) σ ρ A p t0 _ (by simp [hl]) w' e1 e6 e7 _ fun v0 vo ev0 lo => ?_
    refine hi.sim c H (some v :: tv) (some t :: td) σ ρ A _ (by simp [hl]) w' e2 _ fun u Au ru _ => ?_
    have eu := ru.i
    obtain ⟨Aa, B, eA, x, s⟩ := w.top
    obtain ⟨v1, a1, vs, A1, ev1, l1, ha1, rl, fin⟩ := StW.write (Aa := Aa) hl w.uniq w.own w.keep (fun a => by rw [eA, List.count_append]; exact Nat.le_refl _) s e6 e7
    rw [ev0] at ev1; cases ev1
    have := lo.uniq l1
    subst this
    have hk : k < ts.length := (ixN_seq e4).2.1
    refine ⟨a1, vs, j, k, rfl, eu, ha1, by rw [rl.len]; exact e4, ?_⟩
    obtain ⟨C, s', z⟩ := rl.setk k hk x
    exact q σ _ .refl (fin .non (.d .none) _ _ [] C ρ' (.d .non) s' (fun b => by have := z b; simp; omega) e5).drop
end
end L3
/-! L3j -/
/-! L3j: what is built in; more sources; constants. -/
namespace L3
open PySem PySem.Spec PyProof.Rows L2

/-! ### len, abs, int, str, list, tuple, max, min -/
def T.size : T → Option Nat
  | .d (.list ds) => some ds.length
  | .d (.tuple ds) => some ds.length
  | .d (.str s) => if decide (s.length ≤ sLine) = true then some s.length else none
  | .ol ts => some ts.length
  | .ot ts => some ts.length
  | .rd ds => some ds.length
  | _ => none
def opLen : List T → R RV
  | [t] => (ofO t.size).bind fun n => .ok (.v (.d (.int n)))
  | _ => .bad
abbrev rLen (K : PySem.W.Frag) : List V → Hp → VK → Prop := fun xs H Q => ∃ x n, xs = [x] ∧ LenV K x H n ∧ Q (.int n) H
theorem one_of {K : PySem.W.Frag} {F : Addr → Prop} {H : Hp} {vs : List V} {t : T} {A : List Addr} (h : RpAll K F H vs [t] A) : ∃ v B, vs = [v] ∧ Rp K F H v t B ∧ ∀ a, B.count a ≤ A.count a := by
  cases h with
  | cons x r =>
    cases r
    exact ⟨_, _, rfl, x, fun a => by rw [List.count_append]; omega⟩
theorem two_of {K : PySem.W.Frag} {F : Addr → Prop} {H : Hp} {vs : List V} {t t2 : T} {A : List Addr} (h : RpAll K F H vs [t, t2] A) : ∃ v u B C, vs = [v, u] ∧ Rp K F H v t B ∧ Rp K F H u t2 C := by
  cases h with
  | cons x r =>
    cases r with
    | cons y r =>
      cases r
      exact ⟨_, _, _, _, rfl, x, y⟩
theorem Rp.size {K : PySem.W.Frag} {F : Addr → Prop} {H : Hp} {v : V} {t : T} {A : List Addr} {n : Nat} (h : Rp K F H v t A) (e : t.size = some n) : LenV K v H n := by
  unfold T.size at e
  split at e
  · cases e
    cases h with | d h => cases h with | lst h _ f => exact .inl ⟨_, .of h, f.len.symm⟩
  · cases e
    cases h with | d h => cases h with | tup h f => exact .inr ⟨_, h, f.len.symm⟩
  · split at e
    · rename_i hz
      cases e
      cases h with | d h => cases h; exact ⟨by rw [← sLine_eq]; exact of_decide_eq_true hz, rfl⟩
    · cases e
  · cases e
    cases h with | ol h f => exact .inl ⟨_, .of h, f.len.symm⟩
  · cases e
    cases h with | ot h f => exact .inr ⟨_, .of h, f.len.symm⟩
  · cases e
    cases h with | rd h f => exact .inl ⟨_, h.sq, f.len.symm⟩
  · cases e
theorem opLen_v {K : PySem.W.Frag} : CallV K (rLen K) opLen := by
  intro F H vs ts A r Q q
  unfold opLen at q
  split at q
  · obtain ⟨n, e, q⟩ := then_ofO.mp (then_bind.mp q)
    obtain ⟨v, B, rfl, x, _⟩ := one_of r
    exact ⟨v, n, rfl, x.size e, rv_d q (.int _)⟩
  · exact q.elim
theorem opLen_nox : NoXL opLen := by
  intro x c
  unfold opLen
  split
  · exact bind_noexc (fun _ => ofO_noexc _) (by intro _ _ z; cases z) c
  · intro z; cases z
def opAbs : List T → R RV
  | [.d (.int i)] => .ok (.v (.d (.int (if i < 0 then -i else i))))
  | _ => .bad
abbrev rAbs : List V → Hp → VK → Prop := fun xs H Q => ∃ i, xs = [.int i] ∧ Q (.int (if i < 0 then -i else i)) H
theorem opAbs_v {K : PySem.W.Frag} : CallV K rAbs opAbs := by
  intro F H vs ts A r Q q
  unfold opAbs at q
  split at q
  · obtain ⟨v, B, rfl, x, _⟩ := one_of r
    cases x.i
    exact ⟨_, rfl, rv_d q (.int _)⟩
  · exact q.elim
theorem opAbs_nox : NoXL opAbs := by
  intro x c
  unfold opAbs
  split <;> (intro z; cases z)
def opInt1 : List T → R RV
  | [.d (.int i)] => .ok (.v (.d (.int i)))
  | [.d (.bool b)] => .ok (.v (.d (.int (if b then 1 else 0))))
  | _ => .bad
abbrev rInt1 : List V → Hp → VK → Prop := fun xs H Q => (∃ i, xs = [.int i] ∧ Q (.int i) H) ∨ ∃ k, xs = [.bl k] ∧ Q (.int (if k then 1 else 0)) H
theorem opInt1_v {K : PySem.W.Frag} : CallV K rInt1 opInt1 := by
  intro F H vs ts A r Q q
  unfold opInt1 at q
  split at q
  · obtain ⟨v, B, rfl, x, _⟩ := one_of r
    cases x.i
    exact .inl ⟨_, rfl, rv_d q (.int _)⟩
  · obtain ⟨v, B, rfl, x, _⟩ := one_of r
    cases x.b
    exact .inr ⟨_, rfl, rv_d q (.int _)⟩
  · exact q.elim
theorem opInt1_nox : NoXL opInt1 := by
  intro x c
  unfold opInt1
  split <;> (intro z; cases z)
def opStrI : List T → R RV
  | [.d (.int i)] => guard (decide (i.natAbs.log2 < 1920)) (.ok (.v (.d (.str (toString i)))))
  | _ => .bad
abbrev rStrI : List V → Hp → VK → Prop := fun xs H Q => ∃ i, xs = [.int i] ∧ i.natAbs.log2 < 1920 ∧ Q (.str (toString i)) H
theorem opStrI_v {K : PySem.W.Frag} : CallV K rStrI opStrI := by
  intro F H vs ts A r Q q
  unfold opStrI at q
  split at q
  · obtain ⟨v, B, rfl, x, _⟩ := one_of r
    obtain ⟨g, q⟩ := then_guard.mp q
    cases x.i
    exact ⟨_, rfl, of_decide_eq_true g, rv_d q (.str _)⟩
  · exact q.elim
theorem opStrI_nox : NoXL opStrI := by
  intro x c
  unfold opStrI
  split
  · exact guard_noexc (by intro _ z; cases z) c
  · intro z; cases z
/-- the data of a list or a tuple -/
def T.seq? : T → Option (List PyData)
  | .d (.list ds) => some ds
  | .d (.tuple ds) => some ds
  | .ol ts => T.allD ts
  | .rd ds => some ds
  | _ => none
theorem Rp.seq? {K : PySem.W.Frag} {F : Addr → Prop} {H : Hp} {v : V} {t : T} {A : List Addr} {ds : List PyData} (h : Rp K F H v t A) (e : t.seq? = some ds) : ∃ a vs, v = .ref a ∧ (SqL K H a vs ∨ SqT K H a vs) ∧ FzAll K F H vs ds := by
  unfold T.seq? at e
  split at e
  · cases e
    cases h with | d h => cases h with | lst h _ f => exact ⟨_, _, rfl, .inl (.of h), f⟩
  · cases e
    cases h with | d h => cases h with | tup h f => exact ⟨_, _, rfl, .inr h, f⟩
  · cases h with | ol h r => exact ⟨_, _, rfl, .inl (.of h), (r.data e).1⟩
  · cases e
    cases h with | rd h f => exact ⟨_, _, rfl, .inl h.sq, f⟩
  · cases e
def opListOf : List T → R RV
  | [t] => (ofO t.seq?).bind fun ds => .ok (.nl ds)
  | _ => .bad
abbrev rListOf (K : PySem.W.Frag) : List V → Hp → VK → Prop := fun xs H Q => ∃ p ys, xs = [.ref p] ∧ (SqL K H p ys ∨ SqT K H p ys) ∧ ∀ l, H l = none → Q (.ref l) (upd H l (.lst ys))
theorem opListOf_v {K : PySem.W.Frag} : CallV K (rListOf K) opListOf := by
  intro F H vs ts A r Q q
  unfold opListOf at q
  split at q
  · obtain ⟨ds, e, q⟩ := then_ofO.mp (then_bind.mp q)
    obtain ⟨v, B, rfl, x, _⟩ := one_of r
    obtain ⟨a, ws, rfl, h, f⟩ := x.seq? e
    exact ⟨a, ws, rfl, h, fun l hl => q l ws hl f⟩
  · exact q.elim
theorem opListOf_nox : NoXL opListOf := by
  intro x c
  unfold opListOf
  split
  · exact bind_noexc (fun _ => ofO_noexc _) (by intro _ _ z; cases z) c
  · intro z; cases z
def opTupleOf : List T → R RV
  | [.d (.tuple ds)] => .ok (.v (.d (.tuple ds)))
  | [t] => (ofO t.lst?).bind fun ds => .ok (.nt ds)
  | _ => .bad
abbrev rTupleOf (K : PySem.W.Frag) : List V → Hp → VK → Prop := fun xs H Q => ∃ p ys, xs = [.ref p] ∧ ((SqL K H p ys ∧ ∀ l, H l = none → Q (.ref l) (upd H l (.tup ys))) ∨ (SqT K H p ys ∧ Q (.ref p) H))
theorem opTupleOf_v {K : PySem.W.Frag} : CallV K (rTupleOf K) opTupleOf := by
  intro F H vs ts A r Q q
  unfold opTupleOf at q
  split at q
  · obtain ⟨v, B, rfl, x, hB⟩ := one_of r
    obtain ⟨a, ws, rfl, h, f⟩ := x.t
    exact ⟨a, ws, rfl, .inr ⟨h, q _ _ x hB⟩⟩
  · obtain ⟨ds, e, q⟩ := then_ofO.mp (then_bind.mp q)
    obtain ⟨v, B, rfl, x, _⟩ := one_of r
    obtain ⟨a, ws, rfl, h, f⟩ := x.lst? e
    exact ⟨a, ws, rfl, .inl ⟨.of h, fun l hl => q l ws hl f⟩⟩
  · exact q.elim
theorem opTupleOf_nox : NoXL opTupleOf := by
  intro x c
  unfold opTupleOf
  split
  · intro z; cases z
  · exact bind_noexc (fun _ => ofO_noexc _) (by intro _ _ z; cases z) c
  · intro z; cases z
def opMax2 : List T → R RV
  | [.d (.int i), .d (.int j)] => .ok (.v (.d (.int (if j > i then j else i))))
  | _ => .bad
def opMin2 : List T → R RV
  | [.d (.int i), .d (.int j)] => .ok (.v (.d (.int (if j < i then j else i))))
  | _ => .bad
abbrev rMax2 : List V → Hp → VK → Prop := fun xs H Q => ∃ i j, xs = [.int i, .int j] ∧ Q (.int (if j > i then j else i)) H
abbrev rMin2 : List V → Hp → VK → Prop := fun xs H Q => ∃ i j, xs = [.int i, .int j] ∧ Q (.int (if j < i then j else i)) H
theorem opMax2_v {K : PySem.W.Frag} : CallV K rMax2 opMax2 := by
  intro F H vs ts A r Q q
  unfold opMax2 at q
  split at q
  · obtain ⟨v, u, B, C, rfl, x, y⟩ := two_of r
    cases x.i; cases y.i
    exact ⟨_, _, rfl, rv_d q (.int _)⟩
  · exact q.elim
theorem opMin2_v {K : PySem.W.Frag} : CallV K rMin2 opMin2 := by
  intro F H vs ts A r Q q
  unfold opMin2 at q
  split at q
  · obtain ⟨v, u, B, C, rfl, x, y⟩ := two_of r
    cases x.i; cases y.i
    exact ⟨_, _, rfl, rv_d q (.int _)⟩
  · exact q.elim
theorem opMax2_nox : NoXL opMax2 := by
  intro x c
  unfold opMax2
  split <;> (intro z; cases z)
theorem opMin2_nox : NoXL opMin2 := by
  intro x c
  unfold opMin2
  split <;> (intro z; cases z)
/-! negation of an int -/
def opNeg : T → R RV
  | .d (.int i) => .ok (.v (.d (.int (-i))))
  | _ => .bad
theorem opNeg_v {K : PySem.W.Frag} : UnV K (rU fun i => .int (-i)) opNeg := by
  intro F H v x A hx Q q
  unfold opNeg at q
  split at q
  · exact ⟨_, hx.i, rv_d q (.int _)⟩
  · exact q.elim
theorem opNeg_nox : NoX1 opNeg := by
  intro x c
  unfold opNeg
  split <;> (intro z; cases z)
section
variable {X : Cx} {E : Str → Hp → Prop} {a e : Expr} {ta te : TE} {ma : MP} {pos : Pos} {io : List Nat}
theorem qp_neg (ha : QP X a ta ma) : QP X (.UnaryOp .USub a pos) (tUn (rU fun i => .int (-i)) ta) (pUn opNeg ma) := ⟨pe_un un_neg ha.pe, sim_pun opNeg_v ha.sim⟩

/-! ### isinstance -/
def T.ty : T → Option String
  | .d .none => some "NoneType"
  | .d (.bool _) => some "bool"
  | .d (.int _) => some "int"
  | .d (.str _) => some "str"
  | .d (.list _) => some "list"
  | .d (.tuple _) => some "tuple"
  | .ol _ => some "list"
  | .ot _ => some "tuple"
  | _ => none
def isaT (n : String) (t : T) : Option Bool := t.ty.bind fun m => kitB m n
def pIsa (n : String) (m : MP) : MP := fun ρ => ((m ρ).bind (isaT n)).map fun b => .d (.bool b)
theorem sqT_tyx {K : PySem.W.Frag} {H : Hp} {a : Addr} {vs : List V} (h : SqT K H a vs) : TyX K H (.ref a) (.type "tuple") := by
  rcases h with (h | ⟨o, h⟩) | ⟨o, its, n, h, c, _⟩
  · exact .base (.tup h)
  · exact .fTuple h
  · exact .kTuple h c
theorem Rp.ty {K : PySem.W.Frag} {F : Addr → Prop} {H : Hp} {v : V} {t : T} {A : List Addr} {n : String} (h : Rp K F H v t A) (e : t.ty = some n) : TyX K H v (.type n) := by
  unfold T.ty at e
  split at e
  · cases e; cases h with | d h => cases h; exact .base .non
  · cases e; cases h with | d h => cases h; exact .base (.bl _)
  · cases e; cases h with | d h => cases h; exact .base (.int _)
  · cases e; cases h with | d h => cases h; exact .base (.str _)
  · cases e; cases h with | d h => cases h with | lst h _ _ => exact .base (.lst h)
  · cases e; cases h with | d h => cases h with | tup h _ => exact sqT_tyx h
  · cases e; cases h with | ol h _ => exact .base (.lst h)
  · cases e; cases h with | ot h _ => exact .base (.tup h)
  · cases e
theorem qp_isi {n : String} {x : Str} {p p2 : Pos} (he : QP X e te ma) (hm : X.mg "isinstance" = none) (hm2 : X.mg x = none) (hv : bootBuiltins x = some (.type n)) (hg : Gl X "isinstance" := by rfl) (hg2 : Gl X x := by rfl) (hn : x ≠ "__name__" := by decide) (hd : (x == ("__debug__" : Str)) = false := by decide)
    (hs : starEach [e, .Name x p2] X.env = (false, eval e X.env) :: starEach [.Name x p2] X.env := by rfl) (hpl : (backTo pos (starEach [.Name x p2] X.env)).any (·.1) = false := by rfl)
    (hs2 : starEach [.Name x p2] X.env = (false, eval (.Name x p2) X.env) :: starEach [] X.env := by rfl) : QP X (.Call (.Name "isinstance" p) [e, .Name x p2] [] pos) (tCB (rIsi X.K) (tCons te (tCons (tC (.ty n)) tNil))) (pIsa n ma) := by
  refine ⟨pe_callB call_isi hg hm (by decide +kernel) (pa_cons he.pe (pa_cons (pe_bltn hg2 hm2 hv rfl hn hd) pa_nil hs2) hs) (by decide) (by decide) hs hpl, fun c H tv td σ ρ A t hl w e1 Q q => ?_⟩
  unfold pIsa at e1
  obtain ⟨b, e2, e3⟩ := Option.map_eq_some_iff.mp e1
  obtain ⟨t0, e4, e5⟩ := Option.bind_eq_some_iff.mp e2
  obtain ⟨m, e6, e7⟩ := Option.bind_eq_some_iff.mp e5
  subst e3
  refine he.sim c H tv td σ ρ A t0 hl w e4 _ fun v A1 r _ => ?_
  exact ⟨v, .ty n, _, _, b, rfl, .ty n, r.ty e6, kit_ty e7, q _ [] (.d (.bl b)) fun _ z => by simp at z⟩

/-! ### tuples, pairs of lists, numbered lists walked -/
theorem src_tup {K : PySem.W.Frag} {a : Addr} {ds : List PyData} : Src K (Itt K a) [some (.ref a)] [some (.d (.tuple ds))] (ds.map T.d) where
  len := rfl
  goes := by
    intro c H sl ρ i hi st
    obtain ⟨A, w, f⟩ := StR.look st
    cases f with
    | @tup _ vs _ h f =>
      have hl := f.len
      have hi2 : i < vs.length := by rw [hl]; simpa using hi
      exact ⟨vs, vs[i], h, List.getElem?_eq_getElem hi2⟩
  stops := by
    intro c H sl ρ st
    obtain ⟨A, w, f⟩ := StR.look st
    cases f with
    | tup h f => exact ⟨_, h, by rw [List.length_map, f.len]; exact Nat.le_refl _⟩
  yields := by
    intro c H sl ρ i x H' t ht st y
    obtain ⟨rfl, y⟩ := y
    obtain ⟨A, w, f⟩ := StR.look st
    refine ⟨Same.refl _, A, ?_⟩
    rw [List.getElem?_map] at ht
    obtain ⟨z, e1, rfl⟩ := Option.map_eq_some_iff.mp ht
    cases f with
    | tup h f =>
      obtain ⟨v, e2, fz⟩ := f.get e1
      have := y _ h
      rw [e2] at this
      cases this
      exact w.pushD fz
theorem sim_iT {K : PySem.W.Frag} {te : TE} {m : MEx} {g : Bool} (s : SimE K E g te m) : SimI K E (iTup K te) (miT m) := by
  intro c H tv td σ ρ hl st Rr q
  unfold miT at q
  rw [then_bind] at q
  refine s c H tv td σ ρ hl st _ (q.imp ?_)
  rintro ⟨t, ρ1⟩ q1 v H1 _ st1
  obtain ⟨ts, e, q2⟩ := then_ofO.mp (then_bind.mp q1)
  unfold itemsT? at e
  dsimp only at e
  split at e
  · rename_i ds
    cases e
    obtain ⟨A, w, f⟩ := StR.look st1
    cases f with
    | tup h f => exact ⟨_, rfl, ⟨_, h⟩, q2 _ H1 [some _] [some _] src_tup st1⟩
  · cases e
theorem qi_tup {tg e : Expr} {te : TE} {m : MEx} {g : Bool} (h : QE X E g e te m) : QI X E tg e (iTup X.K te) (miT m) := ⟨pi_tup h.pe, sim_iT h.sim⟩
/-- a new pair of data -/
theorem StW.pair {K : PySem.W.Frag} {c : C0} {H : Hp} {sl : List (Option V)} {ρ : Env} {A : List Addr} {p : Addr} {x y : V} {d e : PyData} (w : StW K c H sl ρ A) (hp : H p = none) (fx : Fz K (Fok c A) H x d) (fy : Fz K (Fok c A) H y e) :
    StW K c (upd H p (.tup [x, y])) (some (.ref p) :: sl) (some (.d (.tuple [d, e])) :: ρ) A := by
  have sm := same_upd (o := .tup [x, y]) hp
  exact (w.grow sm).pushD (.tup (.of upd_same) (.cons (fx.mono (.same sm)) (.cons (fy.mono (.same sm)) .nil)))
def zipItems (ds es : List PyData) : List T := (ds.zip es).map fun p => .d (.tuple [p.1, p.2])
def miZ (m : MA) : MI := fun ρ => (m ρ).bind fun r => match r.1 with | [.d (.list ds), .d (.list es)] => .ok (zipItems ds es, r.2) | _ => .bad
theorem src_zip {K : PySem.W.Frag} {a b : Addr} {ds es : List PyData} : Src K (Itz K a b) [some (.ref a), some (.ref b)] [some (.d (.list ds)), some (.d (.list es))] (zipItems ds es) where
  len := rfl
  goes := by
    intro c H sl ρ i hi st
    obtain ⟨A, w⟩ := st
    obtain ⟨f, w2⟩ := StW.topD w
    obtain ⟨f2, _⟩ := StW.topD w2
    have hi' : i < ds.length ∧ i < es.length := by
      unfold zipItems at hi
      rw [List.length_map, List.length_zip] at hi
      omega
    cases f with
    | @lst _ vs _ h _ f =>
      cases f2 with
      | @lst _ ws _ h2 _ f2 =>
        have h3 : i < vs.length := by rw [f.len]; exact hi'.1
        have h4 : i < ws.length := by rw [f2.len]; exact hi'.2
        exact ⟨vs, ws, vs[i], ws[i], .of h, .of h2, List.getElem?_eq_getElem h3, List.getElem?_eq_getElem h4⟩
  stops := by
    intro c H sl ρ st
    obtain ⟨A, w⟩ := st
    obtain ⟨f, w2⟩ := StW.topD w
    obtain ⟨f2, _⟩ := StW.topD w2
    cases f with
    | lst h _ f =>
      cases f2 with
      | lst h2 _ f2 =>
        refine ⟨_, _, .of h, .of h2, ?_⟩
        unfold zipItems
        rw [List.length_map, List.length_zip, f.len, f2.len]
        omega
  yields := by
    intro c H sl ρ i v H' t ht st y
    obtain ⟨p, x, z, rfl, hp, rfl, hx, hz⟩ := y
    obtain ⟨A, w⟩ := st
    obtain ⟨f, w2⟩ := StW.topD w
    obtain ⟨f2, _⟩ := StW.topD w2
    refine ⟨same_upd hp, A, ?_⟩
    unfold zipItems at ht
    rw [List.getElem?_map] at ht
    obtain ⟨⟨d, e⟩, e1, rfl⟩ := Option.map_eq_some_iff.mp ht
    obtain ⟨g1, g2⟩ := List.getElem?_zip_eq_some.mp e1
    cases f with
    | lst h _ f =>
      cases f2 with
      | lst h2 _ f2 =>
        obtain ⟨v1, e2, fx⟩ := f.get g1
        obtain ⟨v2, e3, fy⟩ := f2.get g2
        have n1 := hx _ (.of h)
        have n2 := hz _ (.of h2)
        rw [e2] at n1
        rw [e3] at n2
        cases n1
        cases n2
        exact w.pair hp fx fy
theorem sim_iZ {K : PySem.W.Frag} {ta : TA} {m : MA} {g : Bool} (s : SimA K E g ta m) : SimI K E (iZip K ta) (miZ m) := by
  intro c H tv td σ ρ hl st Rr q
  unfold miZ at q
  rw [then_bind] at q
  refine s c H tv td σ ρ hl st _ (q.imp ?_)
  rintro ⟨ts, ρ1⟩ q1 vs H1 _ hvs st1
  dsimp only at q1 hvs st1
  split at q1
  · rename_i ds es
    match vs, hvs, st1 with
    | [v, u], _, st1 =>
      obtain ⟨A, w⟩ := st1
      obtain ⟨f, w2⟩ := StW.topD w
      obtain ⟨f2, _⟩ := StW.topD w2
      cases f with
      | lst h _ f =>
        cases f2 with
        | lst h2 _ f2 => exact ⟨_, _, _, _, rfl, .of h, .of h2, q1 _ H1 [some _, some _] [some _, some _] src_zip ⟨A, w⟩⟩
  · exact q1.elim
theorem qi_zip {e e2 : Expr} {ta : TA} {m : MA} {g : Bool} {p tpos : Pos} {elts : List Expr} {kk : Nat} (hm : X.mg "zip" = none) (ha : QA X E g [e, e2] ta m) (hg : Gl X "zip" := by rfl)
    (hs : starEach [e, e2] X.env = (false, eval e X.env) :: starEach [e2] X.env := by rfl) (hpl : (backTo pos (starEach [e2] X.env)).any (·.1) = false := by rfl) :
    QI X E (.Tuple elts kk tpos) (.Call (.Name "zip" p) [e, e2] [] pos) (iZip X.K ta) (miZ m) := ⟨pi_zip hg hm ha.pa hs hpl, sim_iZ ha.sim⟩
def enumItems (ds : List PyData) : List T := (List.range ds.length).map fun i => .d (.tuple [.int (i : Nat), ds.getD i .none])
def miN (m : MA) : MI := fun ρ => (m ρ).bind fun r => match r.1 with | [.d (.list ds)] => .ok (enumItems ds, r.2) | _ => .bad
theorem src_enum {K : PySem.W.Frag} {a : Addr} {ds : List PyData} : Src K (Ite K a) [some (.ref a)] [some (.d (.list ds))] (enumItems ds) where
  len := rfl
  goes := by
    intro c H sl ρ i hi st
    obtain ⟨A, w, f⟩ := StR.look st
    cases f with
    | @lst _ vs _ h _ f =>
      have hl := f.len
      have hi2 : i < vs.length := by rw [hl]; simpa [enumItems] using hi
      exact ⟨vs, vs[i], .of h, List.getElem?_eq_getElem hi2⟩
  stops := by
    intro c H sl ρ st
    obtain ⟨A, w, f⟩ := StR.look st
    cases f with
    | lst h _ f => exact ⟨_, .of h, by unfold enumItems; rw [List.length_map, List.length_range, f.len]; exact Nat.le_refl _⟩
  yields := by
    intro c H sl ρ i v H' t ht st y
    obtain ⟨p, x, rfl, hp, rfl, hx⟩ := y
    obtain ⟨A, w, f⟩ := StR.look st
    refine ⟨same_upd hp, A, ?_⟩
    unfold enumItems at ht
    rw [List.getElem?_map] at ht
    obtain ⟨j, e1, rfl⟩ := Option.map_eq_some_iff.mp ht
    obtain ⟨h1, h2⟩ := List.getElem?_eq_some_iff.mp e1
    have ej : i = j := by simpa using h2
    subst ej
    have h3 : i < ds.length := by simpa using h1
    cases f with
    | lst h _ f =>
      have g1 : ds[i]? = some (ds.getD i .none) := by
        rw [List.getD_eq_getElem?_getD, List.getElem?_eq_getElem h3]; rfl
      obtain ⟨v1, e2, fx⟩ := f.get g1
      have n1 := hx _ (.of h)
      rw [e2] at n1
      cases n1
      exact w.pair hp (.int _) fx
theorem sim_iN {K : PySem.W.Frag} {ta : TA} {m : MA} {g : Bool} (s : SimA K E g ta m) : SimI K E (iEnum K ta) (miN m) := by
  intro c H tv td σ ρ hl st Rr q
  unfold miN at q
  rw [then_bind] at q
  refine s c H tv td σ ρ hl st _ (q.imp ?_)
  rintro ⟨ts, ρ1⟩ q1 vs H1 _ hvs st1
  dsimp only at q1 hvs st1
  split at q1
  · rename_i ds
    match vs, hvs, st1 with
    | [v], _, st1 =>
      obtain ⟨A, w⟩ := st1
      obtain ⟨f, _⟩ := StW.topD w
      cases f with
      | lst h _ f => exact ⟨_, _, rfl, .of h, q1 _ H1 [some _] [some _] src_enum ⟨A, w⟩⟩
  · exact q1.elim
theorem qi_enum {e : Expr} {ta : TA} {m : MA} {g : Bool} {p tpos : Pos} {elts : List Expr} {kk : Nat} (hm : X.mg "enumerate" = none) (ha : QA X E g [e] ta m) (hg : Gl X "enumerate" := by rfl)
    (hs : starEach [e] X.env = [(false, eval e X.env)] := by rfl) : QI X E (.Tuple elts kk tpos) (.Call (.Name "enumerate" p) [e] [] pos) (iEnum X.K ta) (miN m) := ⟨pi_enum hg hm ha.pa hs, sim_iN ha.sim⟩

/-! ### slices -/
def cutG {α : Type} (xs : List α) (lo hi : Option Int) : List α := (xs.drop (HT.sIx xs.length 0 lo)).take (HT.sIx xs.length xs.length hi - HT.sIx xs.length 0 lo)
def isWhole (n : Nat) (lo hi : Option Int) : Bool := decide (HT.sIx n 0 lo = 0 ∧ HT.sIx n n hi = n)
theorem FzAll.drop {K : PySem.W.Frag} {F : Addr → Prop} {H : Hp} : ∀ {vs : List V} {xs : List PyData} (n : Nat), FzAll K F H vs xs → FzAll K F H (vs.drop n) (xs.drop n)
  | _, _, 0, h => h
  | _, _, _ + 1, .nil => .nil
  | _, _, n + 1, .cons _ r => r.drop n
theorem FzAll.take {K : PySem.W.Frag} {F : Addr → Prop} {H : Hp} : ∀ {vs : List V} {xs : List PyData} (n : Nat), FzAll K F H vs xs → FzAll K F H (vs.take n) (xs.take n)
  | _, _, 0, _ => .nil
  | _, _, _ + 1, .nil => .nil
  | _, _, n + 1, .cons a r => .cons a (r.take n)
theorem FzAll.cut {K : PySem.W.Frag} {F : Addr → Prop} {H : Hp} {vs : List V} {xs : List PyData} (h : FzAll K F H vs xs) (lo hi : Option Int) : FzAll K F H (cutV vs lo hi) (cutG xs lo hi) := by
  unfold cutV cutG
  rw [h.len]
  exact (h.drop _).take _
abbrev MO := Env → Option (Option Int)
def SimO (K : PySem.W.Frag) (to : TO) (m : MO) : Prop :=
  ∀ (c : C0) (H : Hp) (tv : List (Option V)) (td : Env) (σ : L2.St) (ρ : Env) (A : List Addr) (o : Option Int), tv.length = td.length → StW K c H (tv ++ σ) (td ++ ρ) A → m ρ = some o → ∀ Q : Option Int → Hp → Prop, Q o H → to σ H Q
structure QO (X : Cx) (e : Option Expr) (to : TO) (m : MO) : Prop where
  po : PO X e to
  sim : SimO X.K to m
def oNone : MO := fun _ => some none
def oSome (m : MP) : MO := fun ρ => ((m ρ).bind T.int?).map some
theorem qo_none : QO X none tNoPart oNone := ⟨po_none, fun c H tv td σ ρ A o _ _ e Q q => by cases e; exact q⟩
theorem qo_some (h : QP X e te ma) : QO X (some e) (tPart te) (oSome ma) := ⟨po_some h.pe, fun c H tv td σ ρ A o hl w e Q q => by
  obtain ⟨j, e1, e2⟩ := Option.map_eq_some_iff.mp e
  obtain ⟨t, e3, e4⟩ := Option.bind_eq_some_iff.mp e1
  cases e2
  cases int?_eq e4
  exact h.sim c H tv td σ ρ A _ hl w e3 _ fun v A1 r _ => ⟨j, r.i, q⟩⟩
def opSlL (t : T) (lo hi : Option Int) : Option RV := match t with
  | .d (.list ds) => some (.nl (cutG ds lo hi))
  | .rd ds => some (.nl (cutG ds lo hi))
  | .ol ts => (T.allD ts).map fun ds => .nl (cutG ds lo hi)
  | _ => none
def opSlT (t : T) (lo hi : Option Int) : Option RV := match t with
  | .d (.tuple ds) => if isWhole ds.length lo hi = false then some (.nt (cutG ds lo hi)) else none
  | _ => none
def mSl (op : T → Option Int → Option Int → Option RV) (m : MP) (ml mh : MO) : MEx := fun ρ => (ofO (m ρ)).bind fun t => (ofO (ml ρ)).bind fun lo => (ofO (mh ρ)).bind fun hi => (ofO (op t lo hi)).bind fun z => .ok (z.toT, ρ)
theorem sim_sl {K : PySem.W.Frag} {r : V → Option Int → Option Int → Hp → VK → Prop} {op : T → Option Int → Option Int → Option RV} {tl th : TO} {ml mh : MO} (hv : ∀ (F : Addr → Prop) (H : Hp) (v : V) (t : T) (A : List Addr) (lo hi : Option Int) (z : RV) (Q : VK), Rp K F H v t A → op t lo hi = some z → RVto K F H [] Q z → r v lo hi H Q)
    (s : SimP K te ma) (sl : SimO K tl ml) (sh : SimO K th mh) : SimE K E true (tSl r te tl th) (mSl op ma ml mh) := by
  intro c H tv td σ ρ hl st Q q
  unfold mSl at q
  obtain ⟨t, e1, q⟩ := then_ofO.mp (then_bind.mp q)
  obtain ⟨lo, e2, q⟩ := then_ofO.mp (then_bind.mp q)
  obtain ⟨hi, e3, q⟩ := then_ofO.mp (then_bind.mp q)
  obtain ⟨z, e4, q⟩ := then_ofO.mp (then_bind.mp q)
  obtain ⟨A, w⟩ := st
  refine s c H tv td σ ρ A t hl w e1 _ fun v A1 rv _ => ?_
  refine sl c H tv td σ ρ A lo hl w e2 _ ?_
  refine sh c H tv td σ ρ A hi hl w e3 _ ?_
  refine hv _ H v t A1 lo hi z Q rv e4 ?_
  exact StW.result (A1 := []) (B := A) (fun a => by simp) w.uniq w.own w.keep w.slots fun v' H' sm' => q v' H' fun _ => sm'
theorem qe_slL {p2 : Pos} {lo hi : Option Expr} {tl th : TO} {ml mh : MO} (h : QP X e te ma) (hl : QO X lo tl ml) (hh : QO X hi th mh) : QE X E true (.Subscript e (.Slice lo hi none p2) pos) (tSl (rSlL X.K) te tl th) (mSl opSlL ma ml mh) := by
  refine ⟨pe_slice sl_list h.pe hl.po hh.po, sim_sl (fun F H v t A lo hi z Q r e q => ?_) h.sim hl.sim hh.sim⟩
  unfold opSlL at e
  split at e
  · cases e
    obtain ⟨a, vs, rfl, h1, f⟩ := r.lst? (ds := _) rfl
    exact ⟨a, vs, rfl, .of h1, fun p hp => q p _ hp (f.cut lo hi)⟩
  · cases e
    cases r with
    | rd h1 f => exact ⟨_, _, rfl, h1.sq, fun p hp => q p _ hp (f.cut lo hi)⟩
  · obtain ⟨ds, e1, e2⟩ := Option.map_eq_some_iff.mp e
    cases e2
    obtain ⟨a, vs, rfl, h1, f⟩ := r.lst? (ds := ds) e1
    exact ⟨a, vs, rfl, .of h1, fun p hp => q p _ hp (f.cut lo hi)⟩
  · cases e
theorem qe_slT {p2 : Pos} {lo hi : Option Expr} {tl th : TO} {ml mh : MO} (h : QP X e te ma) (hl : QO X lo tl ml) (hh : QO X hi th mh) : QE X E true (.Subscript e (.Slice lo hi none p2) pos) (tSl (rSlT X.K) te tl th) (mSl opSlT ma ml mh) := by
  refine ⟨pe_slice sl_tup h.pe hl.po hh.po, sim_sl (fun F H v t A lo hi z Q r e q => ?_) h.sim hl.sim hh.sim⟩
  unfold opSlT at e
  split at e
  · split at e
    · rename_i hw
      cases e
      obtain ⟨a, vs, rfl, h1, f⟩ := r.t
      refine ⟨a, vs, rfl, h1, fun z => ?_, fun p hp => q p _ hp (f.cut lo hi)⟩
      rw [f.len] at z
      exact of_decide_eq_false hw z
    · cases e
  · cases e

/-! ### constants of the module -/
theorem qp_glob {x : Str} {v : V} {u : Value} {d : PyData} (hm : X.mg x = some u) (r : RelV v u) (f : ∀ F H, Fz X.K F H v d) (hg : Gl X x := by rfl) (hd : (x == ("__debug__" : Str)) = false := by decide) : QP X (.Name x pos) (tC v) (pC d) :=
  ⟨pe_glob hg hm r hd, fun c H tv td σ ρ A t _ _ e Q q => by cases e; exact q v [] (.d (f _ _)) fun _ z => by simp at z⟩
end
end L3
/-! L3k -/
/-! L3k: comprehensions as terms; op=; insert; what is read of a list that nobody writes; the end. -/
namespace L3
open PySem PySem.Spec PyProof.Rows L2

/-! ### the script, read -/
def mRd (i : Nat) : MEx := fun ρ => match ρ[i]? with
  | some (some (.rd ds)) => .ok (.rd ds, ρ)
  | _ => .bad
theorem sim_rd {K : PySem.W.Frag} {E : Str → Hp → Prop} (i : Nat) : SimE K E true (tVar i) (mRd i) := by
  intro c H tv td σ ρ hl st Q q
  obtain ⟨A, w⟩ := st
  unfold mRd at q
  split at q
  · rename_i ds e0
    obtain ⟨v, A1, e3, x, hc⟩ := w.see hl e0
    refine ⟨v, e3, q v H (fun _ => Same.refl H) ?_⟩
    cases x with
    | rd h r => exact ⟨[] ++ A, w.uniq, .cons (.rd h r) w.slots, w.own, w.keep⟩
  · exact q.elim
section
variable {X : Cx} {E : Str → Hp → Prop} {pos : Pos}
theorem qe_rd (i : Nat) {x : Str} {pos : Pos} (hN : X.N[i]? = some x := by rfl) (hv : Vis X.env.scope x := by first | exact Or.inl rfl | exact Or.inr (Or.inl rfl) | exact Or.inr (Or.inr rfl)) (hd : (x == ("__debug__" : Str)) = false := by decide)
    (hcd : (x == ("__classdict__" : Str)) = false := by decide) : QE X E true (.Name x pos) (tVar i) (mRd i) := ⟨pe_var hN hv hd hcd, sim_rd i⟩

/-! ### comprehensions -/
structure QTs (X : Cx) (E : Str → Hp → Prop) (es : List Expr) (tt : TT) (m : MT) : Prop where
  pts : PTs X es tt
  sim : SimT X.K E tt m
theorem qts_nil : QTs X E [] tYes mtYes := ⟨pts_nil, fun c H tv td σ ρ hl st Q q => q H st⟩
theorem qts_one {c : Expr} {t : TT} {m : MT} (h : QT X E c t m) : QTs X E [c] t m := ⟨pts_one h.pt, h.sim⟩
theorem qe_lc {elt tg iter : Expr} {ifs : List Expr} {scope : Scope} {own : List (Str × Nat)} {wi : TI} {mi : MI} {g : TG} {mg : MG} {tt : TT} {mt : MT} {te : TE} {me : MEx} {g1 : Bool} {vs : List Nat} (hvs : own.map (·.2) = vs) (hc : X.calm = true) (hN : X.N.Nodup) (hi : QI X E tg iter wi mi) (ok : BlkOk X.N X.env.scope scope own)
    (hg : ∀ (s : Shared) (H : Hp) (C : Addr) (cl : List (Str × Addr)) (fp : List Addr), QG (X.blk s H scope (compEnvC scope cl C X.env) fp) (notOwn vs) tg g mg) (ht : ∀ (s : Shared) (H : Hp) (C : Addr) (cl : List (Str × Addr)) (fp : List Addr), QTs (X.blk s H scope (compEnvC scope cl C X.env) fp) E ifs tt mt)
    (he : ∀ (s : Shared) (H : Hp) (C : Addr) (cl : List (Str × Addr)) (fp : List Addr), QE (X.blk s H scope (compEnvC scope cl C X.env) fp) E g1 elt te me) (hs : ∀ x, foldedSetIterable iter X.env x = pure x := by intro _; rfl) (s0 : Shared) (H0 : Hp) :
    QE X E false (.ListComp elt [⟨tg, iter, ifs, 0⟩] scope pos) (tLc wi g tt te vs) (mLc mi mg mt me vs) := by
  subst hvs
  exact ⟨pe_lc hc hN hi.pi ok (fun s H C cl fp => (hg s H C cl fp).pg) (fun s H C cl fp => (ht s H C cl fp).pts) (fun s H C cl fp => (he s H C cl fp).pe) hs,
    sim_lc hi.sim (hg s0 H0 0 [] []).sim (ht s0 H0 0 [] []).sim (he s0 H0 0 [] []).sim⟩
theorem qs_setLc {io : List Nat} {i : Nat} {y : Str} {py spos : Pos} {elt tg iter : Expr} {ifs : List Expr} {scope : Scope} {own : List (Str × Nat)} {wi : TI} {mi : MI} {g : TG} {mg : MG} {tt : TT} {mt : MT} {te : TE} {me : MEx} {g1 : Bool} {vs : List Nat} (hvs : own.map (·.2) = vs) (hc : X.calm = true) (hN : X.N.Nodup) (hy : X.N[i]? = some y) (hyl : X.env.scope.names.lookup y = some .local)
    (hsw : swapsWith (.ListComp elt [⟨tg, iter, ifs, 0⟩] scope pos) (some (.Name y py)) spos.line X.env = pure true) (hi : QI X E tg iter wi mi) (ok : BlkOk X.N X.env.scope scope own)
    (hg : ∀ (s : Shared) (H : Hp) (C : Addr) (cl : List (Str × Addr)) (fp : List Addr), QG (X.blk s H scope (compEnvC scope cl C X.env) fp) (notOwn vs) tg g mg) (ht : ∀ (s : Shared) (H : Hp) (C : Addr) (cl : List (Str × Addr)) (fp : List Addr), QTs (X.blk s H scope (compEnvC scope cl C X.env) fp) E ifs tt mt)
    (he : ∀ (s : Shared) (H : Hp) (C : Addr) (cl : List (Str × Addr)) (fp : List Addr), QE (X.blk s H scope (compEnvC scope cl C X.env) fp) E g1 elt te me) (s0 : Shared) (H0 : Hp) (hio : inIo io i = false := by rfl) (hs : ∀ x, foldedSetIterable iter X.env x = pure x := by intro _; rfl) :
    QS X E io (.Assign [.Name y py] (.ListComp elt [⟨tg, iter, ifs, 0⟩] scope pos) spos) (tAsg (tLc wi g tt te vs) (gName i)) (mAsg (mLc mi mg mt me vs) (mgName i)) := by
  subst hvs
  exact ⟨ps_setLc hc hN hy hyl hsw hi.pi ok (fun s H C cl fp => (hg s H C cl fp).pg) (fun s H C cl fp => (ht s H C cl fp).pts) (fun s H C cl fp => (he s H C cl fp).pe) hs,
    sim_asg (sim_lc hi.sim (hg s0 H0 0 [] []).sim (ht s0 H0 0 [] []).sim (he s0 H0 0 [] []).sim) (sim_gname hio)⟩

/-! ### name op= e, ints -/
def opIp (f : Int → Int → Int) : T → T → R RV
  | .d (.int i), .d (.int j) => .ok (.v (.d (.int (f i j))))
  | _, _ => .bad
def mAug (i : Nat) (f : Int → Int → Int) (m : MP) : MS := fun ρ => match ρ[i]?, m ρ with
  | some (some (.d (.int x))), some (.d (.int y)) => .ok (.next (ρ.set i (some (.d (.int (f x y))))))
  | _, _ => .bad
theorem qs_aug {io : List Nat} {i : Nat} {x : Str} {e : Expr} {te : TE} {m : MP} {op : Operator} {f : Int → Int → Int} {pos' : Pos} (hN : X.N.Nodup) (he : QP X e te m) (ho : PIp X op (ipI f)) (hi : X.N[i]? = some x := by rfl) (hx : L2.Loc X.env.scope x := by first | exact Or.inl rfl | exact Or.inr rfl) (hio : inIo io i = false := by rfl)
    (hf : X.fn x = true ∨ X.env.scope.names.lookup x = some .local := by first | exact .inl rfl | exact .inr rfl | assumption) : QS X E io (.AugAssign (.Name x pos') op e pos) (tAug i te (ipI f)) (mAug i f m) := by
  refine ⟨ps_aug hN hi hx he.pe ho hf, fun c H tv td σ ρ hl st D q => ?_⟩
  unfold mAug at q
  split at q
  · rename_i a b e1 e2
    obtain ⟨A, w⟩ := st
    obtain ⟨v, A1, e3, x1, _⟩ := w.see hl e1
    have ev := Rp.i x1
    subst ev
    refine ⟨_, e3, ?_⟩
    refine he.sim c H tv td σ ρ A _ hl w e2 _ fun u A2 x2 _ => ?_
    have eu := Rp.i x2
    subst eu
    refine ⟨_, _, rfl, rfl, ?_⟩
    refine q _ H (SameP.set hio).toIo ?_
    have st2 : StR X.K c H (some (V.int (f a b)) :: (tv ++ σ)) (some (T.d (.int (f a b))) :: (td ++ ρ)) := StR.pushC ⟨A, w⟩ fun _ _ => .int _
    exact st2.store hl
  · exact q.elim

/-! ### insert -/
def opInsert : List T → List T → Option (T × List T) := fun ts us => match us with
  | [.d (.int i), u] => if decide (ts.length < sLine ∧ 0 ≤ i ∧ i < 2 ^ 63) = true then some (.d .none, ts.take i.toNat ++ [u] ++ ts.drop i.toNat) else none
  | _ => none
abbrev rInsert : V → List V → Hp → VK → Prop := fun x vs H Q => ∃ (l : Addr) (xs : List V) (i : Int) (y : V), x = .ref l ∧ vs = [.int i, y] ∧ H l = some (.lst xs) ∧ xs.length < sizeLine ∧ 0 ≤ i ∧ i < 2 ^ 63 ∧
    Q .non (upd H l (.lst (xs.take i.toNat ++ [y] ++ xs.drop i.toNat)))
theorem RpAll.split {K : PySem.W.Frag} {F : Addr → Prop} {H : Hp} : ∀ {vs : List V} {ts : List T} {A : List Addr} (n : Nat), RpAll K F H vs ts A → ∃ B C, RpAll K F H (vs.take n) (ts.take n) B ∧ RpAll K F H (vs.drop n) (ts.drop n) C ∧ ∀ a, B.count a + C.count a = A.count a
  | _, _, A, 0, h => ⟨[], A, .nil, h, fun a => by simp⟩
  | _, _, _, _ + 1, .nil => ⟨[], [], .nil, .nil, fun a => by simp⟩
  | _, _, _, n + 1, .cons (A := A1) x r => by
    obtain ⟨B, C, h1, h2, h3⟩ := r.split n
    exact ⟨A1 ++ B, C, .cons x h1, h2, fun a => by have := h3 a; rw [List.count_append, List.count_append]; omega⟩
theorem insert_v {K : PySem.W.Frag} : UpdV K rInsert opInsert := by
  intro F H a vs ys ts us A1 A2 r ha r1 r2 e Q q
  unfold opInsert at e
  split at e
  · split at e
    · rename_i i u hz
      cases e
      have hz' := of_decide_eq_true hz
      cases r2 with
      | cons x0 rn =>
        have e0 := Rp.i x0
        subst e0
        cases x0 with
        | d x0 =>
          cases rn with
          | cons x rn =>
            rename_i v vs0 Ax Bx
            cases rn
            obtain ⟨B, C, h1, h2, h3⟩ := r1.split i.toNat
            obtain ⟨D, h4, h5⟩ := h1.snoc x
            obtain ⟨G, h6, h7⟩ := h4.append h2
            refine ⟨a, vs, i, v, rfl, rfl, ha, by rw [r1.len, ← sLine_eq]; exact hz'.1, hz'.2.1, hz'.2.2, q .non _ [] G (.d .non) h6 fun b => ?_⟩
            have := h3 b
            have := h5 b
            have := h7 b
            simp only [List.count_append, List.count_nil]
            omega
    · cases e
  · cases e
end

/-! ### the law's promise from its mirror -/
theorem only_rd {K : PySem.W.Frag} {H : Hp} {a : Addr} {vs : List V} (h : Only H) (s : SqL K H a vs) : RdL K H a vs := by
  rcases s with (s | ⟨o, s⟩) | s
  · rcases h a with z | ⟨o, xs, z⟩ <;> (rw [s] at z; cases z)
  · exact .inl ⟨o, s⟩
  · exact .inr s
theorem ints_fz {K : PySem.W.Frag} {F : Addr → Prop} {H : Hp} : ∀ ns : List Int, FzAll K F H (ns.map V.int) (ns.map PyData.int)
  | [] => .nil
  | _ :: r => .cons (.int _) (ints_fz r)
abbrev scr (ns : List Int) : T := .rd (ns.map PyData.int)
theorem law_sp {K : PySem.W.Frag} {rz : Bool} {cl : Str → Option Addr} {m : List T → R (T × List T)} {H : Hp} {a : Addr} {ns : List Int} (hO : Only H) (hS : SqL K H a (ns.map V.int)) (h : Then (m [scr ns]) (fun r => r.1 = .d (.bool true)) (fun _ => False)) :
    spT K rz cl 1 [] m [.ref a] H (fun v _ => v = .bl true) (fun _ _ _ => False) := by
  refine ⟨[scr ns], fun _ => True, [], rfl, fun _ => by simp, .cons (A := []) (B := []) (.rd (only_rd hO hS) (ints_fz ns)) .nil, ?_⟩
  refine h.mono (fun r e => ?_) fun _ z => z.elim
  intro v H' A' _ _ _ _ rr
  cases rr with
  | cons x _ =>
    rw [e] at x
    exact Rp.b x
end L3
/-! L3l -/
/-! L3l: names for the printer; a pair stored; a temporary for a tree that is written; reversed; range with a step. -/
namespace L3
open PySem PySem.Spec PyProof.Rows L2

theorem bt_len : bootBuiltins "len" = some (.builtin "len") := by decide +kernel
theorem bt_abs : bootBuiltins "abs" = some (.builtin "abs") := by decide +kernel
theorem bt_max : bootBuiltins "max" = some (.builtin "max") := by decide +kernel
theorem bt_min : bootBuiltins "min" = some (.builtin "min") := by decide +kernel
theorem bt_sorted : bootBuiltins "sorted" = some (.builtin "sorted") := by decide +kernel
theorem bt_int : bootBuiltins "int" = some (.type "int") := by decide +kernel
theorem bt_bool : bootBuiltins "bool" = some (.type "bool") := by decide +kernel
theorem bt_str : bootBuiltins "str" = some (.type "str") := by decide +kernel
theorem bt_list : bootBuiltins "list" = some (.type "list") := by decide +kernel
theorem bt_tuple : bootBuiltins "tuple" = some (.type "tuple") := by decide +kernel

section
variable {K : PySem.W.Frag}
theorem opSub_v : OpV K (rI (fun _ _ => True) fun i j => .int (i - j)) opSub := opI2_v (fun _ _ _ => trivial) fun _ _ _ _ => .int _
theorem opMulI_v : OpV K (rI (fun i j => mulOk i j = true) fun i j => .int (i * j)) opMulI := opI2_v (fun _ _ h => h) fun _ _ _ _ => .int _
theorem opMod_v : OpV K (rI (fun i j => modOk i j = true) fun i j => .int (i.fmod j)) opMod := opI2_v (fun _ _ h => h) fun _ _ _ _ => .int _
theorem opFdiv_v : OpV K (rI (fun i j => divOk i j = true) fun i j => .int (i.fdiv j)) opFdiv := opI2_v (fun _ _ h => h) fun _ _ _ _ => .int _
theorem opPow_v : OpV K (rI (fun i j => powOk i j = true) fun i j => .int (i ^ j.toNat)) opPow := opI2_v (fun _ _ h => h) fun _ _ _ _ => .int _
theorem opLt_v : OpV K (rI (fun _ _ => True) fun i j => .bl (decide (i < j))) opLt := opI2_v (fun _ _ _ => trivial) fun _ _ _ _ => .bl _
theorem opLe_v : OpV K (rI (fun _ _ => True) fun i j => .bl (decide (i ≤ j))) opLe := opI2_v (fun _ _ _ => trivial) fun _ _ _ _ => .bl _
theorem opGt_v : OpV K (rI (fun _ _ => True) fun i j => .bl (decide (j < i))) opGt := opI2_v (fun _ _ _ => trivial) fun _ _ _ _ => .bl _
theorem opGe_v : OpV K (rI (fun _ _ => True) fun i j => .bl (decide (j ≤ i))) opGe := opI2_v (fun _ _ _ => trivial) fun _ _ _ _ => .bl _
end
section
variable {X : Cx}
theorem call_lenA : CallR X (.builtin "len") (rLen X.K) := call_len
theorem call_absA : CallR X (.builtin "abs") rAbs := call_abs
theorem call_int1A : CallR X (.type "int") rInt1 := call_int1
theorem call_max2A (hc : X.calm = true) : CallR X (.builtin "max") rMax2 := call_max2 hc
theorem call_min2A (hc : X.calm = true) : CallR X (.builtin "min") rMin2 := call_min2 hc
theorem call_listOf : CallR X (.type "list") (rListOf X.K) := call_list_of
theorem call_tupleOf : CallR X (.type "tuple") (rTupleOf X.K) := call_tuple_of
theorem call_strI : CallR X (.type "str") rStrI := call_str_int

theorem qp_globT {x : Str} {d : PyData} {pos : Pos} (h : ∃ (u : Value) (v : V), X.mg x = some u ∧ RelV v u ∧ ∀ F H, Fz X.K F H v d) (hg : Gl X x := by rfl) (hd : (x == ("__debug__" : Str)) = false := by decide) : ∃ v, QP X (.Name x pos) (tC v) (pC d) :=
  let ⟨_, v, hm, r, f⟩ := h; ⟨v, qp_glob hm r f hg hd⟩

/-! ### a, b = x, y -/
def mPar (i j : Nat) (m : MA) : MS := fun ρ => (m ρ).bind fun r => match r.1 with
  | [t, u] => .ok (.next ((r.2.set i (some t)).set j (some u)))
  | _ => .bad
variable {E : Str → Hp → Prop} {pos : Pos}
theorem qs_par {io : List Nat} {i j : Nat} {x y : Str} {a b : Expr} {ta : TA} {m : MA} {g : Bool} {px py pt : Pos} {kt k2 pt2} (hc : X.calm = true) (hN : X.N.Nodup) (ha : QA X E g [a, b] ta m) (hi : X.N[i]? = some x := by rfl) (hj : X.N[j]? = some y := by rfl) (hij : i ≠ j := by decide)
    (hx : X.env.scope.names.lookup x = some .local := by rfl) (hy : X.env.scope.names.lookup y = some .local := by rfl)
    (hw : swappedStores [.Tuple [.Name x px, .Name y py] kt pt] (.Tuple [a, b] k2 pt2) X.env = pure (some [x, y]) := by rfl)
    (hio : inIo io i = false := by rfl) (hjo : inIo io j = false := by rfl)
    (hs : swapsWithSole [.Tuple [.Name x px, .Name y py] kt pt] (.Tuple [a, b] k2 pt2) pos.line X.env = pure false := by rfl) :
    QS X E io (.Assign [.Tuple [.Name x px, .Name y py] kt pt] (.Tuple [a, b] k2 pt2) pos) (tPar i j ta) (mPar i j m) := by
  refine ⟨ps_par hc hN hi hj hij hx hy ha.pa hw hs, fun c H tv td σ ρ hl st D q => ?_⟩
  unfold mPar at q
  rw [then_bind] at q
  refine ha.sim c H tv td σ ρ hl st _ (q.imp ?_)
  rintro ⟨ts, ρ1⟩ q1 vs H1 _ hvs st1
  dsimp only at q1 hvs st1
  split at q1
  · rename_i t u
    match vs, hvs, st1 with
    | [v, w], _, st1 =>
      have st2 : StR X.K c H1 ((some w :: tv) ++ σ.set i (some v)) ((some u :: td) ++ ρ1.set i (some t)) := StR.store (tv := some w :: tv) (td := some u :: td) (by simp [hl]) st1
      have st3 := StR.store (i := j) hl st2
      exact ⟨v, w, rfl, q1 _ H1 ((SameP.set hio).trans (SameP.set hjo)).toIo st3⟩
  · exact q1.elim

/-! ### trees that are handed as temporaries: what is written into them is not asked for -/
def dropIo (m : List T → R (T × List T)) : List T → R (T × List T) := fun ts => (m ts).bind fun r => .ok (r.1, [])
theorem spT_drop {K : PySem.W.Frag} {rz : Bool} {cl : Str → Option Addr} {n : Nat} {io : List Nat} {m : List T → R (T × List T)} {vs : List V} {H : Hp} {Q : VK} {Ek : XK} (h : spT K rz cl n [] (dropIo m) vs H Q Ek) : spT K rz cl n io m vs H Q Ek := by
  obtain ⟨ts, F, A, h1, h2, h3, h4⟩ := h
  refine ⟨ts, F, A, h1, h2, h3, ?_⟩
  unfold dropIo at h4
  rw [then_bind] at h4
  refine h4.imp fun r q v H' A' u ow kf same rr => ?_
  cases rr with
  | cons x rest =>
    rename_i A1 A2
    have hle : ∀ a, A1.count a ≤ (A1 ++ A2).count a := fun a => by rw [List.count_append]; omega
    refine q v H' A1 (fun a => Nat.le_trans (hle a) (u a)) (fun a ha => ow a (List.mem_append_left _ ha)) kf (fun _ e a o z => kf.keep a o z (by rw [e]; simp)) ?_
    have m0 : Mono (fun a => (F a ∨ H a = none ∨ a ∈ A) ∧ a ∉ A1 ++ A2) (fun a => (F a ∨ H a = none ∨ a ∈ A) ∧ a ∉ A1) H' H' := .sub fun a _ ⟨p, n⟩ => ⟨p, fun z => n (List.mem_append_left _ z)⟩
    have := RpAll.cons (x.mono m0 fun _ _ => rfl) (RpAll.nil (K := K) (F := fun a => (F a ∨ H a = none ∨ a ∈ A) ∧ a ∉ A1) (H := H'))
    rwa [List.append_nil] at this
theorem fn_drop {P : Program} {w : World} {K : PySem.W.Frag} {mg : Str → Option Value} {base : Heap} {CX : CXT} {k : Nat} {f : Addr} {fd : FuncData} {ps : List Str} {rz : Bool} {cl : Str → Option Addr} {n : Nat} {io : List Nat} {m : List T → R (T × List T)} (F : FnOk P w K mg base CX k f fd ps (spT K rz cl n io m)) :
    FnOk P w K mg base CX k f fd ps (spT K rz cl n [] (dropIo m)) := F.imp fun _ _ _ _ => spT_drop
end
end L3
namespace L3
open PySem PySem.Spec PyProof.Rows L2
/-! ### readings by the mirror alone: they do not hang on the frame -/
def teM (K : PySem.W.Frag) (E : Str → Hp → Prop) (g : Bool) (m : MEx) : TE := fun σ H Q => ∃ (c : C0) (tv : List (Option V)) (td ρ : Env), tv.length = td.length ∧ StR K c H (tv ++ σ) (td ++ ρ) ∧
  Then (m ρ) (fun r => ∀ v H', (g = true → Same H H') → StR K c H' (some v :: (tv ++ σ)) (some r.1 :: (td ++ r.2)) → Q v H') (fun x => ∀ H', KeepC c H' → E x H')
def ttM (K : PySem.W.Frag) (E : Str → Hp → Prop) (m : MT) : TT := fun σ H Q => ∃ (c : C0) (tv : List (Option V)) (td ρ : Env), tv.length = td.length ∧ StR K c H (tv ++ σ) (td ++ ρ) ∧
  Then (m ρ) (fun r => ∀ H', StR K c H' (tv ++ σ) (td ++ r.2) → Q r.1 H') (fun x => ∀ H', KeepC c H' → E x H')
def tgM (K : PySem.W.Frag) (pr : Nat → Bool) (m : MG) : TG := fun v σ H Q => ∃ (c : C0) (tv : List (Option V)) (td ρ ρ' : Env) (t : T), tv.length = td.length ∧ StR K c H (some v :: (tv ++ σ)) (some t :: (td ++ ρ)) ∧ m t ρ = some ρ' ∧
  ∀ σ' H', SameP pr σ σ' → StR K c H' (tv ++ σ') (td ++ ρ') → Q σ' H'
section
variable {X : Cx} {E : Str → Hp → Prop} {pos : Pos}
theorem QE.can {g : Bool} {e : Expr} {te : TE} {m : MEx} (h : QE X E g e te m) : QE X E g e (teM X.K E g m) m :=
  ⟨⟨fun pins s σ H Q I w => h.pe.run pins s σ H Q I (let ⟨c, tv, td, ρ, hl, st, q⟩ := w; h.sim c H tv td σ ρ hl st Q q)⟩, fun c H tv td σ ρ hl st Q q => ⟨c, tv, td, ρ, hl, st, q⟩⟩
theorem QTs.can {es : List Expr} {tt : TT} {m : MT} (h : QTs X E es tt m) : QTs X E es (ttM X.K E m) m :=
  ⟨⟨fun pins s σ H Q I w => h.pts.run pins s σ H Q I (let ⟨c, tv, td, ρ, hl, st, q⟩ := w; h.sim c H tv td σ ρ hl st Q q)⟩, fun c H tv td σ ρ hl st Q q => ⟨c, tv, td, ρ, hl, st, q⟩⟩
theorem QG.can {pr : Nat → Bool} {e : Expr} {tg : TG} {m : MG} (h : QG X pr e tg m) : QG X pr e (tgM X.K pr m) m :=
  ⟨⟨fun pins s σ H v u Q I r w => h.pg.run pins s σ H v u Q I r (let ⟨c, tv, td, ρ, ρ', t, hl, st, e, q⟩ := w; h.sim c H tv td σ ρ ρ' v t hl st e Q q)⟩, fun c H tv td σ ρ ρ' v t hl st e Q q => ⟨c, tv, td, ρ, ρ', t, hl, st, e, q⟩⟩
theorem qe_lcC {elt tg iter : Expr} {ifs : List Expr} {scope : Scope} {own : List (Str × Nat)} {wi : TI} {mi : MI} {mg : MG} {mt : MT} {me : MEx} {g1 : Bool} {vs : List Nat} (hvs : own.map (·.2) = vs) (hc : X.calm = true) (hN : X.N.Nodup) (hi : QI X E tg iter wi mi) (ok : BlkOk X.N X.env.scope scope own)
    (hg : ∀ (s : Shared) (H : Hp) (C : Addr) (cl : List (Str × Addr)) (fp : List Addr), ∃ g, QG (X.blk s H scope (compEnvC scope cl C X.env) fp) (notOwn vs) tg g mg) (ht : ∀ (s : Shared) (H : Hp) (C : Addr) (cl : List (Str × Addr)) (fp : List Addr), ∃ tt, QTs (X.blk s H scope (compEnvC scope cl C X.env) fp) E ifs tt mt)
    (he : ∀ (s : Shared) (H : Hp) (C : Addr) (cl : List (Str × Addr)) (fp : List Addr), ∃ te, QE (X.blk s H scope (compEnvC scope cl C X.env) fp) E g1 elt te me) (s0 : Shared) (H0 : Hp) (hs : ∀ x, foldedSetIterable iter X.env x = pure x := by intro _; rfl) :
    QE X E false (.ListComp elt [⟨tg, iter, ifs, 0⟩] scope pos) (tLc wi (tgM X.K (notOwn vs) mg) (ttM X.K E mt) (teM X.K E g1 me) vs) (mLc mi mg mt me vs) :=
  qe_lc hvs hc hN hi ok (fun s H C cl fp => let ⟨_, h⟩ := hg s H C cl fp; h.can) (fun s H C cl fp => let ⟨_, h⟩ := ht s H C cl fp; h.can) (fun s H C cl fp => let ⟨_, h⟩ := he s H C cl fp; h.can) hs s0 H0
theorem qs_setLcC {io : List Nat} {i : Nat} {y : Str} {py spos : Pos} {elt tg iter : Expr} {ifs : List Expr} {scope : Scope} {own : List (Str × Nat)} {wi : TI} {mi : MI} {mg : MG} {mt : MT} {me : MEx} {g1 : Bool} {vs : List Nat} (hvs : own.map (·.2) = vs) (hc : X.calm = true) (hN : X.N.Nodup) (hy : X.N[i]? = some y) (hyl : X.env.scope.names.lookup y = some .local)
    (hsw : swapsWith (.ListComp elt [⟨tg, iter, ifs, 0⟩] scope pos) (some (.Name y py)) spos.line X.env = pure true) (hi : QI X E tg iter wi mi) (ok : BlkOk X.N X.env.scope scope own)
    (hg : ∀ (s : Shared) (H : Hp) (C : Addr) (cl : List (Str × Addr)) (fp : List Addr), ∃ g, QG (X.blk s H scope (compEnvC scope cl C X.env) fp) (notOwn vs) tg g mg) (ht : ∀ (s : Shared) (H : Hp) (C : Addr) (cl : List (Str × Addr)) (fp : List Addr), ∃ tt, QTs (X.blk s H scope (compEnvC scope cl C X.env) fp) E ifs tt mt)
    (he : ∀ (s : Shared) (H : Hp) (C : Addr) (cl : List (Str × Addr)) (fp : List Addr), ∃ te, QE (X.blk s H scope (compEnvC scope cl C X.env) fp) E g1 elt te me) (s0 : Shared) (H0 : Hp) (hio : inIo io i = false := by rfl) (hs : ∀ x, foldedSetIterable iter X.env x = pure x := by intro _; rfl) :
    QS X E io (.Assign [.Name y py] (.ListComp elt [⟨tg, iter, ifs, 0⟩] scope pos) spos) (tAsg (tLc wi (tgM X.K (notOwn vs) mg) (ttM X.K E mt) (teM X.K E g1 me) vs) (gName i)) (mAsg (mLc mi mg mt me vs) (mgName i)) :=
  qs_setLc hvs hc hN hy hyl hsw hi ok (fun s H C cl fp => let ⟨_, h⟩ := hg s H C cl fp; h.can) (fun s H C cl fp => let ⟨_, h⟩ := ht s H C cl fp; h.can) (fun s H C cl fp => let ⟨_, h⟩ := he s H C cl fp; h.can) s0 H0 hio hs
end
end L3
/-! L3p -/
/-! L3p: order of tuples of ints; in, not in; a list turned about; slices of what is made. -/
namespace L3
open PySem PySem.Spec PyProof.Rows L2

/-! ### t < u, ints -/
def allInts : List PyData → Option (List Int)
  | [] => some []
  | .int i :: r => (allInts r).map fun ns => i :: ns
  | _ => none
def opLtA : T → T → R RV
  | .d (.int i), .d (.int j) => .ok (.v (.d (.bool (decide (i < j)))))
  | .d (.tuple xs), .d (.tuple ys) => (match allInts xs, allInts ys with
    | some ns, some ms => .ok (.v (.d (.bool (HT.lexLt ns ms))))
    | _, _ => .bad)
  | _, _ => .bad
def rLtA (K : PySem.W.Frag) : R2 := fun x y H Q => rI (fun _ _ => True) (fun i j => .bl (decide (i < j))) x y H Q ∨ rLtT K x y H Q
theorem op_ltAA {X : Cx} (hu : X.A.units + 64 < cLine) : OpR X (compareOp .Lt) (rLtA X.K) := op_ltA.or (op_ltT (by omega))
theorem opLtA_nox : NoX opLtA := by
  intro x y c
  unfold opLtA
  split
  · intro z; cases z
  · split <;> (intro z; cases z)
  · intro z; cases z
theorem allInts_fz {K : PySem.W.Frag} {F : Addr → Prop} {H : Hp} : ∀ {xs : List PyData} {vs : List V} {ns : List Int}, FzAll K F H vs xs → allInts xs = some ns → vs = ns.map V.int
  | [], _, ns, .nil, e => by
    have e' : [] = ns := Option.some.inj e
    subst e'
    rfl
  | .int i :: r, _, ns, .cons h hr, e => by
    have e' : (allInts r).map (fun ns => i :: ns) = some ns := e
    obtain ⟨ms, e1, e2⟩ := Option.map_eq_some_iff.mp e'
    subst e2
    cases h
    rw [allInts_fz hr e1]
    rfl
  | .none :: _, _, _, _, e => by cases e
  | .bool _ :: _, _, _, _, e => by cases e
  | .str _ :: _, _, _, _, e => by cases e
  | .list _ :: _, _, _, _, e => by cases e
  | .tuple _ :: _, _, _, _, e => by cases e
  | .dict _ :: _, _, _, _, e => by cases e
theorem opLtA_v {K : PySem.W.Frag} : OpV K (rLtA K) opLtA := by
  intro F H v u x y A B hx hy Q q
  unfold opLtA at q
  split at q
  · exact .inl ⟨_, _, hx.i, hy.i, trivial, rv_d q (.bl _)⟩
  · split at q
    · rename_i ns ms e1 e2
      obtain ⟨a, vs, rfl, h1, f1⟩ := hx.t
      obtain ⟨b, ws, rfl, h2, f2⟩ := hy.t
      have g1 := allInts_fz f1 e1
      have g2 := allInts_fz f2 e2
      subst g1; subst g2
      exact .inr ⟨a, b, ns, ms, rfl, rfl, h1, h2, rv_d q (.bl _)⟩
    · exact q.elim
  · exact q.elim

/-! ### in, not in: a list of data -/
def inD (x y : T) : R Bool := match x.toD, y.toD with
  | some d, some (.list ds) => guard (SeqAt.shaped d && SeqAt.shaped (.list ds)) (.ok (ds.any fun z => PyData.eqv z d))
  | _, _ => .bad
def opInD (x y : T) : R RV := (inD x y).bind fun k => .ok (.v (.d (.bool k)))
def opNotInD (x y : T) : R RV := (inD x y).bind fun k => .ok (.v (.d (.bool (!k))))
theorem inD_noexc {x y : T} (c : Str) : inD x y ≠ .exc c := by
  unfold inD
  split
  · exact guard_noexc (by intro _ z; cases z) c
  · (intro z; cases z)
theorem opInD_nox : NoX opInD := fun x y c => bind_noexc (fun _ => inD_noexc _) (by intro _ _ z; cases z) c
theorem opNotInD_nox : NoX opNotInD := fun x y c => bind_noexc (fun _ => inD_noexc _) (by intro _ _ z; cases z) c
theorem inD_red {K : PySem.W.Frag} {F : Addr → Prop} {H : Hp} {v u : V} {x y : T} {A B : List Addr} (hx : Rp K F H v x A) (hy : Rp K F H u y B) {P : Bool → Prop} (q : Then (inD x y) P (fun _ => False)) :
    ∃ d ds, Dp K H v d ∧ Dp K H u (.list ds) ∧ SeqAt.shaped d = true ∧ SeqAt.shaped (.list ds) = true ∧ P (ds.any fun z => PyData.eqv z d) := by
  unfold inD at q
  split at q
  · rename_i d ds e1 e2
    obtain ⟨g, q⟩ := then_guard.mp q
    rw [Bool.and_eq_true] at g
    exact ⟨d, ds, hx.dp e1, hy.dp e2, g.1, g.2, q⟩
  · exact q.elim
theorem opInD_v {K : PySem.W.Frag} : OpV K (rInD K) opInD := by
  intro F H v u x y A B hx hy Q q
  exact inD_red hx hy ((then_bind.mp q).imp fun k h => rv_d h (.bl k))
theorem opNotInD_v {K : PySem.W.Frag} : OpV K (rNotInD K) opNotInD := by
  intro F H v u x y A B hx hy Q q
  exact inD_red hx hy ((then_bind.mp q).imp fun k h => rv_d h (.bl (!k)))
theorem op_inA {X : Cx} (hu : X.A.units + 65 < cLine) : OpR X (compareOp .In) (rInD X.K) := op_inD hu
theorem op_notInA {X : Cx} (hu : X.A.units + 65 < cLine) : OpR X (compareOp .NotIn) (rNotInD X.K) := op_notInD hu

/-! ### xs[::-1] -/
def opRevL : T → R RV
  | .d (.list ds) => .ok (.nl ds.reverse)
  | _ => .bad
theorem FzAll.snoc {K : PySem.W.Frag} {F : Addr → Prop} {H : Hp} {vs : List V} {xs : List PyData} {v : V} {x : PyData} (h : FzAll K F H vs xs) (y : Fz K F H v x) : FzAll K F H (vs ++ [v]) (xs ++ [x]) := h.append (.cons y .nil)
theorem FzAll.rev {K : PySem.W.Frag} {F : Addr → Prop} {H : Hp} : ∀ {vs : List V} {xs : List PyData}, FzAll K F H vs xs → FzAll K F H vs.reverse xs.reverse
  | _, _, .nil => .nil
  | _, _, .cons a r => by
    rw [List.reverse_cons, List.reverse_cons]
    exact r.rev.snoc a
section
variable {X : Cx} {E : Str → Hp → Prop} {e : Expr} {te : TE} {m : MEx} {g : Bool} {pos : Pos}
theorem qe_rev {k : Nat} {p1 p2 p3 : Pos} (h : QE X E g e te m) : QE X E g (.Subscript e (.Slice none none (some (.UnaryOp .USub (.Constant (.int 1) k p1) p2)) p3) pos) (tRevL X.K te) (mUn opRevL m) := by
  refine ⟨pe_revL h.pe, fun c H tv td σ ρ hl st Q q => ?_⟩
  have ho : UnV X.K (fun x H1 Q => ∃ a xs, x = .ref a ∧ SqL X.K H1 a xs ∧ ∀ p, H1 p = none → Q (.ref p) (upd H1 p (.lst xs.reverse))) opRevL := by
    intro F H v x A hx Q q
    unfold opRevL at q
    split at q
    · obtain ⟨a, vs, rfl, h1, f⟩ := hx.lst? (ds := _) rfl
      exact ⟨a, vs, rfl, .of h1, fun p hp => q p _ hp f.rev⟩
    · exact q.elim
  have hx : NoX1 opRevL := by
    intro x c
    unfold opRevL
    split <;> (intro z; cases z)
  exact sim_un ho hx h.sim c H tv td σ ρ hl st Q q

/-! ### slices of what is made -/
def opSlA (t : T) (lo hi : Option Int) : Option RV := match t with
  | .d (.list ds) => some (.nl (cutG ds lo hi))
  | .ol ts => (T.allD ts).map fun ds => .nl (cutG ds lo hi)
  | _ => none
def mSlE (m : MEx) (ml mh : MO) : MEx := fun ρ => (m ρ).bind fun r => (ofO (ml r.2)).bind fun lo => (ofO (mh r.2)).bind fun hi => (ofO (opSlA r.1 lo hi)).bind fun z => .ok (z.toT, r.2)
theorem qe_slE {p2 : Pos} {lo hi : Option Expr} {tl th : TO} {ml mh : MO} (h : QE X E g e te m) (hlo : QO X lo tl ml) (hhi : QO X hi th mh) : QE X E g (.Subscript e (.Slice lo hi none p2) pos) (tSl (rSlL X.K) te tl th) (mSlE m ml mh) := by
  refine ⟨pe_slice sl_list h.pe hlo.po hhi.po, fun c H tv td σ ρ hl st Q q => ?_⟩
  unfold mSlE at q
  rw [then_bind] at q
  refine h.sim c H tv td σ ρ hl st _ (q.imp ?_)
  rintro ⟨t, ρ1⟩ q1 v H1 sm st1
  obtain ⟨lo', e2, q1⟩ := then_ofO.mp (then_bind.mp q1)
  obtain ⟨hi', e3, q1⟩ := then_ofO.mp (then_bind.mp q1)
  obtain ⟨z, e4, q1⟩ := then_ofO.mp (then_bind.mp q1)
  obtain ⟨A, w⟩ := st1
  have w' : StW X.K c H1 ((some v :: tv) ++ σ) ((some t :: td) ++ ρ1) A := w
  refine hlo.sim c H1 (some v :: tv) (some t :: td) σ ρ1 A lo' (by simp [hl]) w' e2 _ ?_
  refine hhi.sim c H1 (some v :: tv) (some t :: td) σ ρ1 A hi' (by simp [hl]) w' e3 _ ?_
  obtain ⟨A1, B, eA, x0, s⟩ := w.top
  have x : Rp X.K (Fok c A) H1 v t A1 := x0
  clear x0
  have fin : RVto X.K (Fok c A) H1 [] Q z := StW.result (A1 := []) (B := B) (fun a => by rw [eA, List.count_append]; simp) w.uniq w.own w.keep s fun v' H' sm' => q1 v' H' fun e => (sm e).trans sm'
  have e5 : opSlA t lo' hi' = some z := e4
  clear e4
  unfold opSlA at e5
  split at e5
  · cases e5
    obtain ⟨a, vs, rfl, h1, f⟩ := x.lst? (ds := _) rfl
    exact ⟨a, vs, rfl, .of h1, fun p hp => fin p _ hp (f.cut lo' hi')⟩
  · obtain ⟨ds, e1, e2⟩ := Option.map_eq_some_iff.mp e5
    cases e2
    obtain ⟨a, vs, rfl, h1, f⟩ := x.lst? (ds := ds) e1
    exact ⟨a, vs, rfl, .of h1, fun p hp => fin p _ hp (f.cut lo' hi')⟩
  · cases e5
end
end L3
namespace L3
open PySem L2
theorem u65 {k : Nat} {A : Around} (r : Room k A) : A.units + 65 < cLine := by have := r.un; omega
end L3
namespace L3
open PySem PySem.Spec PyProof.Rows L2
/-! ### is, is not of truths -/
def opIsB : T → T → R RV
  | .d (.bool a), .d (.bool b) => .ok (.v (.d (.bool (decide (a = b)))))
  | _, _ => .bad
def opNotB : T → T → R RV
  | .d (.bool a), .d (.bool b) => .ok (.v (.d (.bool (!decide (a = b)))))
  | _, _ => .bad
theorem opIsB_nox : NoX opIsB := by
  intro x y c
  unfold opIsB
  split <;> (intro z; cases z)
theorem opNotB_nox : NoX opNotB := by
  intro x y c
  unfold opNotB
  split <;> (intro z; cases z)
theorem opIsB_v {K : PySem.W.Frag} : OpV K rIsB opIsB := by
  intro F H v u x y A B hx hy Q q
  unfold opIsB at q
  split at q
  · exact ⟨_, _, hx.b, hy.b, rv_d q (.bl _)⟩
  · exact q.elim
theorem opNotB_v {K : PySem.W.Frag} : OpV K rNotB opNotB := by
  intro F H v u x y A B hx hy Q q
  unfold opNotB at q
  split at q
  · exact ⟨_, _, hx.b, hy.b, rv_d q (.bl _)⟩
  · exact q.elim
end L3
/-! L3q -/
/-! L3q: errors raised, kept, and looked at. -/
namespace L3
open PySem PySem.Spec PyProof.Rows L2

theorem spT_cl {K : PySem.W.Frag} {cl cl' : Str → Option Addr} {n : Nat} {io : List Nat} {m : List T → R (T × List T)} : spT K false cl n io m = spT K false cl' n io m := by
  funext vs H Q E
  unfold spT
  simp only [Bool.false_eq_true, false_and]
/-! ### raise -/
def mRaise (x : Str) : MS := fun _ => .exc x
theorem EX.mk {K : PySem.W.Frag} {E : XK} {x : Str} {C : Addr} {H : Hp} (h : EX (clK K) E x H) (e : clK K x = some C) : E (.ref C) none H := h C e
/-- raise X("m"), in a def that may raise -/
theorem qs_raise {X : Cx} {E : XK} {W : WX} {io : List Nat} {C : Addr} {bmB : List Value} {B newId initId : String} {x m : Str} {j : Nat} {p p2 p3 pos : Pos} (F : ExcBaseFacts B newId initId bmB) (q : PySem.W.excIn X.K C bmB newId = true) (gC : X.mg x = some (.ref C)) (kC : PySem.W.keepIn X.K (.ref C) = true) (r : Raises X (.ref C)) (hc : clK X.K x = some C)
    (tk : Takes X W) (hW : ∀ cls d σ H, E cls d H → W cls d σ H) (hcalm : X.calm = true := by rfl) (hg : Gl X x := by rfl) (hdb : (x == ("__debug__" : Str)) = false := by decide) :
    QS X (EX (clK X.K) E) io (.Raise (some (.Call (.Name x p) [.Constant (.str m) j p2] [] p3)) none pos) (fun _ σ H => W (.ref C) none σ H) (mRaise x) := by
  refine ⟨ps_raise hcalm tk (pmk_own F q gC kC r hg hdb), fun c H tv td σ ρ hl st D q => ?_⟩
  exact hW _ _ σ H ((q H st.keep) C hc)

/-! ### what a call lets out -/
theorem passF {X : Cx} : Passes (L2.CX X.prog X.w) X E0 := fun pins σ H s e s' I c => by
  obtain ⟨_, _, _, _, _, _, _, _, _, _, _, _, z⟩ := c
  exact z.elim
def EkW (X : Cx) (W : WX) : XK := fun cls d H => ∀ σ : L2.St, σ.length = X.N.length → W cls d σ H
theorem passW {X : Cx} {pn : List (Addr × Obj)} {xe : Value → Shared → Prop} {W : WX} (tk : Takes (X.tr pn xe) W) : Passes (L2.CX X.prog X.w) (X.tr pn xe) (EkW X W) := fun pins σ H s e s' I c => tk e s' (XE.of_call I (fun _ _ _ h => h σ I.len) c)

/-! ### try: .. except X as n: y = n -/
def mTryK (xs : List Str) (j : Nat) (mb : MS) : MS := fun ρ => match mb ρ with
  | .exc x => if xs.contains x then .ok (.next ((List.replicate ρ.length none).set j (some (.ex x)))) else .bad
  | r => r
theorem sl_none {K : PySem.W.Frag} {F : Addr → Prop} {H : Hp} : ∀ (sl : List (Option V)), Sl K F H sl (List.replicate sl.length none) []
  | [] => .nil
  | _ :: r => .skip (sl_none r)
theorem sl_one {K : PySem.W.Frag} {F : Addr → Prop} {H : Hp} {v : V} {t : T} (h : Rp K F H v t []) : ∀ (sl : List (Option V)) (j : Nat), sl[j]? = some (some v) → Sl K F H sl ((List.replicate sl.length none).set j (some t)) []
  | [], _, e => by simp at e
  | o :: r, 0, e => by
    have e' : o = some v := by simpa using e
    subst e'
    exact .cons (A := []) (B := []) h (sl_none r)
  | o :: r, j + 1, e => .skip (sl_one h r j (by simpa using e))
/-- what a mirror says, as a wish -/
def tMir (K : PySem.W.Frag) (E : Str → Hp → Prop) (m : MS) : TS := fun D σ H => ∃ c ρ, StR K c H σ ρ ∧ Then (m ρ) (OutTo K c [] [] [] σ D) (fun x => ∀ H', KeepC c H' → E x H')
theorem QSs.mir {X : Cx} {E : Str → Hp → Prop} {s : List Stmt} {ts : TS} {m : MS} (h : QSs X E [] s ts m) : PSs X s (tMir X.K E m) := ⟨fun pins s σ H D I ⟨c, ρ, st, q⟩ => h.ps.run pins s σ H D I (h.sim.z c H σ ρ st D q)⟩
section
variable {X : Cx} {x n y : Str} {C : Addr} {i j : Nat} {body : List Stmt} {np pos pos' p1 p2 p3 : Pos} {mb : MS} {xs : List Str} {E : Str → Hp → Prop}
theorem qs0_tryK (hs : X.stack = X.env :: X.outer) (hf : X.env.frame = some X.env.locals) (hex : X.ex = []) (hN : X.N.Nodup) (hi : X.N[i]? = some n) (hj : X.N[j]? = some y) (hij : i ≠ j) (hln : X.env.kindOf n = some .local) (hly : X.env.kindOf y = some .local)
    (hg : Gl X x) (hm : X.mg x = some (.ref C)) (hdb : (x == ("__debug__" : Str)) = false) (hnd : (n == ("__debug__" : Str)) = false) (hnc : (n == ("__classdict__" : Str)) = false)
    (hcl : ∀ z ∈ xs, ∀ D, clK X.K z = some D → PySem.W.exmOne X.K (.ref D) (.ref C) = some true ∧ ExcC X.K D)
    (hb : ∀ (W : WX) (pn : List (Addr × Obj)) (xe : Value → Shared → Prop), Takes (X.tr pn xe) W → ∃ ts, QSs (X.tr pn xe) (EX (clK X.K) (EkW X W)) [] body ts mb)
    (hss : swapsWith (.Name n p2) (some (.Name y p1)) p3.line X.env = pure false := by rfl) :
    QS0 X E [] (.Try body [.ExceptHandler (some (.Name x np)) (some n) [.Assign [.Name y p1] (.Name n p2) p3] pos'] [] [] pos)
      (fun D σ H => σ.length = X.N.length → tMir X.K (EX (clK X.K) (EkW X (wKeep X.K (.ref C) i (tAsg (tVar i) (gName j)) D))) mb D σ H) (mTryK xs j mb) := by
  have hsu : ∀ (a : Addr) (oe : Obj) (pn : List (Addr × Obj)), PSs (X.suite a ((a, oe) :: pn)) [.Assign [.Name y p1] (.Name n p2) p3] (tAsg (tVar i) (gName j)) := fun a oe pn =>
    pss_one (ps_set (X := X.suite a ((a, oe) :: pn)) hN hj (.inl hly) (pe_var hi (.inl hln) hnd hnc) hss (.inr hly))
  refine ⟨⟨fun pins s σ H D I h => (ps_try_keep (tb := fun W => tMir X.K (EX (clK X.K) (EkW X W)) mb) hs hf hex hN hi hln ⟨hg, hdb, .inl hm⟩ (fun W pn xe tk _ => let ⟨_, h⟩ := hb W pn xe tk; h.mir) hsu).run pins s σ H D I (h I.len)⟩, fun c H σ ρ st D q hl0 => ?_⟩
  refine ⟨c, ρ, st, ?_⟩
  unfold mTryK at q
  cases e : mb ρ with
  | ok o => rw [e] at q; exact q
  | bad => rw [e] at q; exact q.elim
  | exc z =>
    rw [e] at q
    dsimp only at q
    by_cases hz : xs.contains z = true
    · rw [if_pos hz] at q
      rw [then_exc]
      intro H' kc D' hD σ' hl
      obtain ⟨h1, h2⟩ := hcl z (by simpa using hz) D' hD
      refine ⟨h1, fun a ha => ?_⟩
      have hlen : ρ.length = X.N.length := by
        obtain ⟨A, w⟩ := st
        rw [← w.slots.len]
        exact hl0
      have hil : i < σ'.length := by
        rw [hl]
        exact (List.getElem?_eq_some_iff.mp hi).1
      have hjl : j < σ'.length := by
        rw [hl]
        exact (List.getElem?_eq_some_iff.mp hj).1
      refine ⟨.ref a, List.getElem?_set_self hil, fun hn => ⟨D', rfl, rfl, ?_⟩⟩
      have q' : OutTo X.K c [] [] [] σ D (.next ((List.replicate ρ.length none).set j (some (.ex z)))) := q
      refine q' _ _ ⟨by simp [hl, hl0], fun _ h => by simp at h⟩ ⟨[], fun _ => by simp, ?_, fun a h => by simp at h, kc.grow (same_upd hn)⟩
      have hx : Rp X.K (Fok c []) (upd H' a (ExK D' a)) (.ref a) (.ex z) [] := .ex upd_same hD h2
      have e1 : (((σ'.set i (some (V.ref a))).set j (some (V.ref a))).set i none).length = ρ.length := by simp [hl, hlen]
      have := sl_one (K := X.K) (F := Fok c []) (H := upd H' a (ExK D' a)) hx (((σ'.set i (some (V.ref a))).set j (some (V.ref a))).set i none) j (by
        rw [List.getElem?_set_ne hij, List.getElem?_set_self (by simpa using hjl)])
      rw [e1] at this
      exact this
    · rw [if_neg hz] at q
      exact q.elim
end
end L3
namespace L3
open PySem PySem.Spec PyProof.Rows L2
/-! ### isinstance of a kept error -/
theorem bt_ValueError : bootBuiltins "ValueError" = some (.type "ValueError") := by decide +kernel
theorem bt_Exception : bootBuiltins "Exception" = some (.type "Exception") := by decide +kernel
theorem hcl_one {K : PySem.W.Frag} {z : Str} {C S : Addr} (h : clK K z = some C) (e : PySem.W.exmOne K (.ref C) (.ref S) = some true) (x : ExcC K C) : ∀ z' ∈ [z], ∀ D, clK K z' = some D → PySem.W.exmOne K (.ref D) (.ref S) = some true ∧ ExcC K D := fun z' hz D hD => by
  obtain rfl := List.mem_singleton.mp hz
  rw [h] at hD
  cases hD
  exact ⟨e, x⟩
abbrev XTab := List (Str × Bool)
def exIs (tab : XTab) (t : T) : Option PyData := match t with
  | .ex x => (tab.lookup x).map PyData.bool
  | _ => none
def pIsX (tab : XTab) (m : MP) : MP := fun ρ => (m ρ).bind fun t => (exIs tab t).map T.d
def mIsXT (tab : XTab) (m : MP) : MEx := fun ρ => (ofO ((m ρ).bind (exIs tab))).bind fun d => .ok (.d d, ρ)
/-- what the class at C answers of those of the table -/
def TabOk (K : PySem.W.Frag) (tab : XTab) (u : Value) : Prop := ∀ z b, tab.lookup z = some b → ∀ D, clK K z = some D → PySem.W.kitOne K (.ref D) u = some b
def TabOkT (K : PySem.W.Frag) (tab : XTab) (us : List Value) : Prop := ∀ z b, tab.lookup z = some b → ∀ D, clK K z = some D → PySem.W.kitAny K (.ref D) us = some b
theorem TabOk.one {K : PySem.W.Frag} {z : Str} {b : Bool} {u : Value} {C : Addr} (h : clK K z = some C) (k : PySem.W.kitOne K (.ref C) u = some b) : TabOk K [(z, b)] u := fun z' b' e D hD => by
  rw [List.lookup_cons] at e
  by_cases hz : z' = z
  · subst hz
    rw [beq_self_eq_true] at e
    cases e
    rw [h] at hD
    cases hD
    exact k
  · rw [beq_eq_false_iff_ne.mpr hz] at e
    cases e
theorem TabOkT.one {K : PySem.W.Frag} {z : Str} {b : Bool} {us : List Value} {C : Addr} (h : clK K z = some C) (k : PySem.W.kitAny K (.ref C) us = some b) : TabOkT K [(z, b)] us := fun z' b' e D hD => by
  rw [List.lookup_cons] at e
  by_cases hz : z' = z
  · subst hz
    rw [beq_self_eq_true] at e
    cases e
    rw [h] at hD
    cases hD
    exact k
  · rw [beq_eq_false_iff_ne.mpr hz] at e
    cases e
def tNames : List Addr → TA
  | [] => tNil
  | C :: r => tCons (tC (.ref C)) (tNames r)
theorem tNames_run : ∀ {Cs : List Addr} {σ : L2.St} {H : Hp} {Q : List V → Hp → Prop}, Q (Cs.map V.ref) H → tNames Cs σ H Q
  | [], _, _, _, q => q
  | C :: r, σ, H, Q, q => by
    show tNames r σ H fun vs H2 => Q (V.ref C :: vs) H2
    exact tNames_run (Cs := r) q
theorem clsV_all : ∀ (Cs : List Addr), Paired ClsV (Cs.map V.ref) (Cs.map Value.ref)
  | [] => .nil
  | C :: r => .cons (.own C) (clsV_all r)
section
variable {X : Cx} {E : Str → Hp → Prop} {e : Expr} {te : TE} {ma : MP} {p p2 pos : Pos} {y : Str} {tab : XTab} {C : Addr} {n : String} {Cs : List Addr}
theorem pa_names_nil : PA X [] (tNames []) := pa_nil
theorem pa_names_cons {es : List Expr} (hm : X.mg y = some (.ref C)) (hr : PA X es (tNames Cs)) (hg : Gl X y := by rfl) (hd : (y == ("__debug__" : Str)) = false := by decide)
    (hs : starEach (.Name y p2 :: es) X.env = (false, eval (.Name y p2) X.env) :: starEach es X.env := by rfl) : PA X (.Name y p2 :: es) (tNames (C :: Cs)) := pa_cons (pe_glob hg hm rfl hd) hr hs
theorem ex_at {K : PySem.W.Frag} {F : Addr → Prop} {H : Hp} {v : V} {t : T} {A : List Addr} {d : PyData} (h : Rp K F H v t A) (e : exIs tab t = some d) : ∃ a D z b, v = .ref a ∧ H a = some (ExK D a) ∧ ExcC K D ∧ clK K z = some D ∧ tab.lookup z = some b ∧ d = .bool b := by
  unfold exIs at e
  split at e
  · obtain ⟨b, e1, e2⟩ := Option.map_eq_some_iff.mp e
    subst e2
    cases h with
    | ex h1 h2 h3 => exact ⟨_, _, _, b, rfl, h1, h3, h2, e1, rfl⟩
  · cases e
theorem sim_isX {u : Value} {c : V} (he : SimP X.K te ma) (ht : TabOk X.K tab u) (hc : ClsV c u) : SimP X.K (tCB (rIsX X.K) (tCons te (tCons (tC c) tNil))) (pIsX tab ma) := by
  intro c0 H tv td σ ρ A t hl w e1 Q q
  unfold pIsX at e1
  obtain ⟨t0, e2, e3⟩ := Option.bind_eq_some_iff.mp e1
  obtain ⟨d, e4, e5⟩ := Option.map_eq_some_iff.mp e3
  subst e5
  refine he c0 H tv td σ ρ A t0 hl w e2 _ fun v A1 r _ => ?_
  obtain ⟨a, D, z, b, rfl, h1, h2, h3, h4, rfl⟩ := ex_at r e4
  exact ⟨a, D, c, u, b, rfl, h1, h2, hc, ht z b h4 D h3, q _ [] (.d (.bl b)) fun _ z => by simp at z⟩
theorem qp_isX (he : QP X e te ma) (hm : X.mg "isinstance" = none) (hy : X.mg y = some (.ref C)) (ht : TabOk X.K tab (.ref C)) (hg : Gl X "isinstance" := by rfl) (hg2 : Gl X y := by rfl) (hd : (y == ("__debug__" : Str)) = false := by decide)
    (hs : starEach [e, .Name y p2] X.env = (false, eval e X.env) :: starEach [.Name y p2] X.env := by rfl) (hpl : (backTo pos (starEach [.Name y p2] X.env)).any (·.1) = false := by rfl)
    (hs2 : starEach [.Name y p2] X.env = (false, eval (.Name y p2) X.env) :: starEach [] X.env := by rfl) : QP X (.Call (.Name "isinstance" p) [e, .Name y p2] [] pos) (tCB (rIsX X.K) (tCons te (tCons (tC (.ref C)) tNil))) (pIsX tab ma) :=
  ⟨pe_callB call_isX hg hm (by decide +kernel) (pa_cons he.pe (pa_cons (pe_glob hg2 hy rfl hd) pa_nil hs2) hs) (by decide) (by decide) hs hpl, sim_isX he.sim ht (.own C)⟩
theorem qp_isXb (he : QP X e te ma) (hm : X.mg "isinstance" = none) (hy : X.mg y = none) (hv : bootBuiltins y = some (.type n)) (ht : TabOk X.K tab (.type n)) (hg : Gl X "isinstance" := by rfl) (hg2 : Gl X y := by rfl) (hn : y ≠ "__name__" := by decide) (hd : (y == ("__debug__" : Str)) = false := by decide)
    (hs : starEach [e, .Name y p2] X.env = (false, eval e X.env) :: starEach [.Name y p2] X.env := by rfl) (hpl : (backTo pos (starEach [.Name y p2] X.env)).any (·.1) = false := by rfl)
    (hs2 : starEach [.Name y p2] X.env = (false, eval (.Name y p2) X.env) :: starEach [] X.env := by rfl) : QP X (.Call (.Name "isinstance" p) [e, .Name y p2] [] pos) (tCB (rIsX X.K) (tCons te (tCons (tC (.ty n)) tNil))) (pIsX tab ma) :=
  ⟨pe_callB call_isX hg hm (by decide +kernel) (pa_cons he.pe (pa_cons (pe_bltn hg2 hy hv rfl hn hd) pa_nil hs2) hs) (by decide) (by decide) hs hpl, sim_isX he.sim ht (.ty n)⟩
theorem qe_isXT {es : List Expr} {k : Nat} (he : QP X e te ma) (hm : X.mg "isinstance" = none) (ht : TabOkT X.K tab (Cs.map Value.ref)) (hn : PA X es (tNames Cs)) (hz : Cs.length ≤ 1000) (hg : Gl X "isinstance" := by rfl)
    (hs : starEach [e, .Tuple es k p2] X.env = (false, eval e X.env) :: starEach [.Tuple es k p2] X.env := by rfl) (hpl : (backTo pos (starEach [.Tuple es k p2] X.env)).any (·.1) = false := by rfl)
    (hs2 : starEach [.Tuple es k p2] X.env = (false, eval (.Tuple es k p2) X.env) :: starEach [] X.env := by rfl) : QE X E true (.Call (.Name "isinstance" p) [e, .Tuple es k p2] [] pos) (tCB (rIsXT X.K) (tCons te (tCons (tTup (tNames Cs)) tNil))) (mIsXT tab ma) := by
  refine ⟨pe_callB call_isXT hg hm (by decide +kernel) (pa_cons he.pe (pa_cons (pe_tup hn) pa_nil hs2) hs) (by decide) (by decide) hs hpl, fun c H tv td σ ρ hl st Q q => ?_⟩
  obtain ⟨A, w⟩ := st
  unfold mIsXT at q
  obtain ⟨d, e1, q1⟩ := then_ofO.mp (then_bind.mp q)
  obtain ⟨t0, e2, e3⟩ := Option.bind_eq_some_iff.mp e1
  refine he.sim c H tv td σ ρ A t0 hl w e2 _ fun v A1 r _ => ?_
  obtain ⟨a, D, z, b, rfl, h1, h2, h3, h4, rfl⟩ := ex_at r e3
  show tNames Cs σ H _
  refine tNames_run ⟨sz1000 (by simpa using hz), fun p hp => ?_⟩
  have sm := same_upd (o := .tup (Cs.map V.ref)) hp
  exact ⟨a, D, p, Cs.map V.ref, Cs.map Value.ref, b, rfl, sm _ _ h1, h2, upd_same, clsV_all Cs, ht z b h4 D h3, q1 _ _ (fun _ => sm) ⟨A, (w.grow sm).pushD (.bl b)⟩⟩
end
end L3
namespace L3
open PySem PySem.Spec PyProof.Rows L2
/-! ### ties -/
theorem kit_self {K : PySem.W.Frag} {C : Addr} : PySem.W.kitOne K (.ref C) (.ref C) = some true := by
  unfold PySem.W.kitOne
  rw [if_pos (beq_self_eq_true _)]
theorem kit_ref {K : PySem.W.Frag} {C D : Addr} {b : Bool} (hd : PySem.W.hasDictIn K C = true) (ht : PySem.W.typeIn K (.ref C) = some (.type "type")) (hs : PySem.W.subIn K (.ref D) (.ref C) = some b) (hn : (Value.ref D == Value.ref C) = false) : PySem.W.kitOne K (.ref D) (.ref C) = some b := by
  obtain ⟨cd, hc, _⟩ := PySem.W.any_some hd
  unfold PySem.W.kitOne
  rw [hn, if_neg Bool.false_ne_true]
  unfold PySem.W.kitCls
  dsimp only
  rw [if_pos (by rw [hc, ht]; rfl)]
  exact hs
theorem kit_blt {K : PySem.W.Frag} {D : Addr} {n : String} {b : Bool} (hm : PySem.W.kitMeta n = true) (hs : PySem.W.subIn K (.ref D) (.type n) = some b) : PySem.W.kitOne K (.ref D) (.type n) = some b := by
  unfold PySem.W.kitOne
  rw [if_neg (by exact fun z => nomatch z)]
  unfold PySem.W.kitCls
  dsimp only
  rw [if_pos hm]
  exact hs
theorem kit_no {K : PySem.W.Frag} {t c : Value} {cs : List Value} {r : Bool} (h : PySem.W.kitOne K t c = some false) (hr : PySem.W.kitAny K t cs = some r) : PySem.W.kitAny K t (c :: cs) = some r := L2.kitAny_cons h (fun _ => hr) fun z => nomatch z
end L3
/-! X1 -/
/-! X1: (a, b, ..).count(x). -/
namespace L2
open PySem PySem.Spec PyProof.Rows
/-- xs.count(x) of a tuple of data -/
def rCountD (K : PySem.W.Frag) : V → List V → Hp → VK → Prop := fun x xs H Q => ∃ (a : Addr) (y : V) (d : PyData) (ds : List PyData), x = V.ref a ∧ xs = [y] ∧ Dp K H (V.ref a) (.tuple ds) ∧ Dp K H y d ∧
  SeqAt.shaped (.tuple ds) = true ∧ SeqAt.shaped d = true ∧ Q (.int (ds.countP fun z => PyData.eqv z d : Nat)) H
section
variable {X : Cx}
theorem mt_countD (hu : X.A.units + 65 < cLine) : MtR X "tuple.count" (rCountD X.K) := by
  intro pins s σ H x xs v us Q I rx rxs h
  obtain ⟨a, y, d, ds, rfl, rfl, hl, hy, sl, sd, q⟩ := h
  cases rx
  cases rxs with
  | cons ry rt =>
    rename_i uy ut
    cases rt
    obtain ⟨bs, r1⟩ := Dp.reads I d y uy hy ry
    have hxs : PyData.canLayAll0 ds = true := SeqAt.canLay_of_shaped sl
    have hroom : X.A.units + 1 + min (PyData.depthAll ds) d.depth < cLine := room_in_shaped sd hu
    cases hl with
    | tup hs ha =>
      obtain ⟨its, rv, ⟨⟨cls, dd, data, sls⟩, ho, hc, n, hdt⟩, hlen⟩ := I.tuple hs
      simp only at hc hdt
      subst hc hdt
      obtain ⟨as, h4⟩ := Dp.readsAll I ds _ its ha rv
      have hmap : its.map (SeqAt.readOf s.heap) = ds := SeqAt.readsAll_map ds its as hxs h4
      refine call_meets PySem.F.slot_tuple_count ⟨_, ho, rfl⟩ PySem.F.entry_tuple_count (PySem.F.args_tuple_count_2 _ _)
        (SeqAt.tuple_countAt a its.toArray n dd sls uy (fun u => PyData.eqv (SeqAt.readOf s.heap u) d)) ⟨ho, SeqAt.items_eqAt (vs := its.toArray) (show ReadsAll s.heap its.toArray.toList ds as from h4) r1 hxs (SeqAt.canLay_of_shaped sd) hroom, ?_⟩
      refine ⟨.int _, H, I.tok _, ⟨_, rfl⟩, ?_⟩
      have e : List.countP (fun u => PyData.eqv (SeqAt.readOf s.heap u) d) its.toArray.toList = ds.countP fun z => PyData.eqv z d := by
        rw [← hmap, List.countP_map]; rfl
      rw [e]
      exact q
end
end L2
namespace L2
open PySem PySem.Spec PyProof.Rows
section
variable {X : Cx} {es : List Expr} {e : Expr} {t t2 : TA} {k : Nat} {p1 apos cpos : Pos} {r : V → List V → Hp → VK → Prop}
/-- (a, b, ..).count(e) -/
def tTupM (r : V → List V → Hp → VK → Prop) (t t2 : TA) : TE := fun σ H Q => t σ H fun xs H1 => xs.length ≤ sizeLine ∧ ∀ p, H1 p = none → t2 σ (upd H1 p (.tup xs)) fun ys H2 => r (.ref p) ys H2 Q
theorem pe_tupCount (hm : MtR X "tuple.count" r) (ha : PA X es t) (hb : PA X [e] t2)
    (hbase : attributeBase (.Tuple es k p1) "count" X.env (eval (.Tuple es k p1) X.env) = eval (.Tuple es k p1) X.env := by rfl)
    (hfew : ((backTo cpos (starEach [e] X.env)).all (fun x => !x.1) && (backToKw cpos (keywordEach [] X.env)).all (fun x => x.1.isSome)
      && decide ([e].length + ([] : List Keyword).length + (if ([] : List Keyword).isEmpty then 0 else 1) < 30)) = true := by rfl)
    (hline : (apos.endLine == cpos.line) = true := by rfl) (hs : starEach [e] X.env = (false, eval e X.env) :: starEach [] X.env := by rfl) :
    PE X (.Call (.Attribute (.Tuple es k p1) "count" apos) [e] [] cpos) (tTupM r t t2) := by
  refine ⟨fun pins s σ H Q I hq => ?_⟩
  refine wpAny_Call_method_late hbase hfew hline rfl ?_
  refine wpAny_Tuple_spliced (thn (ha.run p1 pins s σ H _ I hq) fun us s1 ⟨xs, H1, I1, r1, z, q⟩ => ⟨by rw [← r1.length]; exact z, ?_⟩)
  have hf : H1 s1.heap.objs.size = none := I1.hok.fresh (Nat.le_refl _)
  have I2 : Inv X pins σ (upd H1 s1.heap.objs.size (.tup xs)) { s1 with heap := s1.heap.push { cls := .type "tuple", data := .seq us.toArray } } :=
    I1.laid (t' := s1.toks) (fun b u e => Heap.get?_push_of_some _ e) (Nat.le_refl _) ⟨z, us, r1, ⟨_, Heap.get?_push_size _ rfl, rfl, _, rfl⟩⟩
  have hob : (s1.heap.push { cls := .type "tuple", data := .seq us.toArray }).get? s1.heap.objs.size = some { cls := .type "tuple", data := .seq us.toArray } := Heap.get?_push_size _ rfl
  refine ⟨"tuple", "tuple.count", PySem.F.plainAttrs_tuple, PySem.F.slot_tuple_count, PySem.F.type_tuple_count, ⟨_, hob, rfl⟩, fun a e => ?_, ?_⟩
  · cases e
    exact ⟨_, hob, rfl⟩
  have hA := hb.run cpos pins _ σ _ _ I2 (q _ hf)
  rw [hs] at hA ⊢
  refine Calls.callWith_builtin (by rfl) (Calls.evalArgs_plain ?_)
  exact thn hA fun us' s2 ⟨vs, H2, I2', r2, q2⟩ => hm pins s2 σ H2 (.ref _) vs (.ref _) us' Q I2' rfl r2 q2
end
end L2
/-! L3r -/
/-! L3r: (a, b, ..).count(x). -/
namespace L3
open PySem PySem.Spec PyProof.Rows L2
def cntD (ds : List PyData) (x : PyData) : R PyData := guard (SeqAt.shaped (.tuple ds) && SeqAt.shaped x) (.ok (.int (ds.countP fun z => PyData.eqv z x : Nat)))
def mTupCount (ma : MA) (mp : MP) : MEx := fun ρ => (ma ρ).bind fun r => match T.allD r.1, mp r.2 with
  | some ds, some (.d x) => (cntD ds x).bind fun n => .ok (.d n, r.2)
  | _, _ => .bad
theorem qe_tupCount {X : Cx} {E : Str → Hp → Prop} {es : List Expr} {e : Expr} {t : TA} {te : TE} {ma : MA} {mp : MP} {k : Nat} {p1 apos cpos : Pos} {g : Bool} (hu : X.A.units + 65 < cLine) (h : QA X E g es t ma) (he : QP X e te mp) (hz : es.length ≤ 1000 := by decide)
    (hbase : attributeBase (.Tuple es k p1) "count" X.env (eval (.Tuple es k p1) X.env) = eval (.Tuple es k p1) X.env := by rfl)
    (hfew : ((backTo cpos (starEach [e] X.env)).all (fun x => !x.1) && (backToKw cpos (keywordEach [] X.env)).all (fun x => x.1.isSome)
      && decide ([e].length + ([] : List Keyword).length + (if ([] : List Keyword).isEmpty then 0 else 1) < 30)) = true := by rfl)
    (hline : (apos.endLine == cpos.line) = true := by rfl) (hs : starEach [e] X.env = (false, eval e X.env) :: starEach [] X.env := by rfl) :
    QE X E g (.Call (.Attribute (.Tuple es k p1) "count" apos) [e] [] cpos) (tTupM (rCountD X.K) t (tCons te tNil)) (mTupCount ma mp) := by
  refine ⟨pe_tupCount (mt_countD hu) h.pa (pa_cons he.pe pa_nil hs) hbase hfew hline hs, fun c H tv td σ ρ hl st Q q => ?_⟩
  unfold mTupCount at q
  rw [then_bind] at q
  refine h.sim c H tv td σ ρ hl st _ ?_
  have hlen := h.len ρ
  cases e0 : ma ρ with
  | bad => rw [e0] at q; exact q.elim
  | exc x => rw [e0] at q; exact q
  | ok r =>
    rw [e0, then_ok] at q
    intro vs H1 sm1 hvs st1
    have hn := hlen r e0
    refine ⟨sz1000 (by omega), fun p hp => ?_⟩
    obtain ⟨A, w⟩ := st1
    obtain ⟨A1, B, eA, ra, s⟩ := w.slots.front hvs
    have sm := same_upd (o := .tup vs) hp
    have w2 := w.grow sm
    have eq1 : ∀ a ∈ A, (upd H1 p (.tup vs)) a = H1 a := fun a ha => upd_ne (fun z => w.not_mem_of_none hp (by rw [← z]; exact ha))
    have ra2 := ra.mono (.same sm) fun a ha => eq1 a (by rw [eA]; exact List.mem_append_left _ ha)
    have s2 := s.mono (.same sm) fun a ha => eq1 a (by rw [eA]; exact List.mem_append_right _ ha)
    cases ed : T.allD r.1 with
    | none => rw [ed] at q; exact q.elim
    | some ds =>
      rw [ed] at q
      cases ep : mp r.2 with
      | none => rw [ep] at q; exact q.elim
      | some y =>
        rw [ep] at q
        cases y with
        | d x =>
          dsimp only at q
          unfold cntD at q
          obtain ⟨hg, q1⟩ := then_guard.mp (then_bind.mp q)
          rw [Bool.and_eq_true] at hg
          have w3 : StW X.K c (upd H1 p (.tup vs)) ((vs.map some ++ tv) ++ σ) ((r.1.map some ++ td) ++ r.2) A := by simpa using w2
          show te σ (upd H1 p (.tup vs)) _
          refine he.sim c (upd H1 p (.tup vs)) (vs.map some ++ tv) (r.1.map some ++ td) σ r.2 A _ (by simp [hvs, hl]) w3 ep _ fun v A2 rv _ => ?_
          cases rv with
          | d fv =>
            refine ⟨p, v, x, ds, rfl, rfl, .tup (.of upd_same) (ra2.data ed).1.dp, fv.dp, hg.1, hg.2, ?_⟩
            refine q1 _ _ (fun e => (sm1 e).trans sm) ⟨B, w2.remake (fun a => ?_) (.cons (A := []) (.d (.int _)) s2)⟩
            rw [eA, List.count_append]
            omega
        | _ => exact q.elim
end L3
namespace L3
open PySem PySem.Spec PyProof.Rows L2
/-- x == [], where x stays what it is -/
def mEqNil (f : T → T → R RV) (mp : MP) : MEx := fun ρ => match mp ρ with
  | some x => (match f x (.d (.list [])) with
    | .ok (.v (.d (.bool b))) => .ok (.d (.bool b), ρ)
    | _ => .bad)
  | none => .bad
theorem qe_eqNil {X : Cx} {E : Str → Hp → Prop} {op : CmpOp} {r : R2} {f : T → T → R RV} {a : Expr} {te : TE} {mp : MP} {p1 pos : Pos} (ho : OpR X (compareOp op) r) (hv : OpV X.K r f) (he : QP X a te mp) (hm : behindInMarks op (.List [] p1) = false) :
    QE X E true (.Compare a [op] [.List [] p1] pos) (tOp r te (tLst tNil)) (mEqNil f mp) := by
  refine ⟨pe_cmpR ho he.pe (pe_lst pa_nil) hm, fun c H tv td σ ρ hl st Q q => ?_⟩
  obtain ⟨A, w⟩ := st
  unfold mEqNil at q
  cases e1 : mp ρ with
  | none => rw [e1] at q; exact q.elim
  | some x =>
    rw [e1] at q
    dsimp only at q
    refine he.sim c H tv td σ ρ A x hl w e1 _ fun v A1 rv hA => ?_
    refine ⟨by simp, fun p hp => ?_⟩
    have sm := same_upd (o := .lst []) hp
    have hpA : p ∉ A := w.not_mem_of_none hp
    have fp : Fok c A p := ⟨.inr (.inl (w.keep.there p hp)), hpA⟩
    have r1 : Rp X.K (Fok c A) (upd H p (.lst [])) v x A1 := rv.mono (.same sm) fun b hb => upd_ne (fun z => hpA (by rw [← z]; exact hA b hb))
    have r2 : Rp X.K (Fok c A) (upd H p (.lst [])) (.ref p) (.d (.list [])) [] := .d (.lst upd_same fp .nil)
    split at q
    · rename_i b eb
      refine hv _ _ _ _ _ _ _ _ r1 r2 _ ?_
      rw [eb, then_ok]
      intro v' C rv' _
      cases rv' with
      | d fv =>
        cases fv
        exact q _ _ (fun _ => sm) ⟨A, (w.grow sm).pushD (.bl b)⟩
    · exact q.elim
end L3
namespace L3
open PySem PySem.Spec PyProof.Rows L2
theorem qt_eqNil {X : Cx} {E : Str → Hp → Prop} {op : CmpOp} {r : R2} {f : T → T → R RV} {a : Expr} {te : TE} {mp : MP} {p1 pos : Pos} (ho : OpR X (compareOp op) r) (hv : OpV X.K r f) (he : QP X a te mp) (hm : behindInMarks op (.List [] p1) = false) :
    QT X E (.Compare a [op] [.List [] p1] pos) (tTest (tOp r te (tLst tNil))) (mTest (mEqNil f mp)) :=
  ⟨pt_cmpR ho he.pe (pe_lst pa_nil) hm, sim_test (qe_eqNil (pos := pos) ho hv he hm).sim⟩
end L3
namespace L3
open PySem PySem.Spec PyProof.Rows L2
/-! ### a, b, c = a list -/
def mgLst (n : Nat) (r : MGs) : MG := fun t ρ => match t with
  | .d (.list ds) => if ds.length = n then r (ds.map T.d) ρ else none
  | _ => none
theorem qg_lst {X : Cx} {pr : Nat → Bool} {pos : Pos} {es : List Expr} {k : Nat} {tgs : TGs} {r : MGs} (hc : X.calm = true) (h : QGs X pr es tgs r) {n : Nat} (hn : (assignEach es X.env).length = n := by rfl) (hst : (assignEach es X.env).findIdx? (·.1) = none := by rfl) : QG X pr (.Tuple es k pos) (gLst X.K n tgs) (mgLst n r) := by
  refine ⟨pg_lst hc h.pg hn hst, fun c H tv td σ ρ ρ' v t hl st e Q q => ?_⟩
  unfold mgLst at e
  split at e
  · rename_i ds
    split at e
    · rename_i hlen
      obtain ⟨A, w⟩ := st
      obtain ⟨A1, B, eA, x, s⟩ := w.top
      obtain ⟨a, vs, rfl, hq, f⟩ := x.lst? (ds := ds) rfl
      have hvt := f.len
      refine ⟨a, vs, rfl, .of hq, by omega, ?_⟩
      exact h.sim c H tv td σ ρ ρ' vs (ds.map T.d) hl (by simpa using hvt) ⟨[] ++ B, w.remake (fun b => by rw [eA, List.nil_append, List.count_append]; omega) (Sl.many (RpAll.ofFz f) s)⟩ e Q q
    · cases e
  · cases e
end L3
/-! L3m -/
/-! L3m: reckoning with mirrors: rows for simp, loops, equality of data, fractions. -/
namespace L3
open PySem PySem.Spec PyProof.Rows L2

/-! ### results -/
@[simp] theorem bind_okS {α β : Type} {a : α} {f : α → R β} : (R.ok a).bind f = f a := (rfl)
@[simp] theorem bind_badS {α β : Type} {f : α → R β} : (R.bad : R α).bind f = .bad := (rfl)
@[simp] theorem bind_excS {α β : Type} {f : α → R β} {c : Str} : (R.exc c : R α).bind f = .exc c := (rfl)
@[simp] theorem then_okS {α : Type} {a : α} {P : α → Prop} {E : Str → Prop} : Then (.ok a) P E ↔ P a := (Iff.rfl)
@[simp] theorem then_badS {α : Type} {P : α → Prop} {E : Str → Prop} : Then (.bad : R α) P E ↔ False := (Iff.rfl)
@[simp] theorem then_excS {α : Type} {c : Str} {P : α → Prop} {E : Str → Prop} : Then (.exc c : R α) P E ↔ E c := (Iff.rfl)
@[simp] theorem ofO_some {α : Type} {a : α} : ofO (some a) = .ok a := (rfl)
@[simp] theorem ofO_none {α : Type} : ofO (none : Option α) = .bad := (rfl)
@[simp] theorem guard_t {α : Type} {r : R α} : guard true r = r := (rfl)
@[simp] theorem guard_f {α : Type} {r : R α} : guard false r = .bad := (rfl)
@[simp] theorem nx_ok {α : Type} {a : α} : (R.ok a).nx = .ok a := (rfl)
@[simp] theorem nx_bad {α : Type} : (R.bad : R α).nx = .bad := (rfl)
theorem then_nx {α : Type} {r : R α} {P : α → Prop} {E : Str → Prop} (h : Then r P (fun _ => False)) : Then r.nx P E := by
  cases r with
  | ok a => exact h
  | exc c => exact h.elim
  | bad => exact h
theorem then_bindI {α β : Type} {r : R α} {f : α → R β} {P : α → Prop} {P' : β → Prop} {E : Str → Prop} (h : Then r P E) (k : ∀ a, P a → Then (f a) P' E) : Then (r.bind f) P' E := then_bind.mpr (h.imp k)
theorem then_guardI {α : Type} {b : Bool} {r : R α} {P : α → Prop} {E : Str → Prop} (h : b = true) (k : Then r P E) : Then (guard b r) P E := then_guard.mpr ⟨h, k⟩
/-- an equation is a promise -/
theorem then_eq {α : Type} {r : R α} {a : α} {P : α → Prop} {E : Str → Prop} (h : r = .ok a) (k : P a) : Then r P E := by rw [h]; exact k
theorem eq_then {α : Type} {r : R α} {a : α} (h : Then r (fun x => x = a) (fun _ => False)) : r = .ok a := by
  cases r with
  | ok b => exact congrArg R.ok h
  | exc c => exact h.elim
  | bad => exact h.elim

/-! ### rows for simp: what is behind is not looked at before what is ahead is known -/
abbrev En := L3.Env
@[simp] theorem bind_assocS {α β γ : Type} {r : R α} {f : α → R β} {g : β → R γ} : (r.bind f).bind g = r.bind fun a => (f a).bind g := by cases r <;> rfl
@[simp] theorem nx_bind {α β : Type} {r : R α} {f : α → R β} : (r.bind f).nx = r.nx.bind fun a => (f a).nx := by cases r <;> rfl
@[simp] theorem e_mC {x : PyData} {ρ : En} : mC x ρ = .ok (.d x, ρ) := (rfl)
@[simp] theorem e_pC {x : PyData} {ρ : En} : pC x ρ = some (.d x) := (rfl)
def liftK (ρ : En) : Option T → R (T × En)
  | some (.d x) => .ok (.d x, ρ)
  | _ => .bad
@[simp] theorem e_lift {m : MP} {ρ : En} : mLift m ρ = liftK ρ (m ρ) := (rfl)
@[simp] theorem e_liftK {ρ : En} {x : PyData} : liftK ρ (some (.d x)) = .ok (.d x, ρ) := (rfl)
def pvK : Option (Option T) → Option T
  | some (some t) => some t
  | _ => none
@[simp] theorem e_pVar {i : Nat} {ρ : En} : pVar i ρ = pvK ρ[i]? := (rfl)
@[simp] theorem e_pvK {t : T} : pvK (some (some t)) = some t := (rfl)
def varK2 (i : Nat) (ρ : En) : Option PyData → R (T × En)
  | some x => .ok (.d x, ρ.set i (some (.d x)))
  | none => .bad
def varK (i : Nat) (ρ : En) : Option (Option T) → R (T × En)
  | some (some (.d x)) => .ok (.d x, ρ)
  | some (some t) => varK2 i ρ t.fz
  | _ => .bad
@[simp] theorem e_mVar {i : Nat} {ρ : En} : mVar i ρ = varK i ρ ρ[i]? := by
  unfold mVar
  generalize ρ[i]? = o
  cases o with
  | none => rfl
  | some o =>
    cases o with
    | none => rfl
    | some t => cases t <;> rfl
@[simp] theorem e_varK {i : Nat} {ρ : En} {x : PyData} : varK i ρ (some (some (.d x))) = .ok (.d x, ρ) := (rfl)
@[simp] theorem e_varKo {i : Nat} {ρ : En} {ts : List T} : varK i ρ (some (some (.ol ts))) = varK2 i ρ (T.fz (.ol ts)) := (rfl)
@[simp] theorem e_varKt {i : Nat} {ρ : En} {ts : List T} : varK i ρ (some (some (.ot ts))) = varK2 i ρ (T.fz (.ot ts)) := (rfl)
@[simp] theorem e_varK2 {i : Nat} {ρ : En} {x : PyData} : varK2 i ρ (some x) = .ok (.d x, ρ.set i (some (.d x))) := (rfl)
def moveK (i : Nat) (ρ : En) : Option (Option T) → R (T × En)
  | some (some t) => .ok (t, ρ.set i none)
  | _ => .bad
@[simp] theorem e_mMove {i : Nat} {ρ : En} : mMove i ρ = moveK i ρ ρ[i]? := (rfl)
@[simp] theorem e_moveK {i : Nat} {ρ : En} {t : T} : moveK i ρ (some (some t)) = .ok (t, ρ.set i none) := (rfl)
def rdK (ρ : En) : Option (Option T) → R (T × En)
  | some (some (.rd ds)) => .ok (.rd ds, ρ)
  | _ => .bad
@[simp] theorem e_mRd {i : Nat} {ρ : En} : mRd i ρ = rdK ρ ρ[i]? := (rfl)
@[simp] theorem e_rdK {ρ : En} {ds : List PyData} : rdK ρ (some (some (.rd ds))) = .ok (.rd ds, ρ) := (rfl)
@[simp] theorem e_pBin {op : T → T → R RV} {a b : MP} {ρ : En} : pBin op a b ρ = (a ρ).bind fun x => (b ρ).bind fun y => okV (op x y) := (rfl)
@[simp] theorem e_pUn {op : T → R RV} {a : MP} {ρ : En} : pUn op a ρ = (a ρ).bind fun x => okV (op x) := (rfl)
@[simp] theorem e_pNil {ρ : En} : pNil ρ = some [] := (rfl)
@[simp] theorem e_pCons {a : MP} {r : MPA} {ρ : En} : pCons a r ρ = (a ρ).bind fun x => (r ρ).bind fun y => some (x :: y) := (rfl)
@[simp] theorem e_pCallB {op : List T → R RV} {m : MPA} {ρ : En} : pCallB op m ρ = (m ρ).bind fun ts => okV (op ts) := (rfl)
@[simp] theorem e_pIsa {n : String} {m : MP} {ρ : En} : pIsa n m ρ = ((m ρ).bind (isaT n)).map fun b => .d (.bool b) := (rfl)
@[simp] theorem e_okV {t : T} : okV (.ok (.v t)) = some t := (rfl)
@[simp] theorem e_okVb : okV .bad = none := (rfl)
def toTK (ρ : En) (z : RV) : R (T × En) := .ok (z.toT, ρ)
@[simp] theorem e_toTK {ρ : En} {z : RV} : toTK ρ z = .ok (z.toT, ρ) := (rfl)
def binK2 (op : T → T → R RV) (x : T) (y : T × En) : R (T × En) := (op x y.1).bind (toTK y.2)
def binK (op : T → T → R RV) (b : MEx) (x : T × En) : R (T × En) := (b x.2).bind (binK2 op x.1)
@[simp] theorem e_mBin {op : T → T → R RV} {a b : MEx} {ρ : En} : mBin op a b ρ = (a ρ).bind (binK op b) := (rfl)
@[simp] theorem e_binK {op : T → T → R RV} {b : MEx} {x : T} {ρ : En} : binK op b (x, ρ) = (b ρ).bind (binK2 op x) := (rfl)
@[simp] theorem e_binK2 {op : T → T → R RV} {x y : T} {ρ : En} : binK2 op x (y, ρ) = (op x y).bind (toTK ρ) := (rfl)
def unK (op : T → R RV) (x : T × En) : R (T × En) := (op x.1).bind (toTK x.2)
@[simp] theorem e_mUn {op : T → R RV} {a : MEx} {ρ : En} : mUn op a ρ = (a ρ).bind (unK op) := (rfl)
@[simp] theorem e_unK {op : T → R RV} {x : T} {ρ : En} : unK op (x, ρ) = (op x).bind (toTK ρ) := (rfl)
@[simp] theorem e_toV {t : T} : (RV.v t).toT = t := (rfl)
@[simp] theorem e_toNl {ds : List PyData} : (RV.nl ds).toT = .ol (ds.map T.d) := (rfl)
@[simp] theorem e_toNt {ds : List PyData} : (RV.nt ds).toT = .d (.tuple ds) := (rfl)
@[simp] theorem e_mNil {ρ : En} : mNil ρ = .ok ([], ρ) := (rfl)
def consK2 (x : T) (y : List T × En) : R (List T × En) := .ok (x :: y.1, y.2)
def consK (r : MA) (x : T × En) : R (List T × En) := (r x.2).bind (consK2 x.1)
@[simp] theorem e_mCons {m : MEx} {r : MA} {ρ : En} : mCons m r ρ = (m ρ).bind (consK r) := (rfl)
@[simp] theorem e_consK {r : MA} {x : T} {ρ : En} : consK r (x, ρ) = (r ρ).bind (consK2 x) := (rfl)
@[simp] theorem e_consK2 {x : T} {ts : List T} {ρ : En} : consK2 x (ts, ρ) = .ok (x :: ts, ρ) := (rfl)
def mkTupK (ts : List T) : Option (List PyData) → T
  | some ds => .d (.tuple ds)
  | none => .ot ts
@[simp] theorem e_mkTup {ts : List T} : mkTup ts = mkTupK ts (T.allD ts) := (rfl)
@[simp] theorem e_mkTupK {ts : List T} {ds : List PyData} : mkTupK ts (some ds) = .d (.tuple ds) := (rfl)
@[simp] theorem e_mkTupN {ts : List T} : mkTupK ts none = .ot ts := (rfl)
def tupK (r : List T × En) : R (T × En) := .ok (mkTup r.1, r.2)
@[simp] theorem e_mTup {m : MA} {ρ : En} : mTup m ρ = (m ρ).bind tupK := (rfl)
@[simp] theorem e_tupK {ts : List T} {ρ : En} : tupK (ts, ρ) = .ok (mkTup ts, ρ) := (rfl)
def lstK (r : List T × En) : R (T × En) := .ok (.ol r.1, r.2)
@[simp] theorem e_mLst {m : MA} {ρ : En} : mLst m ρ = (m ρ).bind lstK := (rfl)
@[simp] theorem e_lstK {ts : List T} {ρ : En} : lstK (ts, ρ) = .ok (.ol ts, ρ) := (rfl)
def fzK2 (ρ : En) : Option PyData → R (T × En)
  | some x => .ok (.d x, ρ)
  | none => .bad
def fzK (r : T × En) : R (T × En) := fzK2 r.2 r.1.fz
@[simp] theorem e_mFz {m : MEx} {ρ : En} : mFz m ρ = (m ρ).bind fzK := (rfl)
@[simp] theorem e_fzK {t : T} {ρ : En} : fzK (t, ρ) = fzK2 ρ t.fz := (rfl)
@[simp] theorem e_fzK2 {x : PyData} {ρ : En} : fzK2 ρ (some x) = .ok (.d x, ρ) := (rfl)
def callBK (op : List T → R RV) (r : List T × En) : R (T × En) := (op r.1).bind (toTK r.2)
@[simp] theorem e_mCallB {op : List T → R RV} {m : MA} {ρ : En} : mCallB op m ρ = (m ρ).bind (callBK op) := (rfl)
@[simp] theorem e_callBK {op : List T → R RV} {ts : List T} {ρ : En} : callBK op (ts, ρ) = (op ts).bind (toTK ρ) := (rfl)
def testK (r : T × En) : R (Bool × En) := match r.1 with | .d (.bool b) => .ok (b, r.2) | _ => .bad
@[simp] theorem e_mTest {m : MEx} {ρ : En} : mTest m ρ = (m ρ).bind testK := (rfl)
@[simp] theorem e_testK {b : Bool} {ρ : En} : testK (.d (.bool b), ρ) = .ok (b, ρ) := (rfl)
def truthK (ρ : En) : Option Bool → R (Bool × En)
  | some b => .ok (b, ρ)
  | none => .bad
@[simp] theorem e_mTruth {m : MP} {ρ : En} : mTruth m ρ = truthK ρ ((m ρ).bind T.truth) := (rfl)
@[simp] theorem e_truthK {b : Bool} {ρ : En} : truthK ρ (some b) = .ok (b, ρ) := (rfl)
@[simp] theorem e_truthB {b : Bool} : T.truth (.d (.bool b)) = some b := (rfl)
@[simp] theorem e_truthI {b : Int} : T.truth (.d (.int b)) = some (b != 0) := (rfl)
@[simp] theorem e_truthN : T.truth (.d .none) = some false := (rfl)
@[simp] theorem e_truthL {ds : List PyData} : T.truth (.d (.list ds)) = some (!ds.isEmpty) := (rfl)
@[simp] theorem e_truthT {ds : List PyData} : T.truth (.d (.tuple ds)) = some (!ds.isEmpty) := (rfl)
def notK (r : Bool × En) : R (Bool × En) := .ok (!r.1, r.2)
@[simp] theorem e_mNot {m : MT} {ρ : En} : mNot m ρ = (m ρ).bind notK := (rfl)
@[simp] theorem e_notK {b : Bool} {ρ : En} : notK (b, ρ) = .ok (!b, ρ) := (rfl)
def andK (n : MT) (r : Bool × En) : R (Bool × En) := if r.1 = true then n r.2 else .ok (false, r.2)
@[simp] theorem e_mAnd {m n : MT} {ρ : En} : mAnd m n ρ = (m ρ).bind (andK n) := (rfl)
@[simp] theorem e_andK {n : MT} {b : Bool} {ρ : En} : andK n (b, ρ) = if b = true then n ρ else .ok (false, ρ) := (rfl)
def orK (n : MT) (r : Bool × En) : R (Bool × En) := if r.1 = true then .ok (true, r.2) else n r.2
@[simp] theorem e_mOr {m n : MT} {ρ : En} : mOr m n ρ = (m ρ).bind (orK n) := (rfl)
@[simp] theorem e_orK {n : MT} {b : Bool} {ρ : En} : orK n (b, ρ) = if b = true then .ok (true, ρ) else n ρ := (rfl)
def ifeK (a b : MEx) (r : Bool × En) : R (T × En) := if r.1 = true then a r.2 else b r.2
@[simp] theorem e_mIf {m : MT} {a b : MEx} {ρ : En} : mIf m a b ρ = (m ρ).bind (ifeK a b) := (rfl)
@[simp] theorem e_ifeK {a b : MEx} {x : Bool} {ρ : En} : ifeK a b (x, ρ) = if x = true then a ρ else b ρ := (rfl)
def andVK (n : MEx) (r : Bool × En) : R (T × En) := if r.1 = true then n r.2 else .ok (.d (.bool false), r.2)
@[simp] theorem e_mAndV {m n : MEx} {ρ : En} : mAndV m n ρ = (mTest m ρ).bind (andVK n) := (rfl)
@[simp] theorem e_andVK {n : MEx} {x : Bool} {ρ : En} : andVK n (x, ρ) = if x = true then n ρ else .ok (.d (.bool false), ρ) := (rfl)
def orVK (n : MEx) (r : Bool × En) : R (T × En) := if r.1 = true then .ok (.d (.bool true), r.2) else n r.2
@[simp] theorem e_mOrV {m n : MEx} {ρ : En} : mOrV m n ρ = (mTest m ρ).bind (orVK n) := (rfl)
@[simp] theorem e_orVK {n : MEx} {x : Bool} {ρ : En} : orVK n (x, ρ) = if x = true then .ok (.d (.bool true), ρ) else n ρ := (rfl)
def notVK (r : Bool × En) : R (T × En) := .ok (.d (.bool (!r.1)), r.2)
@[simp] theorem e_mNotV {m : MEx} {ρ : En} : mNotV m ρ = (mTest m ρ).bind notVK := (rfl)
@[simp] theorem e_notVK {x : Bool} {ρ : En} : notVK (x, ρ) = .ok (.d (.bool (!x)), ρ) := (rfl)
@[simp] theorem e_mNext {ρ : En} : mNext ρ = .ok (.next ρ) := (rfl)
@[simp] theorem e_mBrk {ρ : En} : mBrk ρ = .ok (.brk ρ) := (rfl)
@[simp] theorem e_mCont {ρ : En} : mCont ρ = .ok (.cont ρ) := (rfl)
@[simp] theorem e_mNever {ρ : En} : mNever ρ = .bad := (rfl)
def seqK (n : MS) : Out → R Out
  | .next ρ => n ρ
  | .ret t ρ => .ok (.ret t ρ)
  | .brk ρ => .ok (.brk ρ)
  | .cont ρ => .ok (.cont ρ)
@[simp] theorem e_mSeq {m n : MS} {ρ : En} : mSeq m n ρ = (m ρ).bind (seqK n) := by
  unfold mSeq
  congr 1
  funext o
  cases o <;> rfl
@[simp] theorem e_seqN {n : MS} {ρ : En} : seqK n (.next ρ) = n ρ := (rfl)
@[simp] theorem e_seqR {n : MS} {t : T} {ρ : En} : seqK n (.ret t ρ) = .ok (.ret t ρ) := (rfl)
@[simp] theorem e_seqB {n : MS} {ρ : En} : seqK n (.brk ρ) = .ok (.brk ρ) := (rfl)
@[simp] theorem e_seqC {n : MS} {ρ : En} : seqK n (.cont ρ) = .ok (.cont ρ) := (rfl)
def retK (r : T × En) : R Out := .ok (.ret r.1 r.2)
@[simp] theorem e_mRet {m : MEx} {ρ : En} : mRet m ρ = (m ρ).bind retK := (rfl)
@[simp] theorem e_retK {t : T} {ρ : En} : retK (t, ρ) = .ok (.ret t ρ) := (rfl)
def dropK (r : T × En) : R Out := .ok (.next r.2)
@[simp] theorem e_mDrop {m : MEx} {ρ : En} : mDrop m ρ = (m ρ).bind dropK := (rfl)
@[simp] theorem e_dropK {t : T} {ρ : En} : dropK (t, ρ) = .ok (.next ρ) := (rfl)
def ifK (a b : MS) (r : Bool × En) : R Out := if r.1 = true then a r.2 else b r.2
@[simp] theorem e_mIfS {m : MT} {a b : MS} {ρ : En} : mIfS m a b ρ = (m ρ).bind (ifK a b) := (rfl)
@[simp] theorem e_ifK {a b : MS} {x : Bool} {ρ : En} : ifK a b (x, ρ) = if x = true then a ρ else b ρ := (rfl)
def nextK (ρ : En) : R Out := .ok (.next ρ)
@[simp] theorem e_nextK {ρ : En} : nextK ρ = .ok (.next ρ) := (rfl)
def asgK (g : MG) (r : T × En) : R Out := (ofO (g r.1 r.2)).bind nextK
@[simp] theorem e_mAsg {m : MEx} {g : MG} {ρ : En} : mAsg m g ρ = (m ρ).bind (asgK g) := (rfl)
@[simp] theorem e_asgK {g : MG} {t : T} {ρ : En} : asgK g (t, ρ) = (ofO (g t ρ)).bind nextK := (rfl)
@[simp] theorem e_mgName {i : Nat} {t : T} {ρ : En} : mgName i t ρ = some (ρ.set i (some t)) := (rfl)
@[simp] theorem e_mgNil {ρ : En} : mgNil [] ρ = some ρ := (rfl)
@[simp] theorem e_mgCons {g : MG} {r : MGs} {t : T} {ts : List T} {ρ : En} : mgCons g r (t :: ts) ρ = (g t ρ).bind fun ρ1 => r ts ρ1 := (rfl)
def gTupK (n : Nat) (r : MGs) (ρ : En) : Option (List T) → Option En
  | some ts => if ts.length = n then r ts ρ else none
  | none => none
@[simp] theorem e_mgTup {n : Nat} {r : MGs} {t : T} {ρ : En} : mgTup n r t ρ = gTupK n r ρ t.parts := (rfl)
@[simp] theorem e_gTupK {n : Nat} {r : MGs} {ts : List T} {ρ : En} : gTupK n r ρ (some ts) = if ts.length = n then r ts ρ else none := (rfl)
def plK : Option T → Option (List T)
  | some (.ol ts) => some ts
  | _ => none
@[simp] theorem e_plK {ts : List T} : plK (some (.ol ts)) = some ts := (rfl)
@[simp] theorem e_lstAt {p : List Int} {t : T} : lstAt p (some (some t)) = plK (T.at? p t) := (rfl)
def putK (i : Nat) (p : List Int) (ts : List T) (ρ : En) : Option (Option T) → Option En
  | some (some t) => (T.put? p (.ol ts) t).map fun t' => ρ.set i (some t')
  | _ => none
@[simp] theorem e_putAt {i : Nat} {p : List Int} {ts : List T} {ρ : En} : putAt i p ts ρ = putK i p ts ρ ρ[i]? := (rfl)
@[simp] theorem e_putK {i : Nat} {p : List Int} {ts : List T} {ρ : En} {t : T} : putK i p ts ρ (some (some t)) = (T.put? p (.ol ts) t).map fun t' => ρ.set i (some t') := (rfl)
@[simp] theorem e_mgItem {i : Nat} {mp : ML} {mi : MP} {t : T} {ρ : En} : mgItem i mp mi t ρ = (mp ρ).bind fun p => ((mi ρ).bind T.int?).bind fun j => (lstAt p ρ[i]?).bind fun ts => (ixN ts.length j).bind fun k => putAt i p (ts.set k t) ρ := (rfl)
def parK (i j : Nat) (r : List T × En) : R Out := match r.1 with | [t, u] => .ok (.next ((r.2.set i (some t)).set j (some u))) | _ => .bad
@[simp] theorem e_mPar {i j : Nat} {m : MA} {ρ : En} : mPar i j m ρ = (m ρ).bind (parK i j) := (rfl)
@[simp] theorem e_parK {i j : Nat} {t u : T} {ρ : En} : parK i j ([t, u], ρ) = .ok (.next ((ρ.set i (some t)).set j (some u))) := (rfl)
def augK (i : Nat) (f : Int → Int → Int) (ρ : En) : Option (Option T) → Option T → R Out
  | some (some (.d (.int x))), some (.d (.int y)) => .ok (.next (ρ.set i (some (.d (.int (f x y))))))
  | _, _ => .bad
@[simp] theorem e_mAug {i : Nat} {f : Int → Int → Int} {m : MP} {ρ : En} : mAug i f m ρ = augK i f ρ ρ[i]? (m ρ) := (rfl)
@[simp] theorem e_augK {i : Nat} {f : Int → Int → Int} {x y : Int} {ρ : En} : augK i f ρ (some (some (.d (.int x)))) (some (.d (.int y))) = .ok (.next (ρ.set i (some (.d (.int (f x y)))))) := (rfl)
def forK (g : MG) (b : MS) (r : List T × En) : R Out := mLoop g b r.1 r.2
@[simp] theorem e_mFor {mi : MI} {g : MG} {b : MS} {ρ : En} : mFor mi g b ρ = (mi ρ).bind (forK g b) := (rfl)
@[simp] theorem e_forK {g : MG} {b : MS} {ts : List T} {ρ : En} : forK g b (ts, ρ) = mLoop g b ts ρ := (rfl)
def itK2 (ρ : En) (ts : List T) : R (List T × En) := .ok (ts, ρ)
@[simp] theorem e_itK2 {ρ : En} {ts : List T} : itK2 ρ ts = .ok (ts, ρ) := (rfl)
def itK (r : T × En) : R (List T × En) := (ofO (items? r.1)).bind (itK2 r.2)
def itTK (r : T × En) : R (List T × En) := (ofO (itemsT? r.1)).bind (itK2 r.2)
@[simp] theorem e_miL {m : MEx} {ρ : En} : miL m ρ = (m ρ).bind itK := (rfl)
@[simp] theorem e_miT {m : MEx} {ρ : En} : miT m ρ = (m ρ).bind itTK := (rfl)
@[simp] theorem e_itK {ds : List PyData} {ρ : En} : itK (.d (.list ds), ρ) = .ok (ds.map T.d, ρ) := (rfl)
@[simp] theorem e_itTK {ds : List PyData} {ρ : En} : itTK (.d (.tuple ds), ρ) = .ok (ds.map T.d, ρ) := (rfl)
def rg1 : List T × En → R (List T × En) := fun r => match r.1 with | [.d (.int j)] => guard (small62 j) (.ok (rangeItems 0 j, r.2)) | _ => .bad
def rg2 : List T × En → R (List T × En) := fun r => match r.1 with | [.d (.int i), .d (.int j)] => guard (small62 i && small62 j) (.ok (rangeItems i j, r.2)) | _ => .bad
@[simp] theorem e_miR1 {m : MA} {ρ : En} : miR1 m ρ = (m ρ).bind rg1 := (rfl)
@[simp] theorem e_miR2 {m : MA} {ρ : En} : miR2 m ρ = (m ρ).bind rg2 := (rfl)
@[simp] theorem e_rg1 {j : Int} {ρ : En} : rg1 ([.d (.int j)], ρ) = guard (small62 j) (.ok (rangeItems 0 j, ρ)) := (rfl)
@[simp] theorem e_rg2 {i j : Int} {ρ : En} : rg2 ([.d (.int i), .d (.int j)], ρ) = guard (small62 i && small62 j) (.ok (rangeItems i j, ρ)) := (rfl)
def zipK (r : List T × En) : R (List T × En) := match r.1 with | [.d (.list ds), .d (.list es)] => .ok (zipItems ds es, r.2) | _ => .bad
@[simp] theorem e_miZ {m : MA} {ρ : En} : miZ m ρ = (m ρ).bind zipK := (rfl)
@[simp] theorem e_zipK {ds es : List PyData} {ρ : En} : zipK ([.d (.list ds), .d (.list es)], ρ) = .ok (zipItems ds es, ρ) := (rfl)
def enumK (r : List T × En) : R (List T × En) := match r.1 with | [.d (.list ds)] => .ok (enumItems ds, r.2) | _ => .bad
@[simp] theorem e_miN {m : MA} {ρ : En} : miN m ρ = (m ρ).bind enumK := (rfl)
@[simp] theorem e_enumK {ds : List PyData} {ρ : En} : enumK ([.d (.list ds)], ρ) = .ok (enumItems ds, ρ) := (rfl)
def lcK2 (vs : List Nat) (z : List T × En) : R (T × En) := .ok (.ol z.1, wipeE z.2 vs)
def lcK (g : MG) (mt : MT) (me : MEx) (vs : List Nat) (r : List T × En) : R (T × En) := (mLcLoop g mt me vs r.1 [] r.2).bind (lcK2 vs)
@[simp] theorem e_mLc {mi : MI} {g : MG} {mt : MT} {me : MEx} {vs : List Nat} {ρ : En} : mLc mi g mt me vs ρ = (mi ρ).bind (lcK g mt me vs) := (rfl)
@[simp] theorem e_lcK {g : MG} {mt : MT} {me : MEx} {vs : List Nat} {ts : List T} {ρ : En} : lcK g mt me vs (ts, ρ) = (mLcLoop g mt me vs ts [] ρ).bind (lcK2 vs) := (rfl)
@[simp] theorem e_lcK2 {vs : List Nat} {ts : List T} {ρ : En} : lcK2 vs (ts, ρ) = .ok (.ol ts, wipeE ρ vs) := (rfl)
@[simp] theorem e_mtYes {ρ : En} : mtYes ρ = .ok (true, ρ) := (rfl)
@[simp] theorem e_mbNil {ρ : En} : mbNil ρ = .ok ([], ρ) := (rfl)
def mbK2 (x : T) (y : List (Option T) × En) : R (List (Option T) × En) := .ok (some x :: y.1, y.2)
def mbK (r : MB) (x : T × En) : R (List (Option T) × En) := (r x.2).bind (mbK2 x.1)
@[simp] theorem e_mbCons {m : MEx} {r : MB} {ρ : En} : mbCons m r ρ = (m ρ).bind (mbK r) := (rfl)
@[simp] theorem e_mbK {r : MB} {x : T} {ρ : En} : mbK r (x, ρ) = (r ρ).bind (mbK2 x) := (rfl)
@[simp] theorem e_mbK2 {x : T} {os : List (Option T)} {ρ : En} : mbK2 x (os, ρ) = .ok (some x :: os, ρ) := (rfl)
def mbIoK2 (y : List (Option T) × En) : R (List (Option T) × En) := .ok (none :: y.1, y.2)
@[simp] theorem e_mbIoK2 {os : List (Option T)} {ρ : En} : mbIoK2 (os, ρ) = .ok (none :: os, ρ) := (rfl)
def mbIoK (r : MB) (ρ : En) : Option (Option T) → R (List (Option T) × En)
  | some (some _) => (r ρ).bind mbIoK2
  | _ => .bad
@[simp] theorem e_mbIo {i : Nat} {r : MB} {ρ : En} : mbIo i r ρ = mbIoK r ρ ρ[i]? := (rfl)
@[simp] theorem e_mbIoK {r : MB} {ρ : En} {t : T} : mbIoK r ρ (some (some t)) = (r ρ).bind mbIoK2 := (rfl)
def callK4 (t : T) (ρ : En) : R (T × En) := .ok (t, ρ)
@[simp] theorem e_callK4 {t : T} {ρ : En} : callK4 t ρ = .ok (t, ρ) := (rfl)
def callK3 (is : List Nat) (ρ : En) (z : T × List T) : R (T × En) := (ofO (putIo is z.2 ρ)).bind (callK4 z.1)
@[simp] theorem e_callK3 {is : List Nat} {ρ : En} {t : T} {os : List T} : callK3 is ρ (t, os) = (ofO (putIo is os ρ)).bind (callK4 t) := (rfl)
def callK2 (rz gz : Bool) (n : Nat) (fm : List T → R (T × List T)) (is : List Nat) (s : List T × En) : R (T × En) :=
  guard (!gz || allData s.1) ((if decide (s.1.length = n) then (if rz = true then fm s.1 else (fm s.1).nx) else .bad).bind (callK3 is s.2))
@[simp] theorem e_callK2f {n : Nat} {fm : List T → R (T × List T)} {is : List Nat} {ts : List T} {ρ : En} : callK2 false false n fm is (ts, ρ) = (if ts.length = n then (fm ts).nx else .bad).bind (callK3 is ρ) := by simp [callK2]
@[simp] theorem e_callK2t {n : Nat} {fm : List T → R (T × List T)} {is : List Nat} {ts : List T} {ρ : En} : callK2 true false n fm is (ts, ρ) = (if ts.length = n then fm ts else .bad).bind (callK3 is ρ) := by simp [callK2]
def callK (rz gz : Bool) (n : Nat) (fm : List T → R (T × List T)) (ks : List (Option Nat)) (r : List (Option T) × En) : R (T × En) := (ofO (fillIo ks r.1 r.2)).bind (callK2 rz gz n fm (ks.filterMap id))
@[simp] theorem e_callK {rz gz : Bool} {n : Nat} {fm : List T → R (T × List T)} {ks : List (Option Nat)} {os : List (Option T)} {ρ : En} : callK rz gz n fm ks (os, ρ) = (ofO (fillIo ks os ρ)).bind (callK2 rz gz n fm (ks.filterMap id)) := (rfl)
@[simp] theorem e_mCallF {rz gz : Bool} {n : Nat} {fm : List T → R (T × List T)} {ks : List (Option Nat)} {mb : MB} {ρ : En} : mCallF rz gz n fm ks mb ρ = (mb ρ).bind (callK rz gz n fm ks) := (rfl)
@[simp] theorem e_fill0 {ρ : En} : fillIo [] [] ρ = some ([], ρ) := (rfl)
@[simp] theorem e_fill1 {ks : List (Option Nat)} {t : T} {ts : List (Option T)} {ρ : En} : fillIo (none :: ks) (some t :: ts) ρ = (fillIo ks ts ρ).map fun r => (t :: r.1, r.2) := (rfl)
def fillK (i : Nat) (ks : List (Option Nat)) (ts : List (Option T)) (ρ : En) : Option (Option T) → Option (List T × En)
  | some (some t) => (fillIo ks ts (ρ.set i none)).map fun r => (t :: r.1, r.2)
  | _ => none
@[simp] theorem e_fill2 {i : Nat} {ks : List (Option Nat)} {ts : List (Option T)} {ρ : En} : fillIo (some i :: ks) (none :: ts) ρ = fillK i ks ts ρ ρ[i]? := (rfl)
@[simp] theorem e_fillK {i : Nat} {ks : List (Option Nat)} {ts : List (Option T)} {ρ : En} {t : T} : fillK i ks ts ρ (some (some t)) = (fillIo ks ts (ρ.set i none)).map fun r => (t :: r.1, r.2) := (rfl)
@[simp] theorem e_put0 {ρ : En} : putIo [] [] ρ = some ρ := (rfl)
@[simp] theorem e_put1 {i : Nat} {is : List Nat} {t : T} {ts : List T} {ρ : En} : putIo (i :: is) (t :: ts) ρ = putIo is ts (ρ.set i (some t)) := (rfl)
def outK2 (t : T) (os : List T) : R (List T) := .ok (t :: os)
@[simp] theorem e_outK2 {t : T} {os : List T} : outK2 t os = .ok (t :: os) := (rfl)
def outK (r : List Nat) (ρ : En) : Option (Option T) → R (List T)
  | some (some t) => (outs r ρ).bind (outK2 t)
  | _ => .bad
@[simp] theorem e_outs0 {ρ : En} : outs [] ρ = .ok [] := (rfl)
@[simp] theorem e_outs1 {i : Nat} {r : List Nat} {ρ : En} : outs (i :: r) ρ = outK r ρ ρ[i]? := (rfl)
@[simp] theorem e_outK {r : List Nat} {ρ : En} {t : T} : outK r ρ (some (some t)) = (outs r ρ).bind (outK2 t) := (rfl)
def fnK2 (t : T) (os : List T) : R (T × List T) := .ok (t, os)
@[simp] theorem e_fnK2 {t : T} {os : List T} : fnK2 t os = .ok (t, os) := (rfl)
def fnK (io : List Nat) : Out → R (T × List T)
  | .ret t ρ => (outs io ρ).bind (fnK2 t)
  | .next ρ => (outs io ρ).bind (fnK2 (.d .none))
  | .brk _ => .bad
  | .cont _ => .bad
@[simp] theorem e_mFn {io : List Nat} {k : Nat} {ms : MS} {ts : List T} : mFn io k ms ts = (ms (ts.map some ++ List.replicate k none)).bind (fnK io) := by
  unfold mFn
  congr 1
  funext o
  cases o <;> rfl
@[simp] theorem e_fnR {io : List Nat} {t : T} {ρ : En} : fnK io (.ret t ρ) = (outs io ρ).bind (fnK2 t) := (rfl)
@[simp] theorem e_fnN {io : List Nat} {ρ : En} : fnK io (.next ρ) = (outs io ρ).bind (fnK2 (.d .none)) := (rfl)
def loopK2 (g : MG) (b : MS) (xs : List T) : Out → R Out
  | .next ρ => mLoop g b xs ρ
  | .cont ρ => mLoop g b xs ρ
  | .brk ρ => .ok (.next ρ)
  | .ret t ρ => .ok (.ret t ρ)
def loopK (g : MG) (b : MS) (xs : List T) (ρ : En) : R Out := (b ρ).bind (loopK2 g b xs)
@[simp] theorem e_loop0 {g : MG} {b : MS} {ρ : En} : mLoop g b [] ρ = .ok (.next ρ) := (rfl)
@[simp] theorem e_loopC {g : MG} {b : MS} {x : T} {xs : List T} {ρ : En} : mLoop g b (x :: xs) ρ = (ofO (g x ρ)).bind (loopK g b xs) := by
  have h : (fun ρ1 => (b ρ1).bind fun o => match o with
    | .next ρ2 => mLoop g b xs ρ2
    | .cont ρ2 => mLoop g b xs ρ2
    | .brk ρ2 => .ok (.next ρ2)
    | .ret t ρ2 => .ok (.ret t ρ2)) = loopK g b xs := by
    funext ρ1
    unfold loopK
    congr 1
  exact congrArg (fun k => (ofO (g x ρ)).bind k) h
@[simp] theorem e_loopK {g : MG} {b : MS} {xs : List T} {ρ : En} : loopK g b xs ρ = (b ρ).bind (loopK2 g b xs) := (rfl)
@[simp] theorem e_loopN {g : MG} {b : MS} {xs : List T} {ρ : En} : loopK2 g b xs (.next ρ) = mLoop g b xs ρ := (rfl)
@[simp] theorem e_loopCo {g : MG} {b : MS} {xs : List T} {ρ : En} : loopK2 g b xs (.cont ρ) = mLoop g b xs ρ := (rfl)
@[simp] theorem e_loopB {g : MG} {b : MS} {xs : List T} {ρ : En} : loopK2 g b xs (.brk ρ) = .ok (.next ρ) := (rfl)
@[simp] theorem e_loopR {g : MG} {b : MS} {xs : List T} {t : T} {ρ : En} : loopK2 g b xs (.ret t ρ) = .ok (.ret t ρ) := (rfl)
def lcL3 (g : MG) (mt : MT) (me : MEx) (vs : List Nat) (xs acc : List T) (y : T × En) : R (List T × En) := mLcLoop g mt me vs xs (acc ++ [y.1]) y.2
def lcL2 (g : MG) (mt : MT) (me : MEx) (vs : List Nat) (xs acc : List T) (r : Bool × En) : R (List T × En) := if r.1 = true then guard (decide (acc.length < sLine)) ((me r.2).bind (lcL3 g mt me vs xs acc)) else mLcLoop g mt me vs xs acc r.2
def lcL1 (g : MG) (mt : MT) (me : MEx) (vs : List Nat) (xs acc : List T) (ρ : En) : R (List T × En) := (mt ρ).bind (lcL2 g mt me vs xs acc)
@[simp] theorem e_lc0 {g : MG} {mt : MT} {me : MEx} {vs : List Nat} {acc : List T} {ρ : En} : mLcLoop g mt me vs [] acc ρ = .ok (acc, ρ) := (rfl)
theorem e_lcC {g : MG} {mt : MT} {me : MEx} {vs : List Nat} {x : T} {xs acc : List T} {ρ : En} : mLcLoop g mt me vs (x :: xs) acc ρ = (ofO (g x (wipeE ρ vs))).bind (lcL1 g mt me vs xs acc) := (rfl)
@[simp] theorem e_lcL1 {g : MG} {mt : MT} {me : MEx} {vs : List Nat} {xs acc : List T} {ρ : En} : lcL1 g mt me vs xs acc ρ = (mt ρ).bind (lcL2 g mt me vs xs acc) := (rfl)
@[simp] theorem e_lcL2 {g : MG} {mt : MT} {me : MEx} {vs : List Nat} {xs acc : List T} {b : Bool} {ρ : En} : lcL2 g mt me vs xs acc (b, ρ) = if b = true then guard (decide (acc.length < sLine)) ((me ρ).bind (lcL3 g mt me vs xs acc)) else mLcLoop g mt me vs xs acc ρ := (rfl)
@[simp] theorem e_lcL3 {g : MG} {mt : MT} {me : MEx} {vs : List Nat} {xs acc : List T} {t : T} {ρ : En} : lcL3 g mt me vs xs acc (t, ρ) = mLcLoop g mt me vs xs (acc ++ [t]) ρ := (rfl)
def methK4 (t : T) (ρ : En) : R (T × En) := .ok (t, ρ)
@[simp] theorem e_methK4 {t : T} {ρ : En} : methK4 t ρ = .ok (t, ρ) := (rfl)
def methK (i : Nat) (p : List Int) (op : List T → List T → Option (T × List T)) (r : List T × En) : R (T × En) := (ofO (lstAt p r.2[i]?)).bind fun ts => (ofO (op ts r.1)).bind fun z => (ofO (putAt i p z.2 r.2)).bind (methK4 z.1)
@[simp] theorem e_methK {i : Nat} {p : List Int} {op : List T → List T → Option (T × List T)} {us : List T} {ρ : En} : methK i p op (us, ρ) = (ofO (lstAt p ρ[i]?)).bind fun ts => (ofO (op ts us)).bind fun z => (ofO (putAt i p z.2 ρ)).bind (methK4 z.1) := (rfl)
@[simp] theorem e_mMeth {i : Nat} {mp : ML} {op : List T → List T → Option (T × List T)} {ma : MA} {ρ : En} : mMeth i mp op ma ρ = (ofO (mp ρ)).bind fun p => (ofO (lstAt p ρ[i]?)).bind fun _ => (ma ρ).bind (methK i p op) := (rfl)
@[simp] theorem e_lHere {ρ : En} : lHere ρ = some [] := (rfl)
@[simp] theorem e_lIx {mp : ML} {mi : MP} {ρ : En} : lIx mp mi ρ = (mp ρ).bind fun p => ((mi ρ).bind T.int?).bind fun j => some (p ++ [j]) := (rfl)
@[simp] theorem e_int? {j : Int} : (T.d (.int j)).int? = some j := (rfl)
@[simp] theorem e_atNil {t : T} : T.at? [] t = some t := by cases t <;> rfl
@[simp] theorem e_atOl {j : Int} {js : List Int} {ts : List T} : T.at? (j :: js) (.ol ts) = (atI ts j).bind (T.at? js) := (rfl)
@[simp] theorem e_atOt {j : Int} {js : List Int} {ts : List T} : T.at? (j :: js) (.ot ts) = (atI ts j).bind (T.at? js) := (rfl)
@[simp] theorem e_putNil {n t : T} : T.put? [] n t = some n := by cases t <;> rfl
@[simp] theorem e_putOl {j : Int} {js : List Int} {n : T} {ts : List T} : T.put? (j :: js) n (.ol ts) = (ixN ts.length j).bind fun k => (ts[k]?).bind fun t => (T.put? js n t).map fun t' => .ol (ts.set k t') := (rfl)
@[simp] theorem e_putOt {j : Int} {js : List Int} {n : T} {ts : List T} : T.put? (j :: js) n (.ot ts) = (ixN ts.length j).bind fun k => (ts[k]?).bind fun t => (T.put? js n t).map fun t' => .ot (ts.set k t') := (rfl)
@[simp] theorem e_append {ts : List T} {u : T} : opAppend ts [u] = if decide (ts.length < sLine) = true then some (.d .none, ts ++ [u]) else none := (rfl)
def extK (ts : List T) : Option (List T) → Option (T × List T)
  | some ks => if decide (ts.length + ks.length ≤ sLine) = true then some (.d .none, ts ++ ks) else none
  | none => none
@[simp] theorem e_extend {ts : List T} {u : T} : opExtend ts [u] = extK ts u.kids := (rfl)
@[simp] theorem e_extK {ts ks : List T} : extK ts (some ks) = if decide (ts.length + ks.length ≤ sLine) = true then some (.d .none, ts ++ ks) else none := (rfl)
@[simp] theorem e_insert {ts : List T} {i : Int} {u : T} : opInsert ts [.d (.int i), u] = if decide (ts.length < sLine ∧ 0 ≤ i ∧ i < 2 ^ 63) = true then some (.d .none, ts.take i.toNat ++ [u] ++ ts.drop i.toNat) else none := (rfl)
@[simp] theorem e_kidsL {ds : List PyData} : T.kids (.d (.list ds)) = some (ds.map T.d) := (rfl)
@[simp] theorem e_kidsO {ts : List T} : T.kids (.ol ts) = some ts := (rfl)
@[simp] theorem e_partsD {ds : List PyData} : T.parts (.d (.tuple ds)) = some (ds.map T.d) := (rfl)
@[simp] theorem e_partsO {ts : List T} : T.parts (.ot ts) = some ts := (rfl)
def idxK (x : T) : R RV := .ok (.v x)
@[simp] theorem e_idxK {x : T} : idxK x = .ok (.v x) := (rfl)
def idxDK (x : PyData) : R RV := .ok (.v (.d x))
@[simp] theorem e_idxDK {x : PyData} : idxDK x = .ok (.v (.d x)) := (rfl)
def slK4 (ρ : En) (z : RV) : R (T × En) := .ok (z.toT, ρ)
@[simp] theorem e_slK4 {ρ : En} {z : RV} : slK4 ρ z = .ok (z.toT, ρ) := (rfl)
@[simp] theorem e_mSl {op : T → Option Int → Option Int → Option RV} {m : MP} {ml mh : MO} {ρ : En} : mSl op m ml mh ρ = (ofO (m ρ)).bind fun t => (ofO (ml ρ)).bind fun lo => (ofO (mh ρ)).bind fun hi => (ofO (op t lo hi)).bind (slK4 ρ) := (rfl)
@[simp] theorem e_oNone {ρ : En} : oNone ρ = some none := (rfl)
@[simp] theorem e_oSome {m : MP} {ρ : En} : oSome m ρ = ((m ρ).bind T.int?).map some := (rfl)
@[simp] theorem e_slL {ds : List PyData} {lo hi : Option Int} : opSlL (.d (.list ds)) lo hi = some (.nl (cutG ds lo hi)) := (rfl)
@[simp] theorem e_slR {ds : List PyData} {lo hi : Option Int} : opSlL (.rd ds) lo hi = some (.nl (cutG ds lo hi)) := (rfl)
@[simp] theorem e_slO {ts : List T} {lo hi : Option Int} : opSlL (.ol ts) lo hi = (T.allD ts).map fun ds => .nl (cutG ds lo hi) := (rfl)
@[simp] theorem e_slT {ds : List PyData} {lo hi : Option Int} : opSlT (.d (.tuple ds)) lo hi = if isWhole ds.length lo hi = false then some (.nt (cutG ds lo hi)) else none := (rfl)
def slE3 (ρ : En) (z : RV) : R (T × En) := .ok (z.toT, ρ)
@[simp] theorem e_slE3 {ρ : En} {z : RV} : slE3 ρ z = .ok (z.toT, ρ) := (rfl)
def slEK (ml mh : MO) (r : T × En) : R (T × En) := (ofO (ml r.2)).bind fun lo => (ofO (mh r.2)).bind fun hi => (ofO (opSlA r.1 lo hi)).bind (slE3 r.2)
@[simp] theorem e_mSlE {m : MEx} {ml mh : MO} {ρ : En} : mSlE m ml mh ρ = (m ρ).bind (slEK ml mh) := (rfl)
@[simp] theorem e_slEK {ml mh : MO} {t : T} {ρ : En} : slEK ml mh (t, ρ) = (ofO (ml ρ)).bind fun lo => (ofO (mh ρ)).bind fun hi => (ofO (opSlA t lo hi)).bind (slE3 ρ) := (rfl)
@[simp] theorem e_slAd {ds : List PyData} {lo hi : Option Int} : opSlA (.d (.list ds)) lo hi = some (.nl (cutG ds lo hi)) := (rfl)
@[simp] theorem e_slAo {ts : List T} {lo hi : Option Int} : opSlA (.ol ts) lo hi = (T.allD ts).map fun ds => .nl (cutG ds lo hi) := (rfl)
@[simp] theorem e_revL {ds : List PyData} : opRevL (.d (.list ds)) = .ok (.nl ds.reverse) := (rfl)
@[simp] theorem e_ltAI {i j : Int} : opLtA (.d (.int i)) (.d (.int j)) = .ok (.v (.d (.bool (decide (i < j))))) := (rfl)
@[simp] theorem e_ltAT {a b c d : Int} : opLtA (.d (.tuple [.int a, .int b])) (.d (.tuple [.int c, .int d])) = .ok (.v (.d (.bool (HT.lexLt [a, b] [c, d])))) := (rfl)
def dropIoK (r : T × List T) : R (T × List T) := .ok (r.1, [])
@[simp] theorem e_dropIo {m : List T → R (T × List T)} {ts : List T} : dropIo m ts = (m ts).bind dropIoK := (rfl)
@[simp] theorem e_dropIoK {t : T} {os : List T} : dropIoK (t, os) = .ok (t, []) := (rfl)
/-- operations on data -/
@[simp] theorem e_addII {i j : Int} : opAdd (.d (.int i)) (.d (.int j)) = .ok (.v (.d (.int (i + j)))) := (rfl)
@[simp] theorem e_subII {i j : Int} : opSub (.d (.int i)) (.d (.int j)) = .ok (.v (.d (.int (i - j)))) := (rfl)
@[simp] theorem e_mulII {i j : Int} : opMulI (.d (.int i)) (.d (.int j)) = guard (mulOk i j) (.ok (.v (.d (.int (i * j))))) := (rfl)
@[simp] theorem e_modII {i j : Int} : opMod (.d (.int i)) (.d (.int j)) = guard (modOk i j) (.ok (.v (.d (.int (i.fmod j))))) := (rfl)
@[simp] theorem e_divII {i j : Int} : opFdiv (.d (.int i)) (.d (.int j)) = guard (divOk i j) (.ok (.v (.d (.int (i.fdiv j))))) := (rfl)
@[simp] theorem e_powII {i j : Int} : opPow (.d (.int i)) (.d (.int j)) = guard (powOk i j) (.ok (.v (.d (.int (i ^ j.toNat))))) := (rfl)
@[simp] theorem e_ltII {i j : Int} : opLt (.d (.int i)) (.d (.int j)) = .ok (.v (.d (.bool (decide (i < j))))) := (rfl)
@[simp] theorem e_leII {i j : Int} : opLe (.d (.int i)) (.d (.int j)) = .ok (.v (.d (.bool (decide (i ≤ j))))) := (rfl)
@[simp] theorem e_gtII {i j : Int} : opGt (.d (.int i)) (.d (.int j)) = .ok (.v (.d (.bool (decide (j < i))))) := (rfl)
@[simp] theorem e_geII {i j : Int} : opGe (.d (.int i)) (.d (.int j)) = .ok (.v (.d (.bool (decide (j ≤ i))))) := (rfl)
@[simp] theorem e_negI {i : Int} : opNeg (.d (.int i)) = .ok (.v (.d (.int (-i)))) := (rfl)
@[simp] theorem e_eqII {i j : Int} : opEq (.d (.int i)) (.d (.int j)) = .ok (.v (.d (.bool (decide (i = j))))) := (rfl)
@[simp] theorem e_neII {i j : Int} : opNe (.d (.int i)) (.d (.int j)) = .ok (.v (.d (.bool (!decide (i = j))))) := (rfl)
@[simp] theorem e_eqBB {i j : Bool} : opEq (.d (.bool i)) (.d (.bool j)) = .ok (.v (.d (.bool (decide (i = j))))) := (rfl)
@[simp] theorem e_neBB {i j : Bool} : opNe (.d (.bool i)) (.d (.bool j)) = .ok (.v (.d (.bool (!decide (i = j))))) := (rfl)
@[simp] theorem e_eqSS {i j : Str} : opEq (.d (.str i)) (.d (.str j)) = .ok (.v (.d (.bool (decide (i = j))))) := (rfl)
@[simp] theorem e_neSS {i j : Str} : opNe (.d (.str i)) (.d (.str j)) = .ok (.v (.d (.bool (!decide (i = j))))) := (rfl)
@[simp] theorem e_idxL {ds : List PyData} {i : Int} : opIdx (.d (.list ds)) (.d (.int i)) = (ofO (atI ds i)).bind idxDK := (rfl)
@[simp] theorem e_idxT {ds : List PyData} {i : Int} : opIdx (.d (.tuple ds)) (.d (.int i)) = (ofO (atI ds i)).bind idxDK := (rfl)
@[simp] theorem e_idxOl {ts : List T} {i : Int} : opIdx (.ol ts) (.d (.int i)) = (ofO (atI ts i)).bind idxK := (rfl)
@[simp] theorem e_idxOt {ts : List T} {i : Int} : opIdx (.ot ts) (.d (.int i)) = (ofO (atI ts i)).bind idxK := (rfl)
@[simp] theorem e_idxRd {ds : List PyData} {i : Int} : opIdx (.rd ds) (.d (.int i)) = (ofO (atI ds i)).bind idxDK := (rfl)
@[simp] theorem e_isNN : T.isNone (.d .none) = true := (rfl)
@[simp] theorem e_isN {x : T} : opIsN x (.d .none) = .ok (.v (.d (.bool x.isNone))) := (rfl)
@[simp] theorem e_notN {x : T} : opNotN x (.d .none) = .ok (.v (.d (.bool (!x.isNone)))) := (rfl)
@[simp] theorem e_nnI {i : Int} : T.isNone (.d (.int i)) = false := (rfl)
@[simp] theorem e_nnB {i : Bool} : T.isNone (.d (.bool i)) = false := (rfl)
@[simp] theorem e_nnT {i : List PyData} : T.isNone (.d (.tuple i)) = false := (rfl)
@[simp] theorem e_nnL {i : List PyData} : T.isNone (.d (.list i)) = false := (rfl)
@[simp] theorem e_opLen {t : T} : opLen [t] = (ofO t.size).bind fun n => .ok (.v (.d (.int n))) := (rfl)
@[simp] theorem e_sizeL {ds : List PyData} : T.size (.d (.list ds)) = some ds.length := (rfl)
@[simp] theorem e_sizeT {ds : List PyData} : T.size (.d (.tuple ds)) = some ds.length := (rfl)
@[simp] theorem e_sizeOl {ts : List T} : T.size (.ol ts) = some ts.length := (rfl)
@[simp] theorem e_sizeOt {ts : List T} : T.size (.ot ts) = some ts.length := (rfl)
@[simp] theorem e_sizeRd {ds : List PyData} : T.size (.rd ds) = some ds.length := (rfl)
@[simp] theorem e_abs {i : Int} : opAbs [.d (.int i)] = .ok (.v (.d (.int i.natAbs))) := by
  show R.ok (RV.v (T.d (.int (if i < 0 then -i else i)))) = _
  have : (if i < 0 then -i else i) = (i.natAbs : Int) := by split <;> omega
  rw [this]
@[simp] theorem e_int1 {i : Int} : opInt1 [.d (.int i)] = .ok (.v (.d (.int i))) := (rfl)
@[simp] theorem e_int1b {b : Bool} : opInt1 [.d (.bool b)] = .ok (.v (.d (.int (if b then 1 else 0)))) := (rfl)
@[simp] theorem e_max2 {i j : Int} : opMax2 [.d (.int i), .d (.int j)] = .ok (.v (.d (.int (if j > i then j else i)))) := (rfl)
@[simp] theorem e_min2 {i j : Int} : opMin2 [.d (.int i), .d (.int j)] = .ok (.v (.d (.int (if j < i then j else i)))) := (rfl)
@[simp] theorem e_listOf {t : T} : opListOf [t] = (ofO t.seq?).bind fun ds => .ok (.nl ds) := (rfl)
@[simp] theorem e_seqL {ds : List PyData} : T.seq? (.d (.list ds)) = some ds := (rfl)
@[simp] theorem e_seqT {ds : List PyData} : T.seq? (.d (.tuple ds)) = some ds := (rfl)
@[simp] theorem e_seqOl {ts : List T} : T.seq? (.ol ts) = T.allD ts := (rfl)
@[simp] theorem e_seqRd {ds : List PyData} : T.seq? (.rd ds) = some ds := (rfl)
@[simp] theorem e_tupleOfT {ds : List PyData} : opTupleOf [.d (.tuple ds)] = .ok (.v (.d (.tuple ds))) := (rfl)
@[simp] theorem e_tupleOfL {ds : List PyData} : opTupleOf [.d (.list ds)] = .ok (.nt ds) := (rfl)
def tryK (xs : List Str) (j : Nat) (ρ : En) (r : R Out) : R Out := match r with
  | .exc x => if xs.contains x then .ok (.next ((List.replicate ρ.length none).set j (some (.ex x)))) else .bad
  | r => r
theorem e_mTryK0 {xs : List Str} {j : Nat} {mb : MS} {ρ : En} : mTryK xs j mb ρ = tryK xs j ρ (mb ρ) := by
  unfold mTryK tryK
  cases mb ρ <;> rfl
@[simp] theorem e_mTryK {xs : List Str} {j : Nat} {mb : MS} {ρ : En} : mTryK xs j mb ρ = tryK xs j ρ (mb ρ) := e_mTryK0
@[simp] theorem e_tryOk {xs : List Str} {j : Nat} {ρ : En} {o : Out} : tryK xs j ρ (.ok o) = .ok o := (rfl)
@[simp] theorem e_tryExc {xs : List Str} {j : Nat} {ρ : En} {x : Str} : tryK xs j ρ (.exc x) = if xs.contains x then .ok (.next ((List.replicate ρ.length none).set j (some (.ex x)))) else .bad := (rfl)
theorem then_try {xs : List Str} {j : Nat} {ρ : En} {r : R Out} {P : Out → Prop} {E : Str → Prop} (h : Then r P (fun x => xs.contains x = true ∧ P (.next ((List.replicate ρ.length none).set j (some (.ex x)))))) : Then (tryK xs j ρ r) P E := by
  cases r with
  | ok o => exact h
  | bad => exact h.elim
  | exc x =>
    rw [then_excS] at h
    rw [e_tryExc, if_pos h.1]
    exact h.2
@[simp] theorem e_mRaise {x : Str} {ρ : En} : mRaise x ρ = .exc x := (rfl)
@[simp] theorem e_pIsX {tab : XTab} {m : MP} {ρ : En} : pIsX tab m ρ = (m ρ).bind fun t => (exIs tab t).map T.d := (rfl)
@[simp] theorem e_exIs {tab : XTab} {x : Str} : exIs tab (.ex x) = (tab.lookup x).map PyData.bool := (rfl)
@[simp] theorem e_mgLst {n : Nat} {r : MGs} {ds : List PyData} {ρ : En} : mgLst n r (.d (.list ds)) ρ = if ds.length = n then r (ds.map T.d) ρ else none := (rfl)
def eqNilK (ρ : En) (o : R RV) : R (T × En) := match o with
  | .ok (.v (.d (.bool b))) => .ok (.d (.bool b), ρ)
  | _ => .bad
def eqNilK0 (f : T → T → R RV) (ρ : En) (o : Option T) : R (T × En) := match o with
  | some x => eqNilK ρ (f x (.d (.list [])))
  | none => .bad
@[simp] theorem e_mEqNil {f : T → T → R RV} {mp : MP} {ρ : En} : mEqNil f mp ρ = eqNilK0 f ρ (mp ρ) := (rfl)
@[simp] theorem e_eqNilK0 {f : T → T → R RV} {x : T} {ρ : En} : eqNilK0 f ρ (some x) = eqNilK ρ (f x (.d (.list []))) := (rfl)
@[simp] theorem e_eqNilK {b : Bool} {ρ : En} : eqNilK ρ (.ok (.v (.d (.bool b)))) = .ok (.d (.bool b), ρ) := (rfl)
def tupCntK (mp : MP) (r : List T × En) : R (T × En) := match T.allD r.1, mp r.2 with
  | some ds, some (.d x) => (cntD ds x).bind fun n => .ok (.d n, r.2)
  | _, _ => .bad
def tupCntK2 (ρ : En) (od : Option (List PyData)) (o : Option T) : R (T × En) := match od, o with
  | some ds, some (.d x) => (cntD ds x).bind fun n => .ok (.d n, ρ)
  | _, _ => .bad
@[simp] theorem e_mTupCount {ma : MA} {mp : MP} {ρ : En} : mTupCount ma mp ρ = (ma ρ).bind (tupCntK mp) := (rfl)
@[simp] theorem e_tupCntK {mp : MP} {ts : List T} {ρ : En} : tupCntK mp (ts, ρ) = tupCntK2 ρ (T.allD ts) (mp ρ) := (rfl)
@[simp] theorem e_tupCntK2 {ds : List PyData} {x : PyData} {ρ : En} : tupCntK2 ρ (some ds) (some (.d x)) = (cntD ds x).bind fun n => .ok (.d n, ρ) := (rfl)
def isXTK (ρ : En) (d : PyData) : R (T × En) := .ok (.d d, ρ)
@[simp] theorem e_isXTK {ρ : En} {d : PyData} : isXTK ρ d = .ok (.d d, ρ) := (rfl)
@[simp] theorem e_mIsXT {tab : XTab} {m : MP} {ρ : En} : mIsXT tab m ρ = (ofO ((m ρ).bind (exIs tab))).bind (isXTK ρ) := (rfl)
@[simp] theorem e_isB {a b : Bool} : opIsB (.d (.bool a)) (.d (.bool b)) = .ok (.v (.d (.bool (decide (a = b))))) := (rfl)
@[simp] theorem e_notB {a b : Bool} : opNotB (.d (.bool a)) (.d (.bool b)) = .ok (.v (.d (.bool (!decide (a = b))))) := (rfl)
@[simp] theorem e_isaInt {n : String} {i : Int} : isaT n (.d (.int i)) = kitB "int" n := (rfl)
@[simp] theorem e_isaBool {n : String} {i : Bool} : isaT n (.d (.bool i)) = kitB "bool" n := (rfl)
@[simp] theorem e_isaStr {n : String} {i : Str} : isaT n (.d (.str i)) = kitB "str" n := (rfl)
@[simp] theorem e_isaTup {n : String} {i : List PyData} : isaT n (.d (.tuple i)) = kitB "tuple" n := (rfl)
@[simp] theorem e_isaLst {n : String} {i : List PyData} : isaT n (.d (.list i)) = kitB "list" n := (rfl)
@[simp] theorem e_isaNone {n : String} : isaT n (.d .none) = kitB "NoneType" n := (rfl)
@[simp] theorem e_isaOl {n : String} {i : List T} : isaT n (.ol i) = kitB "list" n := (rfl)
@[simp] theorem e_fzD {x : PyData} : T.fz (.d x) = some x := by simp [T.fz]
@[simp] theorem e_fzOl {ts : List T} : T.fz (.ol ts) = (T.fzAll ts).map PyData.list := by simp [T.fz]
@[simp] theorem e_fzOt {ts : List T} : T.fz (.ot ts) = (T.fzAll ts).map PyData.tuple := by simp [T.fz]
@[simp] theorem e_fzNil : T.fzAll [] = some [] := by simp [T.fzAll]
@[simp] theorem e_fzCons {t : T} {r : List T} : T.fzAll (t :: r) = (T.fz t).bind fun x => (T.fzAll r).map fun xs => x :: xs := by simp [T.fzAll]
@[simp] theorem e_fzMap : ∀ {ds : List PyData}, T.fzAll (ds.map T.d) = some ds
  | [] => by simp
  | x :: r => by simp [e_fzMap (ds := r)]
@[simp] theorem e_fzMapC {α : Type} {f : α → PyData} {xs : List α} : T.fzAll (xs.map (T.d ∘ f)) = some (xs.map f) := by rw [← List.map_map]; exact e_fzMap
@[simp] theorem e_fzMapL {α : Type} {f : α → PyData} {xs : List α} : T.fzAll (xs.map fun x => T.d (f x)) = some (xs.map f) := e_fzMapC
@[simp] theorem e_toDD {x : PyData} : T.toD (.d x) = some x := by simp [T.toD]
@[simp] theorem e_toDOl {ts : List T} : T.toD (.ol ts) = (T.toDAll ts).map PyData.list := by simp [T.toD]
@[simp] theorem e_toDOt {ts : List T} : T.toD (.ot ts) = (T.toDAll ts).map PyData.tuple := by simp [T.toD]
@[simp] theorem e_toDNil : T.toDAll [] = some [] := by simp [T.toDAll]
@[simp] theorem e_toDCons {t : T} {r : List T} : T.toDAll (t :: r) = (T.toD t).bind fun x => (T.toDAll r).map fun xs => x :: xs := by simp [T.toDAll]
@[simp] theorem e_toDMap : ∀ {ds : List PyData}, T.toDAll (ds.map T.d) = some ds
  | [] => by simp
  | x :: r => by simp [e_toDMap (ds := r)]
@[simp] theorem e_toDMapC {α : Type} {f : α → PyData} {xs : List α} : T.toDAll (xs.map (T.d ∘ f)) = some (xs.map f) := by rw [← List.map_map]; exact e_toDMap
@[simp] theorem e_toDMapL {α : Type} {f : α → PyData} {xs : List α} : T.toDAll (xs.map fun x => T.d (f x)) = some (xs.map f) := e_toDMapC
@[simp] theorem e_allDNil : T.allD [] = some [] := (rfl)
@[simp] theorem e_allDCons {x : PyData} {r : List T} : T.allD (.d x :: r) = (T.allD r).map fun xs => x :: xs := (rfl)
@[simp] theorem e_allDOl {x : List T} {r : List T} : T.allD (.ol x :: r) = none := (rfl)
@[simp] theorem e_allDMapC {α : Type} {f : α → PyData} {xs : List α} : T.allD (xs.map (T.d ∘ f)) = some (xs.map f) := by rw [← List.map_map]; exact allD_map _
@[simp] theorem e_allDMapL {α : Type} {f : α → PyData} {xs : List α} : T.allD (xs.map fun x => T.d (f x)) = some (xs.map f) := e_allDMapC
@[simp] theorem e_allDMap {ds : List PyData} : T.allD (ds.map T.d) = some ds := allD_map ds
@[simp] theorem e_lstL {ds : List PyData} : T.lst? (.d (.list ds)) = some ds := (rfl)
@[simp] theorem e_lstO {ts : List T} : T.lst? (.ol ts) = T.allD ts := (rfl)
@[simp] theorem e_wipe0 {ρ : Env} : wipeE ρ [] = ρ := (rfl)
@[simp] theorem e_wipe1 {ρ : Env} {v : Nat} {vs : List Nat} : wipeE ρ (v :: vs) = (wipeE ρ vs).set v none := (rfl)
theorem e_ixN {m n : Nat} (h : n < m) : ixN m (n : Int) = some n := by
  unfold ixN
  rw [if_pos (by omega), if_pos (by omega)]
  simp
theorem e_atIn {α : Type} {xs : List α} {n : Nat} : atI xs (n : Int) = xs[n]? := by
  unfold atI
  by_cases h : n < xs.length
  · rw [e_ixN h]; rfl
  · rw [List.getElem?_eq_none (by omega)]
    unfold ixN
    rw [if_pos (by omega), if_neg (by omega)]
    rfl
@[simp] theorem e_atI0 {α : Type} {x : α} {xs : List α} : atI (x :: xs) 0 = some x := (e_atIn (n := 0)).trans rfl
@[simp] theorem e_atI1 {α : Type} {x y : α} {xs : List α} : atI (x :: y :: xs) 1 = some y := (e_atIn (n := 1)).trans rfl
@[simp] theorem e_atI2 {α : Type} {x y z : α} {xs : List α} : atI (x :: y :: z :: xs) 2 = some z := (e_atIn (n := 2)).trans rfl
@[simp] theorem e_atI3 {α : Type} {x y z u : α} {xs : List α} : atI (x :: y :: z :: u :: xs) 3 = some u := (e_atIn (n := 3)).trans rfl
end L3
namespace L3
open PySem
/-- what a law is to tell -/
def Yes (r : T × List T) : Prop := r.1 = .d (.bool true)
def NoE (_ : Str) : Prop := False
@[simp] theorem e_yes {os : List T} : Yes (.d (.bool true), os) := rfl
theorem of_yes {r : R (T × List T)} (h : Then r Yes NoE) : Then r (fun r => r.1 = .d (.bool true)) (fun _ => False) := h
end L3
/-! L3n -/
/-! L3n: loops, equality of data, sizes, fractions. -/
namespace L3
open PySem PySem.Spec PyProof.Rows L2

/-! ### while -/
theorem mWhile_of {mt : MT} {mb : MS} {n : Nat} {ρ : Env} (h : mWhileN mt mb n ρ ≠ .bad) : mWhile mt mb ρ = mWhileN mt mb n ρ := by
  have hx : ∃ n, mWhileN mt mb n ρ ≠ .bad := ⟨n, h⟩
  unfold mWhile
  rw [dif_pos hx]
  have hc := Classical.choose_spec hx
  rcases Nat.le_total n (Classical.choose hx) with l | l
  · exact mWhileN_le h l
  · exact (mWhileN_le hc l).symm
theorem mWhile_bad {mt : MT} {mb : MS} {ρ : Env} (h : ∀ n, mWhileN mt mb n ρ = .bad) : mWhile mt mb ρ = .bad := by
  unfold mWhile
  rw [dif_neg]
  rintro ⟨n, e⟩
  exact e (h n)
noncomputable abbrev wNext (mt : MT) (mb : MS) : Out → R Out := fun o => match o with
  | .next ρ2 => mWhile mt mb ρ2
  | .cont ρ2 => mWhile mt mb ρ2
  | .brk ρ2 => .ok (.next ρ2)
  | .ret t ρ2 => .ok (.ret t ρ2)
theorem mWhile_eq {mt : MT} {mb : MS} {ρ : Env} : mWhile mt mb ρ = (mt ρ).bind fun r => if r.1 = true then (mb r.2).bind (wNext mt mb) else .ok (.next r.2) := by
  have step : ∀ n, mWhileN mt mb (n + 1) ρ = (mt ρ).bind fun r => if r.1 = true then (mb r.2).bind (fun o => match o with
    | .next ρ2 => mWhileN mt mb n ρ2
    | .cont ρ2 => mWhileN mt mb n ρ2
    | .brk ρ2 => .ok (.next ρ2)
    | .ret t ρ2 => .ok (.ret t ρ2)) else .ok (.next r.2) := fun n => rfl
  cases e : mt ρ with
  | exc x =>
    rw [mWhile_of (n := 1) (by rw [step, e]; exact fun z => nomatch z), step, e]; rfl
  | bad => exact mWhile_bad fun n => (match n with
      | 0 => rfl
      | n + 1 => by rw [step, e]; rfl)
  | ok r =>
    show _ = if r.1 = true then _ else _
    by_cases hr : r.1 = true
    · rw [if_pos hr]
      have step2 : ∀ n, mWhileN mt mb (n + 1) ρ = (mb r.2).bind (fun o => match o with
        | .next ρ2 => mWhileN mt mb n ρ2
        | .cont ρ2 => mWhileN mt mb n ρ2
        | .brk ρ2 => .ok (.next ρ2)
        | .ret t ρ2 => .ok (.ret t ρ2)) := fun n => by rw [step, e]; show (if r.1 = true then _ else _) = _; rw [if_pos hr]
      cases e2 : mb r.2 with
      | exc x => rw [mWhile_of (n := 1) (by rw [step2, e2]; exact fun z => nomatch z), step2, e2]; rfl
      | bad => exact mWhile_bad fun n => (match n with
          | 0 => rfl
          | n + 1 => by rw [step2, e2]; rfl)
      | ok o =>
        have go : ∀ ρ2, (∀ n, mWhileN mt mb (n + 1) ρ = mWhileN mt mb n ρ2) → mWhile mt mb ρ = mWhile mt mb ρ2 := fun ρ2 h => by
          by_cases hx : ∃ n, mWhileN mt mb n ρ2 ≠ .bad
          · obtain ⟨n, hn⟩ := hx
            rw [mWhile_of hn, mWhile_of (n := n + 1) (by rw [h]; exact hn), h]
          · have hb : ∀ n, mWhileN mt mb n ρ2 = .bad := fun n => Classical.byContradiction fun z => hx ⟨n, z⟩
            rw [mWhile_bad hb]
            exact mWhile_bad fun n => (match n with
              | 0 => rfl
              | n + 1 => by rw [h]; exact hb n)
        cases o with
        | next ρ2 => exact go ρ2 fun n => by rw [step2, e2]; rfl
        | cont ρ2 => exact go ρ2 fun n => by rw [step2, e2]; rfl
        | brk ρ2 => rw [mWhile_of (n := 1) (by rw [step2, e2]; exact fun z => nomatch z), step2, e2]; rfl
        | ret t ρ2 => rw [mWhile_of (n := 1) (by rw [step2, e2]; exact fun z => nomatch z), step2, e2]; rfl
    · rw [if_neg hr, mWhile_of (n := 1) (by rw [step, e]; show (if r.1 = true then _ else _) ≠ _; rw [if_neg hr]; exact fun z => nomatch z), step, e]
      show (if r.1 = true then _ else _) = _
      rw [if_neg hr]

/-! ### for, comprehensions -/
def turnTo (I : L3.Env → Prop) (Q : Out → Prop) : Out → Prop
  | .next ρ => I ρ
  | .cont ρ => I ρ
  | .brk ρ => Q (.next ρ)
  | .ret t ρ => Q (.ret t ρ)
@[simp] theorem t_next {I : L3.Env → Prop} {Q : Out → Prop} {ρ : L3.Env} : turnTo I Q (.next ρ) ↔ I ρ := (Iff.rfl)
@[simp] theorem t_cont {I : L3.Env → Prop} {Q : Out → Prop} {ρ : L3.Env} : turnTo I Q (.cont ρ) ↔ I ρ := (Iff.rfl)
@[simp] theorem t_brk {I : L3.Env → Prop} {Q : Out → Prop} {ρ : L3.Env} : turnTo I Q (.brk ρ) ↔ Q (.next ρ) := (Iff.rfl)
@[simp] theorem t_ret {I : L3.Env → Prop} {Q : Out → Prop} {t : T} {ρ : L3.Env} : turnTo I Q (.ret t ρ) ↔ Q (.ret t ρ) := (Iff.rfl)
/-- a loop by what holds ahead of the i-th turn -/
theorem loop_ix {g : MG} {b : MS} {Q : Out → Prop} {E : Str → Prop} (I : Nat → Env → Prop) {items : List T} {ρ : Env} (h0 : I 0 ρ) (hend : ∀ ρ, I items.length ρ → Q (.next ρ))
    (hstep : ∀ i x ρ, items[i]? = some x → I i ρ → ∃ ρ1, g x ρ = some ρ1 ∧ Then (b ρ1) (turnTo (I (i + 1)) Q) E) :
    Then (mLoop g b items ρ) Q E := by
  suffices ∀ k i ρ, i + k = items.length → I i ρ → Then (mLoop g b (items.drop i) ρ) Q E by
    have := this items.length 0 ρ (by omega) h0
    rwa [List.drop_zero] at this
  intro k
  induction k with
  | zero =>
    intro i ρ hi h
    have : i = items.length := by omega
    subst this
    rw [List.drop_length]
    exact hend ρ h
  | succ k ih =>
    intro i ρ hi h
    have hlt : i < items.length := by omega
    rw [List.drop_eq_getElem_cons hlt]
    obtain ⟨ρ1, e, t⟩ := hstep i _ ρ (List.getElem?_eq_getElem hlt) h
    show Then ((ofO (g items[i] ρ)).bind _) Q E
    rw [e]
    show Then ((b ρ1).bind _) Q E
    refine then_bindI t fun o ho => ?_
    cases o with
    | next ρ2 => exact ih (i + 1) ρ2 (by omega) ho
    | cont ρ2 => exact ih (i + 1) ρ2 (by omega) ho
    | brk ρ2 => exact ho
    | ret t ρ2 => exact ho
theorem lc_ix {g : MG} {mt : MT} {me : MEx} {vs : List Nat} {Q : List T × Env → Prop} {E : Str → Prop} (I : Nat → List T → Env → Prop) {items : List T} {ρ : Env} (h0 : I 0 [] ρ) (hend : ∀ acc ρ, I items.length acc ρ → Q (acc, ρ)) (hsz : ∀ i acc ρ, I i acc ρ → i < items.length → acc.length < sLine)
    (hstep : ∀ i x acc ρ, items[i]? = some x → I i acc ρ → ∃ ρ1, g x (wipeE ρ vs) = some ρ1 ∧ Then (mt ρ1) (fun r => if r.1 = true then Then (me r.2) (fun y => I (i + 1) (acc ++ [y.1]) y.2) E else I (i + 1) acc r.2) E) :
    Then (mLcLoop g mt me vs items [] ρ) Q E := by
  suffices ∀ k i acc ρ, i + k = items.length → I i acc ρ → Then (mLcLoop g mt me vs (items.drop i) acc ρ) Q E by
    have := this items.length 0 [] ρ (by omega) h0
    rwa [List.drop_zero] at this
  intro k
  induction k with
  | zero =>
    intro i acc ρ hi h
    have : i = items.length := by omega
    subst this
    rw [List.drop_length]
    exact hend acc ρ h
  | succ k ih =>
    intro i acc ρ hi h
    have hlt : i < items.length := by omega
    rw [List.drop_eq_getElem_cons hlt]
    obtain ⟨ρ1, e, t⟩ := hstep i _ acc ρ (List.getElem?_eq_getElem hlt) h
    show Then ((ofO (g items[i] (wipeE ρ vs))).bind _) Q E
    rw [e]
    show Then ((mt ρ1).bind _) Q E
    refine then_bindI t fun r hr => ?_
    by_cases hb : r.1 = true
    · rw [if_pos hb] at hr ⊢
      refine then_guardI (decide_eq_true (hsz i acc ρ h hlt)) (then_bindI hr fun y hy => ?_)
      exact ih (i + 1) _ y.2 (by omega) hy
    · rw [if_neg hb] at hr ⊢
      exact ih (i + 1) acc r.2 (by omega) hr
/-- a comprehension that changes nothing: W, the slots behind wiping -/
theorem lc_map {g : MG} {mt : MT} {me : MEx} {vs : List Nat} {W : Env} (f : T → Option T) {items : List T} (hlen : items.length ≤ 10000)
    (h : ∀ x ∈ items, ∃ ρ1 b ρ2, g x W = some ρ1 ∧ mt ρ1 = .ok (b, ρ2) ∧ (b = false → f x = none ∧ wipeE ρ2 vs = W) ∧ (b = true → ∃ y ρ3, me ρ2 = .ok (y, ρ3) ∧ f x = some y ∧ wipeE ρ3 vs = W)) {ρ : Env} (hρ : wipeE ρ vs = W) :
    ∃ ρ', mLcLoop g mt me vs items [] ρ = .ok (items.filterMap f, ρ') ∧ wipeE ρ' vs = W := by
  have key : ∀ (items : List T) (acc : List T) (ρ : Env), acc.length + items.length ≤ 10000 → wipeE ρ vs = W → (∀ x ∈ items, ∃ ρ1 b ρ2, g x W = some ρ1 ∧ mt ρ1 = .ok (b, ρ2) ∧ (b = false → f x = none ∧ wipeE ρ2 vs = W) ∧ (b = true → ∃ y ρ3, me ρ2 = .ok (y, ρ3) ∧ f x = some y ∧ wipeE ρ3 vs = W)) →
      ∃ ρ', mLcLoop g mt me vs items acc ρ = .ok (acc ++ items.filterMap f, ρ') ∧ wipeE ρ' vs = W := by
    intro items
    induction items with
    | nil => intro acc ρ _ hρ _; exact ⟨ρ, by simp [mLcLoop], hρ⟩
    | cons x xs ih =>
      intro acc ρ hl hρ h
      obtain ⟨ρ1, b, ρ2, e1, e2, h1, h2⟩ := h x List.mem_cons_self
      have hl' : acc.length + (xs.length + 1) ≤ 10000 := by simpa using hl
      cases b with
      | false =>
        obtain ⟨e3, e4⟩ := h1 rfl
        obtain ⟨ρ', e5, e6⟩ := ih acc ρ2 (by omega) e4 fun y hy => h y (List.mem_cons_of_mem _ hy)
        refine ⟨ρ', ?_, e6⟩
        unfold mLcLoop
        rw [hρ, e1]
        simp only [ofO_some, bind_okS, e2, Bool.false_eq_true, if_false]
        rw [e5, List.filterMap_cons, e3]
      | true =>
        obtain ⟨y, ρ3, e3, e4, e4'⟩ := h2 rfl
        obtain ⟨ρ', e5, e6⟩ := ih (acc ++ [y]) ρ3 (by simp; omega) e4' fun y hy => h y (List.mem_cons_of_mem _ hy)
        refine ⟨ρ', ?_, e6⟩
        unfold mLcLoop
        rw [hρ, e1]
        have hs : decide (acc.length < sLine) = true := decide_eq_true (by unfold sLine; omega)
        simp only [ofO_some, bind_okS, e2, if_true, e3, hs, guard_t]
        rw [e5, List.filterMap_cons, e4, List.append_assoc]
        rfl
  have := key items [] ρ (by simpa using hlen) hρ h
  simpa using this
theorem rangeItems_get {lo hi : Int} {i : Nat} {x : T} (h : (rangeItems lo hi)[i]? = some x) : i < (hi - lo).toNat ∧ x = .d (.int (lo + (i : Nat))) := by
  unfold rangeItems at h
  rw [List.getElem?_map] at h
  obtain ⟨z, e1, rfl⟩ := Option.map_eq_some_iff.mp h
  obtain ⟨h1, h2⟩ := List.getElem?_eq_some_iff.mp e1
  have : z = i := by simpa using h2.symm
  subst this
  exact ⟨by simpa using h1, rfl⟩
@[simp] theorem rangeItems_len {lo hi : Int} : (rangeItems lo hi).length = (hi - lo).toNat := by simp [rangeItems]

/-! ### equality of plain data -/
noncomputable instance decD : DecidableEq PyData := fun a b => Classical.propDecidable (a = b)
mutual
def plk : Nat → PyData → Bool
  | _, .int _ => true
  | _, .none => true
  | _, .str s => PyData.strOk s
  | n + 1, .list xs => plkAll n xs
  | n + 1, .tuple xs => plkAll n xs
  | _, _ => false
def plkAll : Nat → List PyData → Bool
  | _, [] => true
  | n, x :: xs => plk n x && plkAll n xs
end
mutual
theorem plk_eqv : ∀ (n m : Nat) (x y : PyData), plk n x = true → plk m y = true → PyData.eqv x y = decide (x = y)
  | _, _, .int i, .int j, _, _ => by rw [Bool.eq_iff_iff]; simp [PyData.eqv]
  | _, _, .str i, .str j, _, _ => by rw [Bool.eq_iff_iff]; simp [PyData.eqv]
  | _, _, .none, .none, _, _ => by simp [PyData.eqv]
  | n + 1, m + 1, .list xs, .list ys, h1, h2 => by
    have := plkAll_eqv n m xs ys (by simpa [plk] using h1) (by simpa [plk] using h2)
    simp [PyData.eqv, this]
  | n + 1, m + 1, .tuple xs, .tuple ys, h1, h2 => by
    have := plkAll_eqv n m xs ys (by simpa [plk] using h1) (by simpa [plk] using h2)
    simp [PyData.eqv, this]
  | 0, _, .list _, _, h1, _ => by simp [plk] at h1
  | 0, _, .tuple _, _, h1, _ => by simp [plk] at h1
  | _, 0, _, .list _, _, h2 => by simp [plk] at h2
  | _, 0, _, .tuple _, _, h2 => by simp [plk] at h2
  | 0, _, .bool _, _, h1, _ => by simp [plk] at h1
  | _ + 1, _, .bool _, _, h1, _ => by simp [plk] at h1
  | 0, _, .dict _, _, h1, _ => by simp [plk] at h1
  | _ + 1, _, .dict _, _, h1, _ => by simp [plk] at h1
  | _, 0, _, .bool _, _, h1 => by simp [plk] at h1
  | _, _ + 1, _, .bool _, _, h1 => by simp [plk] at h1
  | _, 0, _, .dict _, _, h1 => by simp [plk] at h1
  | _, _ + 1, _, .dict _, _, h1 => by simp [plk] at h1
  | _, _, .int _, .str _, _, _ => by simp [PyData.eqv]
  | _, _, .int _, .none, _, _ => by simp [PyData.eqv]
  | _, _ + 1, .int _, .list _, _, _ => by simp [PyData.eqv]
  | _, _ + 1, .int _, .tuple _, _, _ => by simp [PyData.eqv]
  | _, _, .str _, .int _, _, _ => by simp [PyData.eqv]
  | _, _, .str _, .none, _, _ => by simp [PyData.eqv]
  | _, _ + 1, .str _, .list _, _, _ => by simp [PyData.eqv]
  | _, _ + 1, .str _, .tuple _, _, _ => by simp [PyData.eqv]
  | _, _, .none, .int _, _, _ => by simp [PyData.eqv]
  | _, _, .none, .str _, _, _ => by simp [PyData.eqv]
  | _, _ + 1, .none, .list _, _, _ => by simp [PyData.eqv]
  | _, _ + 1, .none, .tuple _, _, _ => by simp [PyData.eqv]
  | _ + 1, _, .list _, .int _, _, _ => by simp [PyData.eqv]
  | _ + 1, _, .list _, .str _, _, _ => by simp [PyData.eqv]
  | _ + 1, _, .list _, .none, _, _ => by simp [PyData.eqv]
  | _ + 1, _ + 1, .list _, .tuple _, _, _ => by simp [PyData.eqv]
  | _ + 1, _, .tuple _, .int _, _, _ => by simp [PyData.eqv]
  | _ + 1, _, .tuple _, .str _, _, _ => by simp [PyData.eqv]
  | _ + 1, _, .tuple _, .none, _, _ => by simp [PyData.eqv]
  | _ + 1, _ + 1, .tuple _, .list _, _, _ => by simp [PyData.eqv]
theorem plkAll_eqv : ∀ (n m : Nat) (xs ys : List PyData), plkAll n xs = true → plkAll m ys = true → PyData.eqvAll xs ys = decide (xs = ys)
  | _, _, [], [], _, _ => by simp [PyData.eqvAll]
  | _, _, [], _ :: _, _, _ => by simp [PyData.eqvAll]
  | _, _, _ :: _, [], _, _ => by simp [PyData.eqvAll]
  | n, m, x :: xs, y :: ys, h1, h2 => by
    simp only [plkAll, Bool.and_eq_true] at h1 h2
    have a := plk_eqv n m x y h1.1 h2.1
    have b := plkAll_eqv n m xs ys h1.2 h2.2
    simp [PyData.eqvAll, a, b]
end
mutual
theorem plk_lay : ∀ (n : Nat) (x : PyData), plk n x = true → x.canLay0 = true ∧ x.depth ≤ n
  | _, .int _, _ => by simp [PyData.canLay0, PyData.depth]
  | _, .none, _ => by simp [PyData.canLay0, PyData.depth]
  | _, .str s, h => ⟨by simpa [plk, PyData.canLay0] using h, by simp [PyData.depth]⟩
  | n + 1, .list xs, h => by
    have := plkAll_lay n xs (by simpa [plk] using h)
    simp only [PyData.canLay0, PyData.depth]
    exact ⟨this.1, by omega⟩
  | n + 1, .tuple xs, h => by
    have := plkAll_lay n xs (by simpa [plk] using h)
    simp only [PyData.canLay0, PyData.depth]
    exact ⟨this.1, by omega⟩
  | 0, .list _, h1 => by simp [plk] at h1
  | 0, .tuple _, h1 => by simp [plk] at h1
  | 0, .bool _, h1 => by simp [plk] at h1
  | _ + 1, .bool _, h1 => by simp [plk] at h1
  | 0, .dict _, h1 => by simp [plk] at h1
  | _ + 1, .dict _, h1 => by simp [plk] at h1
theorem plkAll_lay : ∀ (n : Nat) (xs : List PyData), plkAll n xs = true → PyData.canLayAll0 xs = true ∧ PyData.depthAll xs ≤ n
  | _, [], _ => by simp [PyData.canLayAll0, PyData.depthAll]
  | n, x :: xs, h => by
    simp only [plkAll, Bool.and_eq_true] at h
    have a := plk_lay n x h.1
    have b := plkAll_lay n xs h.2
    simp only [PyData.canLayAll0, PyData.depthAll, Bool.and_eq_true]
    exact ⟨⟨a.1, b.1⟩, by omega⟩
end
def pl (x : PyData) : Prop := plk 60 x = true
theorem pl_shaped {x : PyData} (h : pl x) : SeqAt.shaped x = true := by
  have := plk_lay 60 x h
  unfold SeqAt.shaped
  rw [this.1]
  simp only [Bool.true_and]
  exact decide_eq_true (Nat.le_trans this.2 (by decide))
theorem eqD_pl {x y : T} {a b : PyData} (hx : x.toD = some a) (hy : y.toD = some b) (h1 : pl a) (h2 : pl b) : eqD x y = .ok (decide (a = b)) := by
  unfold eqD
  rw [hx, hy]
  dsimp only
  cases e : eqS a b with
  | some k =>
    dsimp only
    unfold eqS at e
    split at e <;> first | (cases e; simp) | cases e
  | none =>
    dsimp only
    rw [pl_shaped h1, pl_shaped h2, plk_eqv 60 60 a b h1 h2]
    rfl
theorem opEq_pl {x y : T} {a b : PyData} (hx : x.toD = some a) (hy : y.toD = some b) (h1 : pl a) (h2 : pl b) : opEq x y = .ok (.v (.d (.bool (decide (a = b))))) := by
  unfold opEq
  rw [eqD_pl hx hy h1 h2]
  rfl
theorem opNe_pl {x y : T} {a b : PyData} (hx : x.toD = some a) (hy : y.toD = some b) (h1 : pl a) (h2 : pl b) : opNe x y = .ok (.v (.d (.bool (!decide (a = b))))) := by
  unfold opNe
  rw [eqD_pl hx hy h1 h2]
  rfl
theorem plkAll_map {α : Type} {n : Nat} {f : α → PyData} {xs : List α} (h : ∀ x ∈ xs, plk n (f x) = true) : plkAll n (xs.map f) = true := by
  induction xs with
  | nil => rfl
  | cons x r ih =>
    simp only [List.map_cons, plkAll, Bool.and_eq_true]
    exact ⟨h x List.mem_cons_self, ih fun y hy => h y (List.mem_cons_of_mem _ hy)⟩

/-! ### sizes -/
theorem mulOk_bits {i j : Int} {a b : Nat} (ha : i.natAbs < 2 ^ a) (hb : j.natAbs < 2 ^ b) (h : a + b ≤ 900000) : mulOk i j = true := by
  refine mulOk_iff.mpr (CMulW.ok ?_)
  have h1 : i.natAbs.log2 ≤ a := by
    by_cases z : i.natAbs = 0
    · rw [z]; simp
    · exact Nat.le_of_lt ((Nat.log2_lt z).mpr ha)
  have h2 : j.natAbs.log2 ≤ b := by
    by_cases z : j.natAbs = 0
    · rw [z]; simp
    · exact Nat.le_of_lt ((Nat.log2_lt z).mpr hb)
  show i.natAbs.log2 + j.natAbs.log2 < 1000000
  omega
theorem bits64 {j : Int} (h : j.natAbs < 2 ^ 64) : Builtin.Int.intBits j ≤ 64 := by
  unfold Builtin.Int.intBits
  split
  · omega
  · rename_i z
    have : j.natAbs ≠ 0 := by
      intro e
      have : j = 0 := by omega
      simp [this] at z
    have := (Nat.log2_lt this).mpr h
    omega
theorem mulOk_r {i j : Int} (h : j.natAbs < 2 ^ 64) : mulOk i j = true := by
  unfold mulOk shortFactorBits
  have := bits64 h
  simp; omega
theorem mulOk_l {i j : Int} (h : i.natAbs < 2 ^ 64) : mulOk i j = true := by
  unfold mulOk shortFactorBits
  have := bits64 h
  simp; omega
theorem modOk_of {i j : Int} (h : j ≠ 0) : modOk i j = true := decide_eq_true h
theorem divOk_of {i j : Int} (h : j ≠ 0) (hb : j.natAbs < 2 ^ 9000) : divOk i j = true := by
  unfold divOk
  rw [decide_eq_true h, Bool.true_and]
  have h0 : j.natAbs ≠ 0 := by omega
  have := (Nat.log2_lt h0).mpr hb
  have e : Builtin.divisionGoesByPylong i j = false := PyProof.noPylong_of_log2 this
  rw [e]
  rfl
theorem powOk_of {i j : Int} (h0 : 0 ≤ j) (h1 : j ≤ 1000000) (h2 : i.natAbs < 2 ^ 64) : powOk i j = true := decide_eq_true ⟨h0, h1, h2⟩
end L3
namespace L3
open PySem
/-- a comprehension over data that changes no slot but its own -/
theorem lc1 {α : Type} {v : Nat} {me : MEx} {xs : List α} {enc out : α → PyData} {W ρ : L3.Env} (hlen : xs.length ≤ 10000) (hρ : ρ.set v none = W) (hW : W.set v none = W)
    (h : ∀ x ∈ xs, me (W.set v (some (T.d (enc x)))) = .ok (T.d (out x), W.set v (some (T.d (enc x))))) :
    ∃ ρ', mLcLoop (mgName v) mtYes me [v] (xs.map (T.d ∘ enc)) [] ρ = .ok (xs.map (T.d ∘ out), ρ') ∧ ρ'.set v none = W := by
  have key : ∀ (xs : List α) (acc : List T) (ρ : L3.Env), acc.length + xs.length ≤ 10000 → ρ.set v none = W → (∀ x ∈ xs, me (W.set v (some (T.d (enc x)))) = .ok (T.d (out x), W.set v (some (T.d (enc x))))) →
      ∃ ρ', mLcLoop (mgName v) mtYes me [v] (xs.map (T.d ∘ enc)) acc ρ = .ok (acc ++ xs.map (T.d ∘ out), ρ') ∧ ρ'.set v none = W := by
    intro xs
    induction xs with
    | nil => intro acc ρ _ hρ _; exact ⟨ρ, by simp, hρ⟩
    | cons x xs ih =>
      intro acc ρ hl hρ h
      have hl' : acc.length + (xs.length + 1) ≤ 10000 := by simpa using hl
      have hs : decide (acc.length < sLine) = true := decide_eq_true (by unfold sLine; omega)
      obtain ⟨ρ', e1, e2⟩ := ih (acc ++ [T.d (out x)]) (W.set v (some (T.d (enc x)))) (by simp; omega) (by rw [List.set_set]; exact hW) fun y hy => h y (List.mem_cons_of_mem _ hy)
      refine ⟨ρ', ?_, e2⟩
      rw [List.map_cons, e_lcC]
      have hw : wipeE ρ [v] = W := hρ
      rw [hw]
      simp only [Function.comp_apply, e_mgName, ofO_some, bind_okS, e_lcL1, e_mtYes, e_lcL2, if_true, hs, guard_t, h x List.mem_cons_self, e_lcL3]
      rw [e1]
      simp
  have := key xs [] ρ (by simpa using hlen) hρ h
  simpa using this
/-- the same with a test -/
theorem lc1f {α : Type} {v : Nat} {mt : MT} {me : MEx} {xs : List α} {enc out : α → PyData} {p : α → Bool} {W ρ : L3.Env} (hlen : xs.length ≤ 10000) (hρ : ρ.set v none = W) (hW : W.set v none = W)
    (ht : ∀ x ∈ xs, mt (W.set v (some (T.d (enc x)))) = .ok (p x, W.set v (some (T.d (enc x)))))
    (h : ∀ x ∈ xs, p x = true → me (W.set v (some (T.d (enc x)))) = .ok (T.d (out x), W.set v (some (T.d (enc x))))) :
    ∃ ρ', mLcLoop (mgName v) mt me [v] (xs.map (T.d ∘ enc)) [] ρ = .ok ((xs.filter p).map (T.d ∘ out), ρ') ∧ ρ'.set v none = W := by
  have key : ∀ (xs : List α) (acc : List T) (ρ : L3.Env), acc.length + xs.length ≤ 10000 → ρ.set v none = W → (∀ x ∈ xs, mt (W.set v (some (T.d (enc x)))) = .ok (p x, W.set v (some (T.d (enc x))))) → (∀ x ∈ xs, p x = true → me (W.set v (some (T.d (enc x)))) = .ok (T.d (out x), W.set v (some (T.d (enc x))))) →
      ∃ ρ', mLcLoop (mgName v) mt me [v] (xs.map (T.d ∘ enc)) acc ρ = .ok (acc ++ (xs.filter p).map (T.d ∘ out), ρ') ∧ ρ'.set v none = W := by
    intro xs
    induction xs with
    | nil => intro acc ρ _ hρ _ _; exact ⟨ρ, by simp, hρ⟩
    | cons x xs ih =>
      intro acc ρ hl hρ ht h
      have hl' : acc.length + (xs.length + 1) ≤ 10000 := by simpa using hl
      have hs : decide (acc.length < sLine) = true := decide_eq_true (by unfold sLine; omega)
      have hW2 : (W.set v (some (T.d (enc x)))).set v none = W := by rw [List.set_set]; exact hW
      have hw : wipeE ρ [v] = W := hρ
      rw [List.map_cons, e_lcC, hw]
      cases hp : p x with
      | true =>
        obtain ⟨ρ', e1, e2⟩ := ih (acc ++ [T.d (out x)]) (W.set v (some (T.d (enc x)))) (by simp; omega) hW2 (fun y hy => ht y (List.mem_cons_of_mem _ hy)) fun y hy => h y (List.mem_cons_of_mem _ hy)
        refine ⟨ρ', ?_, e2⟩
        simp only [Function.comp_apply, e_mgName, ofO_some, bind_okS, e_lcL1, ht x List.mem_cons_self, hp, e_lcL2, if_true, hs, guard_t, h x List.mem_cons_self hp, e_lcL3]
        rw [e1, List.filter_cons, if_pos hp]
        simp
      | false =>
        obtain ⟨ρ', e1, e2⟩ := ih acc (W.set v (some (T.d (enc x)))) (by omega) hW2 (fun y hy => ht y (List.mem_cons_of_mem _ hy)) fun y hy => h y (List.mem_cons_of_mem _ hy)
        refine ⟨ρ', ?_, e2⟩
        simp only [Function.comp_apply, e_mgName, ofO_some, bind_okS, e_lcL1, ht x List.mem_cons_self, hp, e_lcL2, Bool.false_eq_true, if_false]
        rw [e1, List.filter_cons, if_neg (by rw [hp]; decide)]
  have := key xs [] ρ (by simpa using hlen) hρ ht h
  simpa using this
end L3
/-! L3o -/
/-! L3o: fractions as data. -/
namespace L3
open PySem PySem.Spec PyProof.Rows L2

/-! ### fractions -/
def fr (q : Rat) : PyData := .tuple [.int q.num, .int q.den]
def frs (qs : List Rat) : PyData := .list (qs.map fr)
theorem fr_def {q : Rat} : fr q = .tuple [.int q.num, .int q.den] := rfl
theorem fr_inj {q r : Rat} (h : fr q = fr r) : q = r := by
  unfold fr at h
  injection h with h
  injection h with h1 h2
  injection h2 with h2 _
  injection h1 with h1
  injection h2 with h2
  exact Rat.ext h1 (by omega)
theorem fr_eq {q r : Rat} : fr q = fr r ↔ q = r := ⟨fr_inj, fun h => by rw [h]⟩
theorem map_fr_inj : ∀ {xs ys : List Rat}, xs.map fr = ys.map fr → xs = ys
  | [], [], _ => rfl
  | [], _ :: _, h => by simp at h
  | _ :: _, [], h => by simp at h
  | x :: xs, y :: ys, h => by
    simp only [List.map_cons, List.cons.injEq] at h
    rw [fr_inj h.1, map_fr_inj h.2]
theorem frs_eq {q r : List Rat} : frs q = frs r ↔ q = r := ⟨fun h => map_fr_inj (by unfold frs at h; injection h), fun h => by rw [h]⟩
@[simp] theorem plk_fr {n : Nat} {q : Rat} : plk (n + 1) (fr q) = true := by simp [fr, plk, plkAll]
@[simp] theorem plk_frs {n : Nat} {qs : List Rat} : plk (n + 2) (frs qs) = true := by
  simp only [frs, plk]
  exact plkAll_map fun x _ => plk_fr
theorem pl_fr {q : Rat} : pl (fr q) := plk_fr
theorem pl_frs {q : List Rat} : pl (frs q) := plk_frs
/-- the size of a fraction: bits of its top and bottom -/
def bl (n : Nat) : Nat := if n = 0 then 0 else n.log2 + 1
theorem bl_lt (n : Nat) : n < 2 ^ bl n := by
  unfold bl
  split
  · omega
  · exact Nat.lt_log2_self
theorem bl_le {n k : Nat} : bl n ≤ k ↔ n < 2 ^ k := by
  unfold bl
  split
  · rename_i h
    subst h
    simp [Nat.two_pow_pos]
  · rename_i h
    rw [← Nat.log2_lt h]
    omega
theorem bl_mono {m n : Nat} (h : m ≤ n) : bl m ≤ bl n := bl_le.mpr (Nat.lt_of_le_of_lt h (bl_lt n))
theorem bl_mul {m n : Nat} : bl (m * n) ≤ bl m + bl n := bl_le.mpr (by
  rw [Nat.pow_add]
  exact Nat.mul_lt_mul'' (bl_lt m) (bl_lt n))
theorem bl_add {m n : Nat} : bl (m + n) ≤ max (bl m) (bl n) + 1 := bl_le.mpr (by
  have h1 : m < 2 ^ max (bl m) (bl n) := Nat.lt_of_lt_of_le (bl_lt m) (Nat.pow_le_pow_right (by decide) (Nat.le_max_left _ _))
  have h2 : n < 2 ^ max (bl m) (bl n) := Nat.lt_of_lt_of_le (bl_lt n) (Nat.pow_le_pow_right (by decide) (Nat.le_max_right _ _))
  rw [Nat.pow_succ]
  omega)
def ib (i : Int) : Nat := bl i.natAbs
theorem ib_mul {i j : Int} : ib (i * j) ≤ ib i + ib j := by
  unfold ib
  rw [Int.natAbs_mul]
  exact bl_mul
theorem ib_add {i j : Int} : ib (i + j) ≤ max (ib i) (ib j) + 1 := Nat.le_trans (bl_mono (Int.natAbs_add_le i j)) bl_add
theorem ib_neg {i : Int} : ib (-i) = ib i := by unfold ib; rw [Int.natAbs_neg]
theorem ib_sub {i j : Int} : ib (i - j) ≤ max (ib i) (ib j) + 1 := by
  have := ib_add (i := i) (j := -j)
  rw [ib_neg] at this
  rwa [Int.sub_eq_add_neg]
theorem ib_nat {n : Nat} : ib (n : Int) = bl n := by unfold ib; rw [Int.natAbs_natCast]
theorem ib_le {i : Int} {k : Nat} : ib i ≤ k ↔ i.natAbs < 2 ^ k := bl_le
theorem mulOk_ib {i j : Int} (h : ib i + ib j ≤ 900000) : mulOk i j = true := mulOk_bits (bl_lt _) (bl_lt _) h
theorem divOk_ib {i j : Int} (h : j ≠ 0) (hb : ib j ≤ 9000) : divOk i j = true := divOk_of h (ib_le.mp hb)
def hq (q : Rat) : Nat := max (ib q.num) (bl q.den)
theorem hq_num (q : Rat) : ib q.num ≤ hq q := Nat.le_max_left _ _
theorem hq_den (q : Rat) : bl q.den ≤ hq q := Nat.le_max_right _ _
theorem hq_denI (q : Rat) : ib (q.den : Int) ≤ hq q := by rw [ib_nat]; exact hq_den q
theorem hq_le {q : Rat} {k : Nat} : hq q ≤ k ↔ ib q.num ≤ k ∧ bl q.den ≤ k := by unfold hq; omega
/-- top over bottom -/
theorem hq_divInt {t b : Int} {k : Nat} (h1 : ib t ≤ k) (h2 : ib b ≤ k) (hk : 1 ≤ k) : hq (Rat.divInt t b) ≤ k := by
  rw [hq_le, Rat.num_divInt, Rat.den_divInt]
  constructor
  · refine Nat.le_trans (bl_mono (Nat.le_trans (Int.natAbs_ediv_le_natAbs _ _) ?_)) h1
    rw [Int.natAbs_mul, Int.natAbs_sign]
    split <;> omega
  · split
    · unfold bl; simp; exact hk
    · exact Nat.le_trans (bl_mono (Nat.div_le_self _ _)) h2
theorem hq_pos (q : Rat) : 1 ≤ hq q := by
  have h := hq_den q
  have : bl q.den ≠ 0 := by
    unfold bl
    rw [if_neg q.den_nz]
    omega
  omega
theorem add_divInt (q r : Rat) : q + r = Rat.divInt (q.num * r.den + r.num * q.den) (q.den * r.den) := by
  rw [Rat.add_def', ← Rat.divInt_ofNat]
  simp
theorem sub_divInt (q r : Rat) : q - r = Rat.divInt (q.num * r.den - r.num * q.den) (q.den * r.den) := by
  rw [Rat.sub_def', ← Rat.divInt_ofNat]
  simp
theorem mul_divInt (q r : Rat) : q * r = Rat.divInt (q.num * r.num) (q.den * r.den) := by
  rw [Rat.mul_def', ← Rat.divInt_ofNat]
  simp
theorem div_divInt (q r : Rat) : q / r = Rat.divInt (q.num * r.den) (q.den * r.num) := by
  have h : q / r = Rat.divInt q.num q.den / Rat.divInt r.num r.den := by rw [Rat.num_divInt_den, Rat.num_divInt_den]
  rw [h, Rat.div_def, Rat.inv_divInt, Rat.divInt_mul_divInt]
theorem ib_cross {a b c d k m : Nat} {x y z u : Int} (h1 : ib x ≤ k) (h2 : ib y ≤ m) (h3 : ib z ≤ k) (h4 : ib u ≤ m) : ib (x * y + u * z) ≤ k + m + 1 := by
  have := ib_add (i := x * y) (j := u * z)
  have := ib_mul (i := x) (j := y)
  have := ib_mul (i := u) (j := z)
  omega
theorem hq_add (q r : Rat) : hq (q + r) ≤ hq q + hq r + 1 := by
  rw [add_divInt]
  have a := hq_num q
  have b := hq_num r
  have c := hq_denI q
  have d := hq_denI r
  have e := ib_add (i := q.num * r.den) (j := r.num * q.den)
  have f := ib_mul (i := q.num) (j := r.den)
  have g := ib_mul (i := r.num) (j := q.den)
  have h := ib_mul (i := (q.den : Int)) (j := r.den)
  exact hq_divInt (by omega) (by omega) (by omega)
theorem hq_sub (q r : Rat) : hq (q - r) ≤ hq q + hq r + 1 := by
  rw [sub_divInt]
  have a := hq_num q
  have b := hq_num r
  have c := hq_denI q
  have d := hq_denI r
  have e := ib_sub (i := q.num * r.den) (j := r.num * q.den)
  have f := ib_mul (i := q.num) (j := r.den)
  have g := ib_mul (i := r.num) (j := q.den)
  have h := ib_mul (i := (q.den : Int)) (j := r.den)
  exact hq_divInt (by omega) (by omega) (by omega)
theorem hq_mul (q r : Rat) : hq (q * r) ≤ hq q + hq r := by
  rw [mul_divInt]
  have a := hq_num q
  have b := hq_num r
  have c := hq_denI q
  have d := hq_denI r
  have g := ib_mul (i := q.num) (j := r.num)
  have h := ib_mul (i := (q.den : Int)) (j := r.den)
  have p := hq_pos q
  exact hq_divInt (by omega) (by omega) (by omega)
theorem hq_div (q r : Rat) : hq (q / r) ≤ hq q + hq r := by
  rw [div_divInt]
  have a := hq_num q
  have b := hq_num r
  have c := hq_denI q
  have d := hq_denI r
  have g := ib_mul (i := q.num) (j := r.den)
  have h := ib_mul (i := (q.den : Int)) (j := r.num)
  have p := hq_pos q
  exact hq_divInt (by omega) (by omega) (by omega)
theorem hq_neg (q : Rat) : hq (-q) = hq q := by
  unfold hq
  rw [Rat.neg_num, Rat.neg_den, ib_neg]
/-- the lowest terms, as they are reckoned -/
def lowM (t b : Int) : Int := if b < 0 then 0 - (Int.gcd t b : Int) else (Int.gcd t b : Int)
theorem lowM_ne {t b : Int} (hb : b ≠ 0) : lowM t b ≠ 0 := by
  have : Int.gcd t b ≠ 0 := by
    intro e
    exact hb (Int.gcd_eq_zero_iff.mp e).2
  unfold lowM
  split <;> omega
theorem lowM_ib {t b : Int} (hb : b ≠ 0) : ib (lowM t b) ≤ ib b := by
  have h1 : (lowM t b).natAbs = Int.gcd t b := by unfold lowM; split <;> omega
  unfold ib
  rw [h1]
  refine bl_mono (Nat.le_of_dvd (by omega) ?_)
  exact Int.gcd_dvd_natAbs_right t b
theorem lowM_num {t b : Int} (hb : b ≠ 0) : t.fdiv (lowM t b) = (Rat.divInt t b).num := by
  have hd : (Int.gcd t b : Int) ∣ t := Int.gcd_dvd_left t b
  rw [Rat.num_divInt, Int.gcd_comm b t]
  unfold lowM
  split
  · rename_i h
    rw [Int.sign_eq_neg_one_of_neg h, Int.zero_sub]
    rw [Int.fdiv_eq_ediv_of_dvd (by rw [Int.neg_dvd]; exact hd), Int.ediv_neg]
    rw [Int.neg_one_mul, Int.neg_ediv_of_dvd hd]
  · rename_i h
    rw [Int.sign_eq_one_of_pos (by omega), Int.one_mul, Int.fdiv_eq_ediv_of_dvd hd]
theorem lowM_den {t b : Int} (hb : b ≠ 0) : b.fdiv (lowM t b) = (Rat.divInt t b).den := by
  have hd : (Int.gcd t b : Int) ∣ b := Int.gcd_dvd_right t b
  rw [Rat.den_divInt, if_neg hb, Int.gcd_comm b t]
  unfold lowM
  split
  · rename_i h
    rw [Int.zero_sub, Int.fdiv_eq_ediv_of_dvd (by rw [Int.neg_dvd]; exact hd), Int.ediv_neg, ← Int.neg_ediv_of_dvd hd]
    have : -b = (b.natAbs : Int) := by omega
    rw [this]
    rfl
  · rename_i h
    rw [Int.fdiv_eq_ediv_of_dvd hd]
    have : b = (b.natAbs : Int) := by omega
    rw [this]
    simp
theorem fr_low {t b : Int} (hb : b ≠ 0) : PyData.tuple [.int (t.fdiv (lowM t b)), .int (b.fdiv (lowM t b))] = fr (Rat.divInt t b) := by
  rw [lowM_num hb, lowM_den hb]
  rfl
theorem gcd_fmod (a b : Int) : Int.gcd b (a.fmod b) = Int.gcd a b := by
  rw [Int.fmod_def, Int.gcd_sub_mul_left_right, Int.gcd_comm]
theorem fmod_abs (a b : Int) (h : b ≠ 0) : (a.fmod b).natAbs < b.natAbs := by
  rcases Int.lt_or_gt_of_ne h with z | z
  · have h1 := Int.fmod_nonneg_of_pos (-a) (b := -b) (by omega)
    have h2 := Int.fmod_lt_of_pos (-a) (b := -b) (by omega)
    rw [Int.neg_fmod_neg] at h1 h2
    omega
  · have h1 := Int.fmod_nonneg_of_pos a z
    have h2 := Int.fmod_lt_of_pos a z
    omega
end L3
/-! MA -/
namespace Sr
open PySem PySem.Spec PyProof.Rows L2 L3
@[irreducible] noncomputable def m_divisor : List T → R (T × List T) := mFn [] 0 (
    mSeq (mWhile (mTest (mLift (pBin opNe (pVar 1) (pC (.int 0))))) (mPar 0 1 (mCons (mVar 1) (mCons (mLift (pBin opMod (pVar 0) (pVar 1))) (mNil))))) <|
    mRet (mLift (pCallB opAbs (pCons (pVar 0) (pNil)))))
@[irreducible] noncomputable def m_below : List T → R (T × List T) := mFn [] 0 (
    mRet (mLift (pBin opLt (pBin opMulI (pBin opIdx (pVar 0) (pC (.int 0))) (pBin opIdx (pVar 1) (pC (.int 1)))) (pBin opMulI (pBin opIdx (pVar 1) (pC (.int 0))) (pBin opIdx (pVar 0) (pC (.int 1)))))))
@[irreducible] noncomputable def m__law_deck : List T → R (T × List T) := mFn [] 1 (
    mSeq (mAsg (mFz (mCallB opListOf (mCons (mFz (mSl opSlL (pVar 0) (oNone) (oSome (pC (.int 63))))) (mNil)))) (mgName 1)) <|
    mSeq (mIfS (mTest (mBin opEq (mVar 1) (mFz (mLst (mNil))))) (mAsg (mFz (mLst (mCons (mLift (pC (.int 0))) (mNil)))) (mgName 1)) (mNext)) <|
    mRet (mFz (mLst (mCons (mVar 1) (mCons (mLift (pBin opMod (pCallB opLen (pCons (pVar 0) (pNil))) (pC (.int 2)))) (mCons (mLift (pC (.int 0))) (mNil)))))))
@[irreducible] noncomputable def m__law_draw : List T → R (T × List T) := mFn [0] 3 (
    mSeq (mAsg (mLift (pBin opMod (pBin opIdx (pVar 0) (pC (.int 2))) (pCallB opLen (pCons (pBin opIdx (pVar 0) (pC (.int 0))) (pNil))))) (mgName 2)) <|
    mSeq (mAsg (mLift (pBin opAdd (pBin opIdx (pVar 0) (pC (.int 2))) (pC (.int 1)))) (mgItem 0 (lHere) (pC (.int 2)))) <|
    mSeq (mIfS (mTest (mLift (pBin opEq (pBin opIdx (pVar 0) (pC (.int 1))) (pC (.int 0))))) (mSeq (mAsg (mLift (pBin opMod (pBin opIdx (pBin opIdx (pVar 0) (pC (.int 0))) (pVar 2)) (pVar 1))) (mgName 4)) <|
    mSeq (mAsg (mLift (pBin opFdiv (pBin opIdx (pBin opIdx (pVar 0) (pC (.int 0))) (pVar 2)) (pVar 1))) (mgItem 0 (lIx (lHere) (pC (.int 0))) (pVar 2))) <|
    mRet (mVar 4)) (mNext)) <|
    mSeq (mAsg (mLift (pBin opMod (pBin opAdd (pBin opMulI (pBin opMod (pBin opIdx (pBin opIdx (pVar 0) (pC (.int 0))) (pVar 2)) (pC (.int 1000000021))) (pC (.int 6563))) (pBin opMulI (pBin opIdx (pVar 0) (pC (.int 2))) (pC (.int 130363)))) (pC (.int 1000000033)))) (mgName 3)) <|
    mSeq (mAsg (mLift (pBin opMod (pBin opMulI (pVar 3) (pVar 3)) (pC (.int 469762049)))) (mgName 3)) <|
    mRet (mLift (pBin opMod (pBin opFdiv (pBin opMod (pBin opAdd (pBin opMulI (pVar 3) (pC (.int 29443))) (pBin opIdx (pVar 0) (pC (.int 2)))) (pC (.int 167772161))) (pC (.int 3))) (pVar 1))))
@[irreducible] noncomputable def m__law_divisor : List T → R (T × List T) := mFn [] 0 (
    mSeq (mWhile (mTest (mLift (pBin opNe (pVar 1) (pC (.int 0))))) (mPar 0 1 (mCons (mVar 1) (mCons (mLift (pBin opMod (pVar 0) (pVar 1))) (mNil))))) <|
    mRet (mLift (pCallB opAbs (pCons (pVar 0) (pNil)))))
@[irreducible] noncomputable def m_fraction : List T → R (T × List T) := mFn [] 1 (
    mSeq (mIfS (mTest (mLift (pBin opEq (pVar 1) (pC (.int 0))))) (mNever) (mNext)) <|
    mSeq (mAsg (mCallF false false 2 m_divisor [none, none] (mbCons (mVar 0) (mbCons (mVar 1) (mbNil)))) (mgName 2)) <|
    mSeq (mIfS (mTest (mLift (pBin opLt (pVar 1) (pC (.int 0))))) (mAsg (mLift (pBin opSub (pC (.int 0)) (pVar 2))) (mgName 2)) (mNext)) <|
    mRet (mTup (mCons (mLift (pBin opFdiv (pVar 0) (pVar 2))) (mCons (mLift (pBin opFdiv (pVar 1) (pVar 2))) (mNil)))))
@[irreducible] noncomputable def m__law_low : List T → R (T × List T) := mFn [] 1 (
    mSeq (mAsg (mCallF false false 2 m__law_divisor [none, none] (mbCons (mVar 0) (mbCons (mVar 1) (mbNil)))) (mgName 2)) <|
    mSeq (mIfS (mTest (mLift (pBin opLt (pVar 1) (pC (.int 0))))) (mAsg (mLift (pBin opSub (pC (.int 0)) (pVar 2))) (mgName 2)) (mNext)) <|
    mRet (mTup (mCons (mLift (pBin opFdiv (pVar 0) (pVar 2))) (mCons (mLift (pBin opFdiv (pVar 1) (pVar 2))) (mNil)))))
@[irreducible] noncomputable def m__law_far : List T → R (T × List T) := mFn [0] 2 (
    mSeq (mAsg (mLift (pC (.int 0))) (mgName 1)) <|
    mSeq (mFor (miR1 (mCons (mLift (pC (.int 3))) (mNil))) (mgName 2) (mAsg (mBin opAdd (mBin opAdd (mLift (pBin opMulI (pVar 1) (pBin opPow (pC (.int 10)) (pC (.int 12))))) (mBin opMulI (mCallF false false 2 m__law_draw [some 0, none] (mbIo 0 (mbCons (mLift (pBin opPow (pC (.int 10)) (pC (.int 6)))) (mbNil)))) (mLift (pBin opPow (pC (.int 10)) (pC (.int 6)))))) (mCallF false false 2 m__law_draw [some 0, none] (mbIo 0 (mbCons (mLift (pBin opPow (pC (.int 10)) (pC (.int 6)))) (mbNil))))) (mgName 1))) <|
    mRet (mBin opMulI (mVar 1) (mBin opIdx (mLst (mCons (mLift (pC (.int 1))) (mCons (mLift (pUn opNeg (pC (.int 1)))) (mNil)))) (mCallF false false 2 m__law_draw [some 0, none] (mbIo 0 (mbCons (mLift (pC (.int 2))) (mbNil)))))))
@[irreducible] noncomputable def m__law_is : List T → R (T × List T) := mFn [] 1 (
    mSeq (mIfS (mOr (mNot (mTest (mLift (pIsa "tuple" (pVar 0))))) (mTest (mLift (pBin opNe (pCallB opLen (pCons (pVar 0) (pNil))) (pC (.int 2)))))) (mRet (mLift (pC (.bool false)))) (mNext)) <|
    mSeq (mIfS (mTest (mBin opNe (mFz (mLc (miT (mVar 0)) (mgName 3) (mOr (mNot (mTest (mLift (pIsa "int" (pVar 3))))) (mTest (mLift (pIsa "bool" (pVar 3))))) (mVar 3) [3])) (mFz (mLst (mNil))))) (mRet (mLift (pC (.bool false)))) (mNext)) <|
    mRet (mAndV (mLift (pBin opGt (pBin opIdx (pVar 0) (pC (.int 1))) (pC (.int 0)))) (mAndV (mLift (pBin opEq (pBin opMulI (pBin opIdx (pVar 0) (pC (.int 0))) (pVar 2)) (pBin opMulI (pVar 1) (pBin opIdx (pVar 0) (pC (.int 1)))))) (mBin opEq (mCallF false false 2 m__law_divisor [none, none] (mbCons (mLift (pBin opIdx (pVar 0) (pC (.int 0)))) (mbCons (mLift (pBin opIdx (pVar 0) (pC (.int 1)))) (mbNil)))) (mLift (pC (.int 1)))))))
@[irreducible] noncomputable def m_plus : List T → R (T × List T) := mFn [] 0 (
    mRet (mCallF false false 2 m_fraction [none, none] (mbCons (mLift (pBin opAdd (pBin opMulI (pBin opIdx (pVar 0) (pC (.int 0))) (pBin opIdx (pVar 1) (pC (.int 1)))) (pBin opMulI (pBin opIdx (pVar 1) (pC (.int 0))) (pBin opIdx (pVar 0) (pC (.int 1)))))) (mbCons (mLift (pBin opMulI (pBin opIdx (pVar 0) (pC (.int 1))) (pBin opIdx (pVar 1) (pC (.int 1))))) (mbNil)))))
@[irreducible] noncomputable def m_minus : List T → R (T × List T) := mFn [] 0 (
    mRet (mCallF false false 2 m_fraction [none, none] (mbCons (mLift (pBin opSub (pBin opMulI (pBin opIdx (pVar 0) (pC (.int 0))) (pBin opIdx (pVar 1) (pC (.int 1)))) (pBin opMulI (pBin opIdx (pVar 1) (pC (.int 0))) (pBin opIdx (pVar 0) (pC (.int 1)))))) (mbCons (mLift (pBin opMulI (pBin opIdx (pVar 0) (pC (.int 1))) (pBin opIdx (pVar 1) (pC (.int 1))))) (mbNil)))))
@[irreducible] noncomputable def m_times : List T → R (T × List T) := mFn [] 0 (
    mRet (mCallF false false 2 m_fraction [none, none] (mbCons (mLift (pBin opMulI (pBin opIdx (pVar 0) (pC (.int 0))) (pBin opIdx (pVar 1) (pC (.int 0))))) (mbCons (mLift (pBin opMulI (pBin opIdx (pVar 0) (pC (.int 1))) (pBin opIdx (pVar 1) (pC (.int 1))))) (mbNil)))))
@[irreducible] noncomputable def m_over : List T → R (T × List T) := mFn [] 0 (
    mRet (mCallF false false 2 m_fraction [none, none] (mbCons (mLift (pBin opMulI (pBin opIdx (pVar 0) (pC (.int 0))) (pBin opIdx (pVar 1) (pC (.int 1))))) (mbCons (mLift (pBin opMulI (pBin opIdx (pVar 0) (pC (.int 1))) (pBin opIdx (pVar 1) (pC (.int 0))))) (mbNil)))))
@[irreducible] noncomputable def m__law_whole : List T → R (T × List T) := mFn [0] 1 (
    mSeq (mAsg (mBin opIdx (mLst (mCons (mCallF false false 1 m__law_far [some 0] (mbIo 0 (mbNil))) (mCons (mBin opSub (mLift (pBin opSub (pBin opPow (pC (.int 10)) (pC (.int 40))) (pC (.int 1)))) (mCallF false false 2 m__law_draw [some 0, none] (mbIo 0 (mbCons (mLift (pC (.int 9))) (mbNil))))) (mCons (mLift (pBin opSub (pC (.int 1)) (pBin opPow (pC (.int 10)) (pC (.int 40))))) (mNil))))) (mCallF false false 2 m__law_draw [some 0, none] (mbIo 0 (mbCons (mLift (pC (.int 3))) (mbNil))))) (mgName 1)) <|
    mRet (mBin opIdx (mLst (mCons (mBin opSub (mCallF false false 2 m__law_draw [some 0, none] (mbIo 0 (mbCons (mLift (pC (.int 5))) (mbNil)))) (mLift (pC (.int 2)))) (mCons (mBin opSub (mCallF false false 2 m__law_draw [some 0, none] (mbIo 0 (mbCons (mLift (pC (.int 61))) (mbNil)))) (mLift (pC (.int 30)))) (mCons (mVar 1) (mNil))))) (mBin opIdx (mLst (mCons (mLift (pC (.int 0))) (mCons (mLift (pC (.int 1))) (mCons (mLift (pC (.int 1))) (mCons (mLift (pC (.int 2))) (mNil)))))) (mCallF false false 2 m__law_draw [some 0, none] (mbIo 0 (mbCons (mLift (pC (.int 4))) (mbNil)))))))
@[irreducible] noncomputable def m__law_fraction : List T → R (T × List T) := mFn [0] 2 (
    mSeq (mAsg (mBin opIdx (mLst (mCons (mBin opAdd (mLift (pC (.int 1))) (mCallB opAbs (mCons (mCallF false false 1 m__law_far [some 0] (mbIo 0 (mbNil))) (mNil)))) (mCons (mBin opSub (mLift (pBin opSub (pBin opPow (pC (.int 10)) (pC (.int 40))) (pC (.int 1)))) (mCallF false false 2 m__law_draw [some 0, none] (mbIo 0 (mbCons (mLift (pC (.int 9))) (mbNil))))) (mNil)))) (mCallB opInt1 (mCons (mBin opEq (mCallF false false 2 m__law_draw [some 0, none] (mbIo 0 (mbCons (mLift (pC (.int 4))) (mbNil)))) (mLift (pC (.int 3)))) (mNil)))) (mgName 1)) <|
    mSeq (mAsg (mBin opIdx (mLst (mCons (mLift (pC (.int 1))) (mCons (mBin opAdd (mLift (pC (.int 1))) (mCallF false false 2 m__law_draw [some 0, none] (mbIo 0 (mbCons (mLift (pC (.int 12))) (mbNil))))) (mCons (mVar 1) (mNil))))) (mBin opIdx (mLst (mCons (mLift (pC (.int 0))) (mCons (mLift (pC (.int 0))) (mCons (mLift (pC (.int 1))) (mCons (mLift (pC (.int 2))) (mNil)))))) (mCallF false false 2 m__law_draw [some 0, none] (mbIo 0 (mbCons (mLift (pC (.int 4))) (mbNil)))))) (mgName 2)) <|
    mRet (mCallF false false 2 m__law_low [none, none] (mbCons (mCallF false false 1 m__law_whole [some 0] (mbIo 0 (mbNil))) (mbCons (mVar 2) (mbNil)))))
@[irreducible] noncomputable def m__law_good : List T → R (T × List T) := mFn [] 5 (
    mSeq (mAsg (mVar 0) (mgTup 2 (mgCons (mgName 3) (mgCons (mgName 4) (mgNil))))) <|
    mSeq (mAsg (mVar 1) (mgTup 2 (mgCons (mgName 5) (mgCons (mgName 6) (mgNil))))) <|
    mSeq (mIfS (mOr (mNot (mTest (mCallF false false 3 m__law_is [none, none, none] (mbCons (mCallF false false 2 m_plus [none, none] (mbCons (mVar 0) (mbCons (mVar 1) (mbNil)))) (mbCons (mLift (pBin opAdd (pBin opMulI (pVar 3) (pVar 6)) (pBin opMulI (pVar 5) (pVar 4)))) (mbCons (mLift (pBin opMulI (pVar 4) (pVar 6))) (mbNil))))))) (mNot (mTest (mCallF false false 3 m__law_is [none, none, none] (mbCons (mCallF false false 2 m_minus [none, none] (mbCons (mVar 0) (mbCons (mVar 1) (mbNil)))) (mbCons (mLift (pBin opSub (pBin opMulI (pVar 3) (pVar 6)) (pBin opMulI (pVar 5) (pVar 4)))) (mbCons (mLift (pBin opMulI (pVar 4) (pVar 6))) (mbNil)))))))) (mRet (mLift (pC (.bool false)))) (mNext)) <|
    mSeq (mIfS (mOr (mNot (mTest (mCallF false false 3 m__law_is [none, none, none] (mbCons (mCallF false false 2 m_times [none, none] (mbCons (mVar 0) (mbCons (mVar 1) (mbNil)))) (mbCons (mLift (pBin opMulI (pVar 3) (pVar 5))) (mbCons (mLift (pBin opMulI (pVar 4) (pVar 6))) (mbNil))))))) (mAnd (mTest (mLift (pBin opNe (pVar 5) (pC (.int 0))))) (mNot (mTest (mCallF false false 3 m__law_is [none, none, none] (mbCons (mCallF false false 2 m_over [none, none] (mbCons (mVar 0) (mbCons (mVar 1) (mbNil)))) (mbCons (mLift (pBin opMulI (pVar 3) (pVar 6))) (mbCons (mLift (pBin opMulI (pVar 4) (pVar 5))) (mbNil))))))))) (mRet (mLift (pC (.bool false)))) (mNext)) <|
    mSeq (mAsg (mCallF false false 2 m_below [none, none] (mbCons (mVar 0) (mbCons (mVar 1) (mbNil)))) (mgName 2)) <|
    mRet (mAndV (mLift (pIsa "bool" (pVar 2))) (mLift (pBin opEq (pVar 2) (pBin opLt (pBin opMulI (pVar 3) (pVar 6)) (pBin opMulI (pVar 5) (pVar 4)))))))
@[irreducible] noncomputable def m__law_deck_2 : List T → R (T × List T) := mFn [] 1 (
    mSeq (mAsg (mCallB opListOf (mCons (mFz (mSl opSlL (pVar 0) (oNone) (oSome (pC (.int 63))))) (mNil))) (mgName 1)) <|
    mSeq (mIfS (mTest (mEqNil opEq (pVar 1))) (mAsg (mLst (mCons (mLift (pC (.int 0))) (mNil))) (mgName 1)) (mNext)) <|
    mRet (mLst (mCons (mMove 1) (mCons (mLift (pBin opMod (pCallB opLen (pCons (pVar 0) (pNil))) (pC (.int 2)))) (mCons (mLift (pC (.int 0))) (mNil))))))
@[irreducible] noncomputable def m__law_far_2 : List T → R (T × List T) := mFn [0] 2 (
    mSeq (mAsg (mLift (pC (.int 0))) (mgName 2)) <|
    mSeq (mFor (miR1 (mCons (mVar 1) (mNil))) (mgName 3) (mAsg (mBin opAdd (mBin opAdd (mLift (pBin opMulI (pVar 2) (pBin opPow (pC (.int 10)) (pC (.int 9))))) (mBin opMulI (mCallF false false 2 m__law_draw [some 0, none] (mbIo 0 (mbCons (mLift (pBin opPow (pC (.int 10)) (pC (.int 5)))) (mbNil)))) (mLift (pBin opPow (pC (.int 10)) (pC (.int 4)))))) (mCallF false false 2 m__law_draw [some 0, none] (mbIo 0 (mbCons (mLift (pBin opPow (pC (.int 10)) (pC (.int 4)))) (mbNil))))) (mgName 2))) <|
    mRet (mBin opMulI (mVar 2) (mBin opIdx (mLst (mCons (mLift (pC (.int 1))) (mCons (mLift (pUn opNeg (pC (.int 1)))) (mNil)))) (mCallF false false 2 m__law_draw [some 0, none] (mbIo 0 (mbCons (mLift (pC (.int 2))) (mbNil)))))))
@[irreducible] noncomputable def m__law_fraction_3 : List T → R (T × List T) := mFn [0] 2 (
    mSeq (mAsg (mBin opIdx (mLst (mCons (mBin opSub (mCallF false false 2 m__law_draw [some 0, none] (mbIo 0 (mbCons (mLift (pC (.int 13))) (mbNil)))) (mLift (pC (.int 6)))) (mCons (mCallF false false 2 m__law_far_2 [some 0, none] (mbIo 0 (mbCons (mLift (pC (.int 1))) (mbNil)))) (mCons (mCallF false false 2 m__law_far_2 [some 0, none] (mbIo 0 (mbCons (mLift (pC (.int 4))) (mbNil)))) (mNil))))) (mCallF false false 2 m__law_draw [some 0, none] (mbIo 0 (mbCons (mLift (pC (.int 3))) (mbNil))))) (mgName 1)) <|
    mSeq (mAsg (mBin opIdx (mLst (mCons (mLift (pC (.int 1))) (mCons (mBin opAdd (mLift (pC (.int 1))) (mCallF false false 2 m__law_draw [some 0, none] (mbIo 0 (mbCons (mLift (pC (.int 12))) (mbNil))))) (mCons (mBin opAdd (mLift (pC (.int 1))) (mCallB opAbs (mCons (mCallF false false 2 m__law_far_2 [some 0, none] (mbIo 0 (mbCons (mLift (pC (.int 1))) (mbNil)))) (mNil)))) (mCons (mBin opAdd (mLift (pC (.int 1))) (mCallB opAbs (mCons (mCallF false false 2 m__law_far_2 [some 0, none] (mbIo 0 (mbCons (mLift (pC (.int 4))) (mbNil)))) (mNil)))) (mNil)))))) (mCallF false false 2 m__law_draw [some 0, none] (mbIo 0 (mbCons (mLift (pC (.int 4))) (mbNil))))) (mgName 2)) <|
    mRet (mCallF false false 2 m__law_low [none, none] (mbCons (mVar 1) (mbCons (mVar 2) (mbNil)))))
@[irreducible] noncomputable def m__law_sums : List T → R (T × List T) := mFn [] 0 (
    mSeq (mIfS (mOr (mTest (mBin opNe (mCallF false false 2 m_minus [none, none] (mbCons (mCallF false false 2 m_plus [none, none] (mbCons (mVar 0) (mbCons (mVar 1) (mbNil)))) (mbCons (mVar 1) (mbNil)))) (mVar 0))) (mOr (mTest (mBin opNe (mCallF false false 2 m_plus [none, none] (mbCons (mVar 0) (mbCons (mVar 1) (mbNil)))) (mCallF false false 2 m_plus [none, none] (mbCons (mVar 1) (mbCons (mVar 0) (mbNil)))))) (mTest (mBin opNe (mCallF false false 2 m_plus [none, none] (mbCons (mCallF false false 2 m_plus [none, none] (mbCons (mVar 0) (mbCons (mVar 1) (mbNil)))) (mbCons (mVar 2) (mbNil)))) (mCallF false false 2 m_plus [none, none] (mbCons (mVar 0) (mbCons (mCallF false false 2 m_plus [none, none] (mbCons (mVar 1) (mbCons (mVar 2) (mbNil)))) (mbNil)))))))) (mRet (mLift (pC (.bool false)))) (mNext)) <|
    mSeq (mIfS (mOr (mTest (mBin opNe (mCallF false false 2 m_times [none, none] (mbCons (mVar 0) (mbCons (mVar 1) (mbNil)))) (mCallF false false 2 m_times [none, none] (mbCons (mVar 1) (mbCons (mVar 0) (mbNil)))))) (mTest (mBin opNe (mCallF false false 2 m_times [none, none] (mbCons (mCallF false false 2 m_times [none, none] (mbCons (mVar 0) (mbCons (mVar 1) (mbNil)))) (mbCons (mVar 2) (mbNil)))) (mCallF false false 2 m_times [none, none] (mbCons (mVar 0) (mbCons (mCallF false false 2 m_times [none, none] (mbCons (mVar 1) (mbCons (mVar 2) (mbNil)))) (mbNil))))))) (mRet (mLift (pC (.bool false)))) (mNext)) <|
    mSeq (mIfS (mTest (mBin opNe (mCallF false false 2 m_times [none, none] (mbCons (mVar 0) (mbCons (mCallF false false 2 m_plus [none, none] (mbCons (mVar 1) (mbCons (mVar 2) (mbNil)))) (mbNil)))) (mCallF false false 2 m_plus [none, none] (mbCons (mCallF false false 2 m_times [none, none] (mbCons (mVar 0) (mbCons (mVar 1) (mbNil)))) (mbCons (mCallF false false 2 m_times [none, none] (mbCons (mVar 0) (mbCons (mVar 2) (mbNil)))) (mbNil)))))) (mRet (mLift (pC (.bool false)))) (mNext)) <|
    mRet (mOrV (mLift (pBin opEq (pBin opIdx (pVar 1) (pC (.int 0))) (pC (.int 0)))) (mAndV (mBin opEq (mCallF false false 2 m_over [none, none] (mbCons (mCallF false false 2 m_times [none, none] (mbCons (mVar 0) (mbCons (mVar 1) (mbNil)))) (mbCons (mVar 1) (mbNil)))) (mVar 0)) (mBin opEq (mCallF false false 2 m_times [none, none] (mbCons (mCallF false false 2 m_over [none, none] (mbCons (mVar 0) (mbCons (mVar 1) (mbNil)))) (mbCons (mVar 1) (mbNil)))) (mVar 0)))))
@[irreducible] noncomputable def m__law_order : List T → R (T × List T) := mFn [] 0 (
    mSeq (mIfS (mOr (mTest (mBin opNe (mCallF false false 2 m_below [none, none] (mbCons (mVar 0) (mbCons (mVar 1) (mbNil)))) (mCallF false false 2 m_below [none, none] (mbCons (mCallF false false 2 m_plus [none, none] (mbCons (mVar 0) (mbCons (mVar 2) (mbNil)))) (mbCons (mCallF false false 2 m_plus [none, none] (mbCons (mVar 1) (mbCons (mVar 2) (mbNil)))) (mbNil)))))) (mTest (mBin opNe (mCallF false false 2 m_below [none, none] (mbCons (mVar 0) (mbCons (mVar 1) (mbNil)))) (mBin opGt (mBin opIdx (mCallF false false 2 m_minus [none, none] (mbCons (mVar 1) (mbCons (mVar 0) (mbNil)))) (mLift (pC (.int 0)))) (mLift (pC (.int 0))))))) (mRet (mLift (pC (.bool false)))) (mNext)) <|
    mSeq (mIfS (mAnd (mTest (mLift (pBin opGt (pBin opIdx (pVar 2) (pC (.int 0))) (pC (.int 0))))) (mTest (mBin opNe (mCallF false false 2 m_below [none, none] (mbCons (mCallF false false 2 m_times [none, none] (mbCons (mVar 0) (mbCons (mVar 2) (mbNil)))) (mbCons (mCallF false false 2 m_times [none, none] (mbCons (mVar 1) (mbCons (mVar 2) (mbNil)))) (mbNil)))) (mCallF false false 2 m_below [none, none] (mbCons (mVar 0) (mbCons (mVar 1) (mbNil))))))) (mRet (mLift (pC (.bool false)))) (mNext)) <|
    mSeq (mIfS (mAnd (mTest (mLift (pBin opLt (pBin opIdx (pVar 2) (pC (.int 0))) (pC (.int 0))))) (mTest (mBin opNe (mCallF false false 2 m_below [none, none] (mbCons (mCallF false false 2 m_times [none, none] (mbCons (mVar 1) (mbCons (mVar 2) (mbNil)))) (mbCons (mCallF false false 2 m_times [none, none] (mbCons (mVar 0) (mbCons (mVar 2) (mbNil)))) (mbNil)))) (mCallF false false 2 m_below [none, none] (mbCons (mVar 0) (mbCons (mVar 1) (mbNil))))))) (mRet (mLift (pC (.bool false)))) (mNext)) <|
    mRet (mBin opEq (mTupCount (mCons (mCallF false false 2 m_below [none, none] (mbCons (mVar 0) (mbCons (mVar 1) (mbNil)))) (mCons (mCallF false false 2 m_below [none, none] (mbCons (mVar 1) (mbCons (mVar 0) (mbNil)))) (mNil))) (pC (.bool true))) (mLift (pCallB opInt1 (pCons (pBin opNe (pVar 0) (pVar 1)) (pNil))))))
@[irreducible] noncomputable def m_law_8 : List T → R (T × List T) := mFn [] 6 (
    mSeq (mAsg (mCallF false false 1 m__law_deck_2 [none] (mbCons (mRd 0) (mbNil))) (mgName 1)) <|
    mSeq (mFor (miR1 (mCons (mLift (pC (.int 4))) (mNil))) (mgName 2) (mSeq (mAsg (mFz (mLc (miR1 (mCons (mLift (pC (.int 3))) (mNil))) (mgName 6) (mtYes) (mCallF false false 1 m__law_fraction_3 [some 1] (mbIo 1 (mbNil))) [6])) (mgLst 3 (mgCons (mgName 3) (mgCons (mgName 4) (mgCons (mgName 5) (mgNil)))))) <|
    mSeq (mIfS (mOr (mNot (mTest (mCallF false false 3 m__law_sums [none, none, none] (mbCons (mVar 3) (mbCons (mVar 4) (mbCons (mVar 5) (mbNil))))))) (mOr (mNot (mTest (mCallF false false 3 m__law_order [none, none, none] (mbCons (mVar 3) (mbCons (mVar 4) (mbCons (mVar 5) (mbNil))))))) (mNot (mTest (mCallF false false 3 m__law_order [none, none, none] (mbCons (mVar 3) (mbCons (mVar 3) (mbCons (mVar 4) (mbNil))))))))) (mRet (mLift (pC (.bool false)))) (mNext)) <|
    mIfS (mOr (mTest (mBin opNe (mCallF false false 2 m_over [none, none] (mbCons (mTup (mCons (mLift (pBin opIdx (pVar 3) (pC (.int 0)))) (mCons (mLift (pC (.int 1))) (mNil)))) (mbCons (mTup (mCons (mLift (pBin opIdx (pVar 3) (pC (.int 1)))) (mCons (mLift (pC (.int 1))) (mNil)))) (mbNil)))) (mVar 3))) (mTest (mBin opNe (mCallF false false 2 m_fraction [none, none] (mbCons (mLift (pBin opSub (pC (.int 0)) (pBin opIdx (pVar 3) (pC (.int 0))))) (mbCons (mLift (pBin opSub (pC (.int 0)) (pBin opIdx (pVar 3) (pC (.int 1))))) (mbNil)))) (mVar 3)))) (mRet (mLift (pC (.bool false)))) (mNext))) <|
    mRet (mLift (pC (.bool true))))
end Sr
/-! O_k05 -/
namespace Sr
open PySem PySem.Spec PyProof.Rows L2 L3
def topS (i : Nat) : Stmt := PySem.Challenge.pw_shimright_k05_whole_there_and_back.main.body.getD i (.Pass ⟨0, 0, 0, 0⟩)
abbrev s_divisor : Stmt := topS 4
abbrev N_divisor : List Str := ["one", "other"]
theorem sc_divisor : FnScope N_divisor ["one", "other"] (defScope s_divisor) := ⟨rfl, rfl, rfl, by decide +kernel, rfl, by decide +kernel, by decide +kernel⟩
abbrev s_below : Stmt := topS 10
abbrev N_below : List Str := ["q", "r"]
theorem sc_below : FnScope N_below ["q", "r"] (defScope s_below) := ⟨rfl, rfl, rfl, by decide +kernel, rfl, by decide +kernel, by decide +kernel⟩
abbrev s__law_deck : Stmt := topS 12
abbrev N__law_deck : List Str := ["script", "cells"]
theorem sc__law_deck : FnScope N__law_deck ["script"] (defScope s__law_deck) := ⟨rfl, rfl, rfl, by decide +kernel, rfl, by decide +kernel, by decide +kernel⟩
abbrev s__law_draw : Stmt := topS 13
abbrev N__law_draw : List Str := ["deck", "many", "at", "number", "found"]
theorem sc__law_draw : FnScope N__law_draw ["deck", "many"] (defScope s__law_draw) := ⟨rfl, rfl, rfl, by decide +kernel, rfl, by decide +kernel, by decide +kernel⟩
abbrev s__law_divisor : Stmt := topS 14
abbrev N__law_divisor : List Str := ["one", "other"]
theorem sc__law_divisor : FnScope N__law_divisor ["one", "other"] (defScope s__law_divisor) := ⟨rfl, rfl, rfl, by decide +kernel, rfl, by decide +kernel, by decide +kernel⟩
abbrev s_fraction : Stmt := topS 5
abbrev N_fraction : List Str := ["top", "bottom", "many"]
theorem sc_fraction : FnScope N_fraction ["top", "bottom"] (defScope s_fraction) := ⟨rfl, rfl, rfl, by decide +kernel, rfl, by decide +kernel, by decide +kernel⟩
abbrev s__law_low : Stmt := topS 15
abbrev N__law_low : List Str := ["top", "bottom", "many"]
theorem sc__law_low : FnScope N__law_low ["top", "bottom"] (defScope s__law_low) := ⟨rfl, rfl, rfl, by decide +kernel, rfl, by decide +kernel, by decide +kernel⟩
abbrev s__law_far : Stmt := topS 16
abbrev N__law_far : List Str := ["deck", "many", "found", "k"]
theorem sc__law_far : FnScope N__law_far ["deck", "many"] (defScope s__law_far) := ⟨rfl, rfl, rfl, by decide +kernel, rfl, by decide +kernel, by decide +kernel⟩
abbrev s_plus : Stmt := topS 6
abbrev N_plus : List Str := ["q", "r"]
theorem sc_plus : FnScope N_plus ["q", "r"] (defScope s_plus) := ⟨rfl, rfl, rfl, by decide +kernel, rfl, by decide +kernel, by decide +kernel⟩
abbrev s_minus : Stmt := topS 7
abbrev N_minus : List Str := ["q", "r"]
theorem sc_minus : FnScope N_minus ["q", "r"] (defScope s_minus) := ⟨rfl, rfl, rfl, by decide +kernel, rfl, by decide +kernel, by decide +kernel⟩
abbrev s_times : Stmt := topS 8
abbrev N_times : List Str := ["q", "r"]
theorem sc_times : FnScope N_times ["q", "r"] (defScope s_times) := ⟨rfl, rfl, rfl, by decide +kernel, rfl, by decide +kernel, by decide +kernel⟩
abbrev s_over : Stmt := topS 9
abbrev N_over : List Str := ["q", "r"]
theorem sc_over : FnScope N_over ["q", "r"] (defScope s_over) := ⟨rfl, rfl, rfl, by decide +kernel, rfl, by decide +kernel, by decide +kernel⟩
abbrev s__law_fraction : Stmt := topS 17
abbrev N__law_fraction : List Str := ["deck", "top", "bottom"]
theorem sc__law_fraction : FnScope N__law_fraction ["deck"] (defScope s__law_fraction) := ⟨rfl, rfl, rfl, by decide +kernel, rfl, by decide +kernel, by decide +kernel⟩
abbrev s__law_sums : Stmt := topS 18
abbrev N__law_sums : List Str := ["q", "r", "s"]
theorem sc__law_sums : FnScope N__law_sums ["q", "r", "s"] (defScope s__law_sums) := ⟨rfl, rfl, rfl, by decide +kernel, rfl, by decide +kernel, by decide +kernel⟩
abbrev s__law_order : Stmt := topS 19
abbrev N__law_order : List Str := ["q", "r", "s"]
theorem sc__law_order : FnScope N__law_order ["q", "r", "s"] (defScope s__law_order) := ⟨rfl, rfl, rfl, by decide +kernel, rfl, by decide +kernel, by decide +kernel⟩
abbrev s_law : Stmt := topS 20
abbrev N_law : List Str := ["script", "deck", "k", "q", "r", "s", "one"]
theorem sc_law : FnScope N_law ["script"] (defScope s_law) := ⟨rfl, rfl, rfl, by decide +kernel, rfl, by decide +kernel, by decide +kernel⟩
/-! ### what the top has written -/
structure Tx (K : PySem.W.Frag) (mg : Str → Option Value) where
  f_divisor : Addr
  d_divisor : FuncData
  F_divisor : Fun K "divisor" "divisor" s_divisor f_divisor d_divisor
  b_divisor : Binds K d_divisor ["one", "other"] []
  g_divisor : mg "divisor" = some (.ref f_divisor)
  f_below : Addr
  d_below : FuncData
  F_below : Fun K "below" "below" s_below f_below d_below
  b_below : Binds K d_below ["q", "r"] []
  g_below : mg "below" = some (.ref f_below)
  f__law_deck : Addr
  d__law_deck : FuncData
  F__law_deck : Fun K "_law_deck" "_law_deck" s__law_deck f__law_deck d__law_deck
  b__law_deck : Binds K d__law_deck ["script"] []
  g__law_deck : mg "_law_deck" = some (.ref f__law_deck)
  f__law_draw : Addr
  d__law_draw : FuncData
  F__law_draw : Fun K "_law_draw" "_law_draw" s__law_draw f__law_draw d__law_draw
  b__law_draw : Binds K d__law_draw ["deck", "many"] []
  g__law_draw : mg "_law_draw" = some (.ref f__law_draw)
  f__law_divisor : Addr
  d__law_divisor : FuncData
  F__law_divisor : Fun K "_law_divisor" "_law_divisor" s__law_divisor f__law_divisor d__law_divisor
  b__law_divisor : Binds K d__law_divisor ["one", "other"] []
  g__law_divisor : mg "_law_divisor" = some (.ref f__law_divisor)
  f_fraction : Addr
  d_fraction : FuncData
  F_fraction : Fun K "fraction" "fraction" s_fraction f_fraction d_fraction
  b_fraction : Binds K d_fraction ["top", "bottom"] []
  g_fraction : mg "fraction" = some (.ref f_fraction)
  f__law_low : Addr
  d__law_low : FuncData
  F__law_low : Fun K "_law_low" "_law_low" s__law_low f__law_low d__law_low
  b__law_low : Binds K d__law_low ["top", "bottom"] []
  g__law_low : mg "_law_low" = some (.ref f__law_low)
  f__law_far : Addr
  d__law_far : FuncData
  F__law_far : Fun K "_law_far" "_law_far" s__law_far f__law_far d__law_far
  b__law_far : Binds K d__law_far ["deck", "many"] []
  g__law_far : mg "_law_far" = some (.ref f__law_far)
  f_plus : Addr
  d_plus : FuncData
  F_plus : Fun K "plus" "plus" s_plus f_plus d_plus
  b_plus : Binds K d_plus ["q", "r"] []
  g_plus : mg "plus" = some (.ref f_plus)
  f_minus : Addr
  d_minus : FuncData
  F_minus : Fun K "minus" "minus" s_minus f_minus d_minus
  b_minus : Binds K d_minus ["q", "r"] []
  g_minus : mg "minus" = some (.ref f_minus)
  f_times : Addr
  d_times : FuncData
  F_times : Fun K "times" "times" s_times f_times d_times
  b_times : Binds K d_times ["q", "r"] []
  g_times : mg "times" = some (.ref f_times)
  f_over : Addr
  d_over : FuncData
  F_over : Fun K "over" "over" s_over f_over d_over
  b_over : Binds K d_over ["q", "r"] []
  g_over : mg "over" = some (.ref f_over)
  f__law_fraction : Addr
  d__law_fraction : FuncData
  F__law_fraction : Fun K "_law_fraction" "_law_fraction" s__law_fraction f__law_fraction d__law_fraction
  b__law_fraction : Binds K d__law_fraction ["deck"] []
  g__law_fraction : mg "_law_fraction" = some (.ref f__law_fraction)
  f__law_sums : Addr
  d__law_sums : FuncData
  F__law_sums : Fun K "_law_sums" "_law_sums" s__law_sums f__law_sums d__law_sums
  b__law_sums : Binds K d__law_sums ["q", "r", "s"] []
  g__law_sums : mg "_law_sums" = some (.ref f__law_sums)
  f__law_order : Addr
  d__law_order : FuncData
  F__law_order : Fun K "_law_order" "_law_order" s__law_order f__law_order d__law_order
  b__law_order : Binds K d__law_order ["q", "r", "s"] []
  g__law_order : mg "_law_order" = some (.ref f__law_order)
  f_law : Addr
  d_law : FuncData
  F_law : Fun K "law" "law" s_law f_law d_law
  b_law : Binds K d_law ["script"] []
  g_law : mg "law" = some (.ref f_law)
  z_abs : mg "abs" = none
  z_int : mg "int" = none
  z_len : mg "len" = none
  z_list : mg "list" = none
  z_range : mg "range" = none
section
variable {P : Program} {w : World} {K : PySem.W.Frag} {mg : Str → Option Value} {base : Heap}
theorem ok_divisor (T : Tx K mg) : FnOk P w K mg base CX0 1 T.f_divisor T.d_divisor ["one", "other"] (spT K false (fun _ => none) 2 [] m_divisor) := by
  unfold m_divisor
  refine fnT (N := N_divisor) (ps := ["one", "other"]) (k := 0) T.F_divisor sc_divisor (by decide) (by decide) fun cdv A outer s H E hr => ?_
  exact ⟨_, qss_cons (qs_while PassesOwn.never (qt_pcmp (op_neA hr.units) opNe_v (qp_var 1) (qp_int) (nomark _)) (qss_one (qs_par (i := 0) (j := 1) rfl sc_divisor.nd (qa_cons (qe_var 1) (qa_cons (QP.lift (qp_op op_modA opMod_v (qp_var 0) (qp_var 1))) (qa_nil)))))) <|
    qss_one (qs_ret (QP.lift (qp_callB call_absA opAbs_v T.z_abs bt_abs (qpa_cons (qp_var 0) (qpa_nil)))))⟩
theorem ok_below (T : Tx K mg) : FnOk P w K mg base CX0 1 T.f_below T.d_below ["q", "r"] (spT K false (fun _ => none) 2 [] m_below) := by
  unfold m_below
  refine fnT (N := N_below) (ps := ["q", "r"]) (k := 0) T.F_below sc_below (by decide) (by decide) fun cdv A outer s H E hr => ?_
  exact ⟨_, qss_one (qs_ret (QP.lift (qp_cmp op_ltA opLt_v (qp_op op_mulA opMulI_v (qp_ix (qp_var 0) (qp_int)) (qp_ix (qp_var 1) (qp_int))) (qp_op op_mulA opMulI_v (qp_ix (qp_var 1) (qp_int)) (qp_ix (qp_var 0) (qp_int))) (nomark _))))⟩
theorem ok__law_deck (T : Tx K mg) : FnOk P w K mg base CX0 1 T.f__law_deck T.d__law_deck ["script"] (spT K false (fun _ => none) 1 [] m__law_deck_2) := by
  unfold m__law_deck_2
  refine fnT (N := N__law_deck) (ps := ["script"]) (k := 0) T.F__law_deck sc__law_deck (by decide) (by decide) fun cdv A outer s H E hr => ?_
  exact ⟨_, qss_cons (qs_set (i := 1) sc__law_deck.nd (qe_callTy call_listOf opListOf_v opListOf_nox T.z_list bt_list (qa_cons (QE.fz (qe_slL (qp_var 0) (qo_none) (qo_some (qp_int)))) (qa_nil)))) <|
    qss_cons (qs_if (qt_eqNil (op_eqA hr.units) opEq_v (qp_var 1) (nomark _)) (qss_one (qs_set (i := 1) sc__law_deck.nd (qe_lst (qa_cons (QP.lift (qp_int)) (qa_nil))))) (qss_nil)) <|
    qss_one (qs_ret (qe_lst (qa_cons (qe_move 1) (qa_cons (QP.lift (qp_op op_modA opMod_v (qp_callB call_lenA opLen_v T.z_len bt_len (qpa_cons (qp_var 0) (qpa_nil))) (qp_int))) (qa_cons (QP.lift (qp_int)) (qa_nil))))))⟩
theorem ok__law_draw (T : Tx K mg) : FnOk P w K mg base CX0 1 T.f__law_draw T.d__law_draw ["deck", "many"] (spT K false (fun _ => none) 2 [0] m__law_draw) := by
  unfold m__law_draw
  refine fnT (N := N__law_draw) (ps := ["deck", "many"]) (k := 0) T.F__law_draw sc__law_draw (by decide) (by decide) fun cdv A outer s H E hr => ?_
  exact ⟨_, qss_cons (qs_set (i := 2) sc__law_draw.nd (QP.lift (qp_op op_modA opMod_v (qp_ix (qp_var 0) (qp_int)) (qp_callB call_lenA opLen_v T.z_len bt_len (qpa_cons (qp_ix (qp_var 0) (qp_int)) (qpa_nil)))))) <|
    qss_cons (qs_asg (QP.lift (qp_op op_addA opAdd_v (qp_ix (qp_var 0) (qp_int)) (qp_int))) (qg_item (ql_name 0) (qp_int))) <|
    qss_cons (qs_if (qt_pcmp (op_eqA hr.units) opEq_v (qp_ix (qp_var 0) (qp_int)) (qp_int) (nomark _)) (qss_cons (qs_set (i := 4) sc__law_draw.nd (QP.lift (qp_op op_modA opMod_v (qp_ix (qp_ix (qp_var 0) (qp_int)) (qp_var 2)) (qp_var 1)))) <|
    qss_cons (qs_asg (QP.lift (qp_op op_fdivA opFdiv_v (qp_ix (qp_ix (qp_var 0) (qp_int)) (qp_var 2)) (qp_var 1))) (qg_item (ql_ix (ql_name 0) (qp_int)) (qp_var 2))) <|
    qss_one (qs_ret (qe_var 4))) (qss_nil)) <|
    qss_cons (qs_set (i := 3) sc__law_draw.nd (QP.lift (qp_op op_modA opMod_v (qp_op op_addA opAdd_v (qp_op op_mulA opMulI_v (qp_op op_modA opMod_v (qp_ix (qp_ix (qp_var 0) (qp_int)) (qp_var 2)) (qp_int)) (qp_int)) (qp_op op_mulA opMulI_v (qp_ix (qp_var 0) (qp_int)) (qp_int))) (qp_int)))) <|
    qss_cons (qs_set (i := 3) sc__law_draw.nd (QP.lift (qp_op op_modA opMod_v (qp_op op_mulA opMulI_v (qp_var 3) (qp_var 3)) (qp_int)))) <|
    qss_one (qs_ret (QP.lift (qp_op op_modA opMod_v (qp_op op_fdivA opFdiv_v (qp_op op_modA opMod_v (qp_op op_addA opAdd_v (qp_op op_mulA opMulI_v (qp_var 3) (qp_int)) (qp_ix (qp_var 0) (qp_int))) (qp_int)) (qp_int)) (qp_var 1))))⟩
theorem ok__law_divisor (T : Tx K mg) : FnOk P w K mg base CX0 1 T.f__law_divisor T.d__law_divisor ["one", "other"] (spT K false (fun _ => none) 2 [] m__law_divisor) := by
  unfold m__law_divisor
  refine fnT (N := N__law_divisor) (ps := ["one", "other"]) (k := 0) T.F__law_divisor sc__law_divisor (by decide) (by decide) fun cdv A outer s H E hr => ?_
  exact ⟨_, qss_cons (qs_while PassesOwn.never (qt_pcmp (op_neA hr.units) opNe_v (qp_var 1) (qp_int) (nomark _)) (qss_one (qs_par (i := 0) (j := 1) rfl sc__law_divisor.nd (qa_cons (qe_var 1) (qa_cons (QP.lift (qp_op op_modA opMod_v (qp_var 0) (qp_var 1))) (qa_nil)))))) <|
    qss_one (qs_ret (QP.lift (qp_callB call_absA opAbs_v T.z_abs bt_abs (qpa_cons (qp_var 0) (qpa_nil)))))⟩
theorem ok_fraction (T : Tx K mg) : FnOk P w K mg base CX0 2 T.f_fraction T.d_fraction ["top", "bottom"] (spT K false (fun _ => none) 2 [] m_fraction) := by
  unfold m_fraction
  refine fnT (N := N_fraction) (ps := ["top", "bottom"]) (k := 1) T.F_fraction sc_fraction (by decide) (by decide) fun cdv A outer s H E hr => ?_
  exact ⟨_, qss_cons (qs_if (qt_pcmp (op_eqA hr.units) opEq_v (qp_var 1) (qp_int) (nomark _)) (qss_one (qs_never)) (qss_nil)) <|
    qss_cons (qs_set (i := 2) sc_fraction.nd (qe_call (ok_divisor T) hr T.g_divisor T.F_divisor.kp T.b_divisor pass0 (qb_cons (qe_var 0) (qb_cons (qe_var 1) (qb_nil))))) <|
    qss_cons (qs_if (qt_pcmp op_ltA opLt_v (qp_var 1) (qp_int) (nomark _)) (qss_one (qs_set (i := 2) sc_fraction.nd (QP.lift (qp_op op_subA opSub_v (qp_int) (qp_var 2))))) (qss_nil)) <|
    qss_one (qs_ret (qe_tup (qa_cons (QP.lift (qp_op op_fdivA opFdiv_v (qp_var 0) (qp_var 2))) (qa_cons (QP.lift (qp_op op_fdivA opFdiv_v (qp_var 1) (qp_var 2))) (qa_nil)))))⟩
theorem ok__law_low (T : Tx K mg) : FnOk P w K mg base CX0 2 T.f__law_low T.d__law_low ["top", "bottom"] (spT K false (fun _ => none) 2 [] m__law_low) := by
  unfold m__law_low
  refine fnT (N := N__law_low) (ps := ["top", "bottom"]) (k := 1) T.F__law_low sc__law_low (by decide) (by decide) fun cdv A outer s H E hr => ?_
  exact ⟨_, qss_cons (qs_set (i := 2) sc__law_low.nd (qe_call (ok__law_divisor T) hr T.g__law_divisor T.F__law_divisor.kp T.b__law_divisor pass0 (qb_cons (qe_var 0) (qb_cons (qe_var 1) (qb_nil))))) <|
    qss_cons (qs_if (qt_pcmp op_ltA opLt_v (qp_var 1) (qp_int) (nomark _)) (qss_one (qs_set (i := 2) sc__law_low.nd (QP.lift (qp_op op_subA opSub_v (qp_int) (qp_var 2))))) (qss_nil)) <|
    qss_one (qs_ret (qe_tup (qa_cons (QP.lift (qp_op op_fdivA opFdiv_v (qp_var 0) (qp_var 2))) (qa_cons (QP.lift (qp_op op_fdivA opFdiv_v (qp_var 1) (qp_var 2))) (qa_nil)))))⟩
theorem ok__law_far (T : Tx K mg) : FnOk P w K mg base CX0 2 T.f__law_far T.d__law_far ["deck", "many"] (spT K false (fun _ => none) 2 [0] m__law_far_2) := by
  unfold m__law_far_2
  refine fnT (N := N__law_far) (ps := ["deck", "many"]) (k := 1) T.F__law_far sc__law_far (by decide) (by decide) fun cdv A outer s H E hr => ?_
  exact ⟨_, qss_cons (qs_set (i := 2) sc__law_far.nd (QP.lift (qp_int))) <|
    qss_cons (qs_for rfl PassesOwn.never (qi_range1 T.z_range (qa_cons (qe_var 1) (qa_nil))) (qg_name (i := 3) sc__law_far.nd) (qss_one (qs_set (i := 2) sc__law_far.nd (qe_op op_addA opAdd_v opAdd_nox (qe_op op_addA opAdd_v opAdd_nox (QP.lift (qp_op op_mulA opMulI_v (qp_var 2) (qp_op op_powA opPow_v (qp_int) (qp_int)))) (qe_op op_mulA opMulI_v opI2_nox (qe_call (ok__law_draw T) hr T.g__law_draw T.F__law_draw.kp T.b__law_draw pass0 (qb_io 0 (qb_cons (QP.lift (qp_op op_powA opPow_v (qp_int) (qp_int))) (qb_nil)))) (QP.lift (qp_op op_powA opPow_v (qp_int) (qp_int))))) (qe_call (ok__law_draw T) hr T.g__law_draw T.F__law_draw.kp T.b__law_draw pass0 (qb_io 0 (qb_cons (QP.lift (qp_op op_powA opPow_v (qp_int) (qp_int))) (qb_nil)))))))) <|
    qss_one (qs_ret (qe_op op_mulA opMulI_v opI2_nox (qe_var 2) (qe_ix (qe_lst (qa_cons (QP.lift (qp_int)) (qa_cons (QP.lift (qp_neg (qp_int))) (qa_nil)))) (qe_call (ok__law_draw T) hr T.g__law_draw T.F__law_draw.kp T.b__law_draw pass0 (qb_io 0 (qb_cons (QP.lift (qp_int)) (qb_nil)))))))⟩
theorem ok_plus (T : Tx K mg) : FnOk P w K mg base CX0 3 T.f_plus T.d_plus ["q", "r"] (spT K false (fun _ => none) 2 [] m_plus) := by
  unfold m_plus
  refine fnT (N := N_plus) (ps := ["q", "r"]) (k := 2) T.F_plus sc_plus (by decide) (by decide) fun cdv A outer s H E hr => ?_
  exact ⟨_, qss_one (qs_ret (qe_call (ok_fraction T) hr T.g_fraction T.F_fraction.kp T.b_fraction pass0 (qb_cons (QP.lift (qp_op op_addA opAdd_v (qp_op op_mulA opMulI_v (qp_ix (qp_var 0) (qp_int)) (qp_ix (qp_var 1) (qp_int))) (qp_op op_mulA opMulI_v (qp_ix (qp_var 1) (qp_int)) (qp_ix (qp_var 0) (qp_int))))) (qb_cons (QP.lift (qp_op op_mulA opMulI_v (qp_ix (qp_var 0) (qp_int)) (qp_ix (qp_var 1) (qp_int)))) (qb_nil)))))⟩
theorem ok_minus (T : Tx K mg) : FnOk P w K mg base CX0 3 T.f_minus T.d_minus ["q", "r"] (spT K false (fun _ => none) 2 [] m_minus) := by
  unfold m_minus
  refine fnT (N := N_minus) (ps := ["q", "r"]) (k := 2) T.F_minus sc_minus (by decide) (by decide) fun cdv A outer s H E hr => ?_
  exact ⟨_, qss_one (qs_ret (qe_call (ok_fraction T) hr T.g_fraction T.F_fraction.kp T.b_fraction pass0 (qb_cons (QP.lift (qp_op op_subA opSub_v (qp_op op_mulA opMulI_v (qp_ix (qp_var 0) (qp_int)) (qp_ix (qp_var 1) (qp_int))) (qp_op op_mulA opMulI_v (qp_ix (qp_var 1) (qp_int)) (qp_ix (qp_var 0) (qp_int))))) (qb_cons (QP.lift (qp_op op_mulA opMulI_v (qp_ix (qp_var 0) (qp_int)) (qp_ix (qp_var 1) (qp_int)))) (qb_nil)))))⟩
theorem ok_times (T : Tx K mg) : FnOk P w K mg base CX0 3 T.f_times T.d_times ["q", "r"] (spT K false (fun _ => none) 2 [] m_times) := by
  unfold m_times
  refine fnT (N := N_times) (ps := ["q", "r"]) (k := 2) T.F_times sc_times (by decide) (by decide) fun cdv A outer s H E hr => ?_
  exact ⟨_, qss_one (qs_ret (qe_call (ok_fraction T) hr T.g_fraction T.F_fraction.kp T.b_fraction pass0 (qb_cons (QP.lift (qp_op op_mulA opMulI_v (qp_ix (qp_var 0) (qp_int)) (qp_ix (qp_var 1) (qp_int)))) (qb_cons (QP.lift (qp_op op_mulA opMulI_v (qp_ix (qp_var 0) (qp_int)) (qp_ix (qp_var 1) (qp_int)))) (qb_nil)))))⟩
theorem ok_over (T : Tx K mg) : FnOk P w K mg base CX0 3 T.f_over T.d_over ["q", "r"] (spT K false (fun _ => none) 2 [] m_over) := by
  unfold m_over
  refine fnT (N := N_over) (ps := ["q", "r"]) (k := 2) T.F_over sc_over (by decide) (by decide) fun cdv A outer s H E hr => ?_
  exact ⟨_, qss_one (qs_ret (qe_call (ok_fraction T) hr T.g_fraction T.F_fraction.kp T.b_fraction pass0 (qb_cons (QP.lift (qp_op op_mulA opMulI_v (qp_ix (qp_var 0) (qp_int)) (qp_ix (qp_var 1) (qp_int)))) (qb_cons (QP.lift (qp_op op_mulA opMulI_v (qp_ix (qp_var 0) (qp_int)) (qp_ix (qp_var 1) (qp_int)))) (qb_nil)))))⟩
theorem ok__law_fraction (T : Tx K mg) : FnOk P w K mg base CX0 3 T.f__law_fraction T.d__law_fraction ["deck"] (spT K false (fun _ => none) 1 [0] m__law_fraction_3) := by
  unfold m__law_fraction_3
  refine fnT (N := N__law_fraction) (ps := ["deck"]) (k := 2) T.F__law_fraction sc__law_fraction (by decide) (by decide) fun cdv A outer s H E hr => ?_
  exact ⟨_, qss_cons (qs_set (i := 1) sc__law_fraction.nd (qe_ix (qe_lst (qa_cons (qe_op op_subA opSub_v opI2_nox (qe_call (ok__law_draw T) (hr.mono (by decide)) T.g__law_draw T.F__law_draw.kp T.b__law_draw pass0 (qb_io 0 (qb_cons (QP.lift (qp_int)) (qb_nil)))) (QP.lift (qp_int))) (qa_cons (qe_call (ok__law_far T) hr T.g__law_far T.F__law_far.kp T.b__law_far pass0 (qb_io 0 (qb_cons (QP.lift (qp_int)) (qb_nil)))) (qa_cons (qe_call (ok__law_far T) hr T.g__law_far T.F__law_far.kp T.b__law_far pass0 (qb_io 0 (qb_cons (QP.lift (qp_int)) (qb_nil)))) (qa_nil))))) (qe_call (ok__law_draw T) (hr.mono (by decide)) T.g__law_draw T.F__law_draw.kp T.b__law_draw pass0 (qb_io 0 (qb_cons (QP.lift (qp_int)) (qb_nil)))))) <|
    qss_cons (qs_set (i := 2) sc__law_fraction.nd (qe_ix (qe_lst (qa_cons (QP.lift (qp_int)) (qa_cons (qe_op op_addA opAdd_v opAdd_nox (QP.lift (qp_int)) (qe_call (ok__law_draw T) (hr.mono (by decide)) T.g__law_draw T.F__law_draw.kp T.b__law_draw pass0 (qb_io 0 (qb_cons (QP.lift (qp_int)) (qb_nil))))) (qa_cons (qe_op op_addA opAdd_v opAdd_nox (QP.lift (qp_int)) (qe_callB call_absA opAbs_v opAbs_nox T.z_abs bt_abs (qa_cons (qe_call (ok__law_far T) hr T.g__law_far T.F__law_far.kp T.b__law_far pass0 (qb_io 0 (qb_cons (QP.lift (qp_int)) (qb_nil)))) (qa_nil)))) (qa_cons (qe_op op_addA opAdd_v opAdd_nox (QP.lift (qp_int)) (qe_callB call_absA opAbs_v opAbs_nox T.z_abs bt_abs (qa_cons (qe_call (ok__law_far T) hr T.g__law_far T.F__law_far.kp T.b__law_far pass0 (qb_io 0 (qb_cons (QP.lift (qp_int)) (qb_nil)))) (qa_nil)))) (qa_nil)))))) (qe_call (ok__law_draw T) (hr.mono (by decide)) T.g__law_draw T.F__law_draw.kp T.b__law_draw pass0 (qb_io 0 (qb_cons (QP.lift (qp_int)) (qb_nil)))))) <|
    qss_one (qs_ret (qe_call (ok__law_low T) hr T.g__law_low T.F__law_low.kp T.b__law_low pass0 (qb_cons (qe_var 1) (qb_cons (qe_var 2) (qb_nil)))))⟩
theorem ok__law_sums (T : Tx K mg) : FnOk P w K mg base CX0 4 T.f__law_sums T.d__law_sums ["q", "r", "s"] (spT K false (fun _ => none) 3 [] m__law_sums) := by
  unfold m__law_sums
  refine fnT (N := N__law_sums) (ps := ["q", "r", "s"]) (k := 3) T.F__law_sums sc__law_sums (by decide) (by decide) fun cdv A outer s H E hr => ?_
  exact ⟨_, qss_cons (qs_if (QW.qt (qw_or (qt_cmp (op_neA hr.units) opNe_v opNe_nox (qe_call (ok_minus T) hr T.g_minus T.F_minus.kp T.b_minus pass0 (qb_cons (qe_call (ok_plus T) hr T.g_plus T.F_plus.kp T.b_plus pass0 (qb_cons (qe_var 0) (qb_cons (qe_var 1) (qb_nil)))) (qb_cons (qe_var 1) (qb_nil)))) (qe_var 0) (nomark _)) (qw_or (qt_cmp (op_neA hr.units) opNe_v opNe_nox (qe_call (ok_plus T) hr T.g_plus T.F_plus.kp T.b_plus pass0 (qb_cons (qe_var 0) (qb_cons (qe_var 1) (qb_nil)))) (qe_call (ok_plus T) hr T.g_plus T.F_plus.kp T.b_plus pass0 (qb_cons (qe_var 1) (qb_cons (qe_var 0) (qb_nil)))) (nomark _)) (qw_or1 (qt_cmp (op_neA hr.units) opNe_v opNe_nox (qe_call (ok_plus T) hr T.g_plus T.F_plus.kp T.b_plus pass0 (qb_cons (qe_call (ok_plus T) hr T.g_plus T.F_plus.kp T.b_plus pass0 (qb_cons (qe_var 0) (qb_cons (qe_var 1) (qb_nil)))) (qb_cons (qe_var 2) (qb_nil)))) (qe_call (ok_plus T) hr T.g_plus T.F_plus.kp T.b_plus pass0 (qb_cons (qe_var 0) (qb_cons (qe_call (ok_plus T) hr T.g_plus T.F_plus.kp T.b_plus pass0 (qb_cons (qe_var 1) (qb_cons (qe_var 2) (qb_nil)))) (qb_nil)))) (nomark _)))))) (qss_one (qs_ret (QP.lift (qp_bl)))) (qss_nil)) <|
    qss_cons (qs_if (QW.qt (qw_or (qt_cmp (op_neA hr.units) opNe_v opNe_nox (qe_call (ok_times T) hr T.g_times T.F_times.kp T.b_times pass0 (qb_cons (qe_var 0) (qb_cons (qe_var 1) (qb_nil)))) (qe_call (ok_times T) hr T.g_times T.F_times.kp T.b_times pass0 (qb_cons (qe_var 1) (qb_cons (qe_var 0) (qb_nil)))) (nomark _)) (qw_or1 (qt_cmp (op_neA hr.units) opNe_v opNe_nox (qe_call (ok_times T) hr T.g_times T.F_times.kp T.b_times pass0 (qb_cons (qe_call (ok_times T) hr T.g_times T.F_times.kp T.b_times pass0 (qb_cons (qe_var 0) (qb_cons (qe_var 1) (qb_nil)))) (qb_cons (qe_var 2) (qb_nil)))) (qe_call (ok_times T) hr T.g_times T.F_times.kp T.b_times pass0 (qb_cons (qe_var 0) (qb_cons (qe_call (ok_times T) hr T.g_times T.F_times.kp T.b_times pass0 (qb_cons (qe_var 1) (qb_cons (qe_var 2) (qb_nil)))) (qb_nil)))) (nomark _))))) (qss_one (qs_ret (QP.lift (qp_bl)))) (qss_nil)) <|
    qss_cons (qs_if (qt_cmp (op_neA hr.units) opNe_v opNe_nox (qe_call (ok_times T) hr T.g_times T.F_times.kp T.b_times pass0 (qb_cons (qe_var 0) (qb_cons (qe_call (ok_plus T) hr T.g_plus T.F_plus.kp T.b_plus pass0 (qb_cons (qe_var 1) (qb_cons (qe_var 2) (qb_nil)))) (qb_nil)))) (qe_call (ok_plus T) hr T.g_plus T.F_plus.kp T.b_plus pass0 (qb_cons (qe_call (ok_times T) hr T.g_times T.F_times.kp T.b_times pass0 (qb_cons (qe_var 0) (qb_cons (qe_var 1) (qb_nil)))) (qb_cons (qe_call (ok_times T) hr T.g_times T.F_times.kp T.b_times pass0 (qb_cons (qe_var 0) (qb_cons (qe_var 2) (qb_nil)))) (qb_nil)))) (nomark _)) (qss_one (qs_ret (QP.lift (qp_bl)))) (qss_nil)) <|
    qss_one (qs_ret (qe_or (QP.lift (qp_cmp (op_eqA hr.units) opEq_v (qp_ix (qp_var 1) (qp_int)) (qp_int) (nomark _))) (qe_one (qe_and (qe_cmp (op_eqA hr.units) opEq_v opEq_nox (qe_call (ok_over T) hr T.g_over T.F_over.kp T.b_over pass0 (qb_cons (qe_call (ok_times T) hr T.g_times T.F_times.kp T.b_times pass0 (qb_cons (qe_var 0) (qb_cons (qe_var 1) (qb_nil)))) (qb_cons (qe_var 1) (qb_nil)))) (qe_var 0) (nomark _)) (qe_one (qe_cmp (op_eqA hr.units) opEq_v opEq_nox (qe_call (ok_times T) hr T.g_times T.F_times.kp T.b_times pass0 (qb_cons (qe_call (ok_over T) hr T.g_over T.F_over.kp T.b_over pass0 (qb_cons (qe_var 0) (qb_cons (qe_var 1) (qb_nil)))) (qb_cons (qe_var 1) (qb_nil)))) (qe_var 0) (nomark _)))))))⟩
theorem ok__law_order (T : Tx K mg) : FnOk P w K mg base CX0 4 T.f__law_order T.d__law_order ["q", "r", "s"] (spT K false (fun _ => none) 3 [] m__law_order) := by
  unfold m__law_order
  refine fnT (N := N__law_order) (ps := ["q", "r", "s"]) (k := 3) T.F__law_order sc__law_order (by decide) (by decide) fun cdv A outer s H E hr => ?_
  exact ⟨_, qss_cons (qs_if (QW.qt (qw_or (qt_cmp (op_neA hr.units) opNe_v opNe_nox (qe_call (ok_below T) (hr.mono (by decide)) T.g_below T.F_below.kp T.b_below pass0 (qb_cons (qe_var 0) (qb_cons (qe_var 1) (qb_nil)))) (qe_call (ok_below T) (hr.mono (by decide)) T.g_below T.F_below.kp T.b_below pass0 (qb_cons (qe_call (ok_plus T) hr T.g_plus T.F_plus.kp T.b_plus pass0 (qb_cons (qe_var 0) (qb_cons (qe_var 2) (qb_nil)))) (qb_cons (qe_call (ok_plus T) hr T.g_plus T.F_plus.kp T.b_plus pass0 (qb_cons (qe_var 1) (qb_cons (qe_var 2) (qb_nil)))) (qb_nil)))) (nomark _)) (qw_or1 (qt_cmp (op_neA hr.units) opNe_v opNe_nox (qe_call (ok_below T) (hr.mono (by decide)) T.g_below T.F_below.kp T.b_below pass0 (qb_cons (qe_var 0) (qb_cons (qe_var 1) (qb_nil)))) (qe_cmp op_gtA opGt_v opI2_nox (qe_ix (qe_call (ok_minus T) hr T.g_minus T.F_minus.kp T.b_minus pass0 (qb_cons (qe_var 1) (qb_cons (qe_var 0) (qb_nil)))) (QP.lift (qp_int))) (QP.lift (qp_int)) (nomark _)) (nomark _))))) (qss_one (qs_ret (QP.lift (qp_bl)))) (qss_nil)) <|
    qss_cons (qs_if (QW.qt (qw_and (qt_pcmp op_gtA opGt_v (qp_ix (qp_var 2) (qp_int)) (qp_int) (nomark _)) (qw_and1 (qt_cmp (op_neA hr.units) opNe_v opNe_nox (qe_call (ok_below T) (hr.mono (by decide)) T.g_below T.F_below.kp T.b_below pass0 (qb_cons (qe_call (ok_times T) hr T.g_times T.F_times.kp T.b_times pass0 (qb_cons (qe_var 0) (qb_cons (qe_var 2) (qb_nil)))) (qb_cons (qe_call (ok_times T) hr T.g_times T.F_times.kp T.b_times pass0 (qb_cons (qe_var 1) (qb_cons (qe_var 2) (qb_nil)))) (qb_nil)))) (qe_call (ok_below T) (hr.mono (by decide)) T.g_below T.F_below.kp T.b_below pass0 (qb_cons (qe_var 0) (qb_cons (qe_var 1) (qb_nil)))) (nomark _))))) (qss_one (qs_ret (QP.lift (qp_bl)))) (qss_nil)) <|
    qss_cons (qs_if (QW.qt (qw_and (qt_pcmp op_ltA opLt_v (qp_ix (qp_var 2) (qp_int)) (qp_int) (nomark _)) (qw_and1 (qt_cmp (op_neA hr.units) opNe_v opNe_nox (qe_call (ok_below T) (hr.mono (by decide)) T.g_below T.F_below.kp T.b_below pass0 (qb_cons (qe_call (ok_times T) hr T.g_times T.F_times.kp T.b_times pass0 (qb_cons (qe_var 1) (qb_cons (qe_var 2) (qb_nil)))) (qb_cons (qe_call (ok_times T) hr T.g_times T.F_times.kp T.b_times pass0 (qb_cons (qe_var 0) (qb_cons (qe_var 2) (qb_nil)))) (qb_nil)))) (qe_call (ok_below T) (hr.mono (by decide)) T.g_below T.F_below.kp T.b_below pass0 (qb_cons (qe_var 0) (qb_cons (qe_var 1) (qb_nil)))) (nomark _))))) (qss_one (qs_ret (QP.lift (qp_bl)))) (qss_nil)) <|
    qss_one (qs_ret (qe_cmp (op_eqA hr.units) opEq_v opEq_nox (qe_tupCount (u65 hr) (qa_cons (qe_call (ok_below T) (hr.mono (by decide)) T.g_below T.F_below.kp T.b_below pass0 (qb_cons (qe_var 0) (qb_cons (qe_var 1) (qb_nil)))) (qa_cons (qe_call (ok_below T) (hr.mono (by decide)) T.g_below T.F_below.kp T.b_below pass0 (qb_cons (qe_var 1) (qb_cons (qe_var 0) (qb_nil)))) (qa_nil))) (qp_bl)) (QP.lift (qp_callTy call_int1A opInt1_v T.z_int bt_int (qpa_cons (qp_cmp (op_neA hr.units) opNe_v (qp_var 0) (qp_var 1) (nomark _)) (qpa_nil)))) (nomark _)))⟩
theorem ok_law (T : Tx K mg) : FnOk P w K mg base CX0 5 T.f_law T.d_law ["script"] (spT K false (fun _ => none) 1 [] m_law_8) := by
  unfold m_law_8
  refine fnT (N := N_law) (ps := ["script"]) (k := 4) T.F_law sc_law (by decide) (by decide) fun cdv A outer s H E hr => ?_
  exact ⟨_, qss_cons (qs_set (i := 1) sc_law.nd (qe_call (ok__law_deck T) (hr.mono (by decide)) T.g__law_deck T.F__law_deck.kp T.b__law_deck pass0 (qb_cons (qe_rd 0) (qb_nil)))) <|
    qss_cons (qs_for rfl PassesOwn.never (qi_range1 T.z_range (qa_cons (QP.lift (qp_int)) (qa_nil))) (qg_name (i := 2) sc_law.nd) (qss_cons (qs_asg (QE.fz (qe_lcC (own := [("one", 6)]) (vs := [6]) rfl rfl sc_law.nd  (qi_range1 T.z_range (qa_cons (QP.lift (qp_int)) (qa_nil))) (blkOk_by (N := N_law) (sc := defScope s_law) (by decide +kernel)) (fun _ _ _ _ _ => ⟨_, qg_name (i := 6) sc_law.nd⟩) (fun _ _ _ _ _ => ⟨_, qts_nil⟩) (fun _ _ _ _ _ => ⟨_, qe_call (ok__law_fraction T) (hr.mono (by decide)) T.g__law_fraction T.F__law_fraction.kp T.b__law_fraction pass0 (qb_io 1 (qb_nil))⟩) s H)) (qg_lst rfl (qgs_cons (qg_name (i := 3) sc_law.nd) (qgs_cons (qg_name (i := 4) sc_law.nd) (qgs_cons (qg_name (i := 5) sc_law.nd) (qgs_nil)))))) <|
    qss_cons (qs_if (QW.qt (qw_or (qt_not (qt_val (qe_call (ok__law_sums T) hr T.g__law_sums T.F__law_sums.kp T.b__law_sums pass0 (qb_cons (qe_var 3) (qb_cons (qe_var 4) (qb_cons (qe_var 5) (qb_nil))))))) (qw_or (qt_not (qt_val (qe_call (ok__law_order T) hr T.g__law_order T.F__law_order.kp T.b__law_order pass0 (qb_cons (qe_var 3) (qb_cons (qe_var 4) (qb_cons (qe_var 5) (qb_nil))))))) (qw_or1 (qt_not (qt_val (qe_call (ok__law_order T) hr T.g__law_order T.F__law_order.kp T.b__law_order pass0 (qb_cons (qe_var 3) (qb_cons (qe_var 3) (qb_cons (qe_var 4) (qb_nil))))))))))) (qss_one (qs_ret (QP.lift (qp_bl)))) (qss_nil)) <|
    qss_one (qs_if (QW.qt (qw_or (qt_cmp (op_neA hr.units) opNe_v opNe_nox (qe_call (ok_over T) (hr.mono (by decide)) T.g_over T.F_over.kp T.b_over pass0 (qb_cons (qe_tup (qa_cons (QP.lift (qp_ix (qp_var 3) (qp_int))) (qa_cons (QP.lift (qp_int)) (qa_nil)))) (qb_cons (qe_tup (qa_cons (QP.lift (qp_ix (qp_var 3) (qp_int))) (qa_cons (QP.lift (qp_int)) (qa_nil)))) (qb_nil)))) (qe_var 3) (nomark _)) (qw_or1 (qt_cmp (op_neA hr.units) opNe_v opNe_nox (qe_call (ok_fraction T) (hr.mono (by decide)) T.g_fraction T.F_fraction.kp T.b_fraction pass0 (qb_cons (QP.lift (qp_op op_subA opSub_v (qp_int) (qp_ix (qp_var 3) (qp_int)))) (qb_cons (QP.lift (qp_op op_subA opSub_v (qp_int) (qp_ix (qp_var 3) (qp_int)))) (qb_nil)))) (qe_var 3) (nomark _))))) (qss_one (qs_ret (QP.lift (qp_bl)))) (qss_nil)))) <|
    qss_one (qs_ret (QP.lift (qp_bl)))⟩
end
theorem all_mk {l : PySem.W.OpenLaw} {w : World} {K : PySem.W.Frag} {h : Heap} {mg : Str → Option Value} {fa : Addr} (X : K.In h) (G : h.Ns mainGlobals mg) (hfa : mg "law" = some (.ref fa))
    {od0 an0 : Option Addr} {sl0 : Array (Option Value)} {oc0 kV0 dc0 pm0 cd0 ct0 : Value} {f0 : Addr} (a0 : PySem.W.nsIn K mainGlobals "divisor" = some (some (.ref f0))) (l0 : K.lookup f0 = some ⟨oc0, od0, .func (PySem.W.fnOf "divisor" "divisor" (defArgs s_divisor) (defBody s_divisor) (defScope s_divisor) .none kV0 dc0 pm0 an0 cd0 ct0), sl0⟩) (c0 : PySem.W.codeIn K cd0 "divisor" = true) (k0 : PySem.W.keepIn K (.ref f0) = true)
    {od1 an1 : Option Addr} {sl1 : Array (Option Value)} {oc1 kV1 dc1 pm1 cd1 ct1 : Value} {f1 : Addr} (a1 : PySem.W.nsIn K mainGlobals "below" = some (some (.ref f1))) (l1 : K.lookup f1 = some ⟨oc1, od1, .func (PySem.W.fnOf "below" "below" (defArgs s_below) (defBody s_below) (defScope s_below) .none kV1 dc1 pm1 an1 cd1 ct1), sl1⟩) (c1 : PySem.W.codeIn K cd1 "below" = true) (k1 : PySem.W.keepIn K (.ref f1) = true)
    {od2 an2 : Option Addr} {sl2 : Array (Option Value)} {oc2 kV2 dc2 pm2 cd2 ct2 : Value} {f2 : Addr} (a2 : PySem.W.nsIn K mainGlobals "_law_deck" = some (some (.ref f2))) (l2 : K.lookup f2 = some ⟨oc2, od2, .func (PySem.W.fnOf "_law_deck" "_law_deck" (defArgs s__law_deck) (defBody s__law_deck) (defScope s__law_deck) .none kV2 dc2 pm2 an2 cd2 ct2), sl2⟩) (c2 : PySem.W.codeIn K cd2 "_law_deck" = true) (k2 : PySem.W.keepIn K (.ref f2) = true)
    {od3 an3 : Option Addr} {sl3 : Array (Option Value)} {oc3 kV3 dc3 pm3 cd3 ct3 : Value} {f3 : Addr} (a3 : PySem.W.nsIn K mainGlobals "_law_draw" = some (some (.ref f3))) (l3 : K.lookup f3 = some ⟨oc3, od3, .func (PySem.W.fnOf "_law_draw" "_law_draw" (defArgs s__law_draw) (defBody s__law_draw) (defScope s__law_draw) .none kV3 dc3 pm3 an3 cd3 ct3), sl3⟩) (c3 : PySem.W.codeIn K cd3 "_law_draw" = true) (k3 : PySem.W.keepIn K (.ref f3) = true)
    {od4 an4 : Option Addr} {sl4 : Array (Option Value)} {oc4 kV4 dc4 pm4 cd4 ct4 : Value} {f4 : Addr} (a4 : PySem.W.nsIn K mainGlobals "_law_divisor" = some (some (.ref f4))) (l4 : K.lookup f4 = some ⟨oc4, od4, .func (PySem.W.fnOf "_law_divisor" "_law_divisor" (defArgs s__law_divisor) (defBody s__law_divisor) (defScope s__law_divisor) .none kV4 dc4 pm4 an4 cd4 ct4), sl4⟩) (c4 : PySem.W.codeIn K cd4 "_law_divisor" = true) (k4 : PySem.W.keepIn K (.ref f4) = true)
    {od5 an5 : Option Addr} {sl5 : Array (Option Value)} {oc5 kV5 dc5 pm5 cd5 ct5 : Value} {f5 : Addr} (a5 : PySem.W.nsIn K mainGlobals "fraction" = some (some (.ref f5))) (l5 : K.lookup f5 = some ⟨oc5, od5, .func (PySem.W.fnOf "fraction" "fraction" (defArgs s_fraction) (defBody s_fraction) (defScope s_fraction) .none kV5 dc5 pm5 an5 cd5 ct5), sl5⟩) (c5 : PySem.W.codeIn K cd5 "fraction" = true) (k5 : PySem.W.keepIn K (.ref f5) = true)
    {od6 an6 : Option Addr} {sl6 : Array (Option Value)} {oc6 kV6 dc6 pm6 cd6 ct6 : Value} {f6 : Addr} (a6 : PySem.W.nsIn K mainGlobals "_law_low" = some (some (.ref f6))) (l6 : K.lookup f6 = some ⟨oc6, od6, .func (PySem.W.fnOf "_law_low" "_law_low" (defArgs s__law_low) (defBody s__law_low) (defScope s__law_low) .none kV6 dc6 pm6 an6 cd6 ct6), sl6⟩) (c6 : PySem.W.codeIn K cd6 "_law_low" = true) (k6 : PySem.W.keepIn K (.ref f6) = true)
    {od7 an7 : Option Addr} {sl7 : Array (Option Value)} {oc7 kV7 dc7 pm7 cd7 ct7 : Value} {f7 : Addr} (a7 : PySem.W.nsIn K mainGlobals "_law_far" = some (some (.ref f7))) (l7 : K.lookup f7 = some ⟨oc7, od7, .func (PySem.W.fnOf "_law_far" "_law_far" (defArgs s__law_far) (defBody s__law_far) (defScope s__law_far) .none kV7 dc7 pm7 an7 cd7 ct7), sl7⟩) (c7 : PySem.W.codeIn K cd7 "_law_far" = true) (k7 : PySem.W.keepIn K (.ref f7) = true)
    {od8 an8 : Option Addr} {sl8 : Array (Option Value)} {oc8 kV8 dc8 pm8 cd8 ct8 : Value} {f8 : Addr} (a8 : PySem.W.nsIn K mainGlobals "plus" = some (some (.ref f8))) (l8 : K.lookup f8 = some ⟨oc8, od8, .func (PySem.W.fnOf "plus" "plus" (defArgs s_plus) (defBody s_plus) (defScope s_plus) .none kV8 dc8 pm8 an8 cd8 ct8), sl8⟩) (c8 : PySem.W.codeIn K cd8 "plus" = true) (k8 : PySem.W.keepIn K (.ref f8) = true)
    {od9 an9 : Option Addr} {sl9 : Array (Option Value)} {oc9 kV9 dc9 pm9 cd9 ct9 : Value} {f9 : Addr} (a9 : PySem.W.nsIn K mainGlobals "minus" = some (some (.ref f9))) (l9 : K.lookup f9 = some ⟨oc9, od9, .func (PySem.W.fnOf "minus" "minus" (defArgs s_minus) (defBody s_minus) (defScope s_minus) .none kV9 dc9 pm9 an9 cd9 ct9), sl9⟩) (c9 : PySem.W.codeIn K cd9 "minus" = true) (k9 : PySem.W.keepIn K (.ref f9) = true)
    {od10 an10 : Option Addr} {sl10 : Array (Option Value)} {oc10 kV10 dc10 pm10 cd10 ct10 : Value} {f10 : Addr} (a10 : PySem.W.nsIn K mainGlobals "times" = some (some (.ref f10))) (l10 : K.lookup f10 = some ⟨oc10, od10, .func (PySem.W.fnOf "times" "times" (defArgs s_times) (defBody s_times) (defScope s_times) .none kV10 dc10 pm10 an10 cd10 ct10), sl10⟩) (c10 : PySem.W.codeIn K cd10 "times" = true) (k10 : PySem.W.keepIn K (.ref f10) = true)
    {od11 an11 : Option Addr} {sl11 : Array (Option Value)} {oc11 kV11 dc11 pm11 cd11 ct11 : Value} {f11 : Addr} (a11 : PySem.W.nsIn K mainGlobals "over" = some (some (.ref f11))) (l11 : K.lookup f11 = some ⟨oc11, od11, .func (PySem.W.fnOf "over" "over" (defArgs s_over) (defBody s_over) (defScope s_over) .none kV11 dc11 pm11 an11 cd11 ct11), sl11⟩) (c11 : PySem.W.codeIn K cd11 "over" = true) (k11 : PySem.W.keepIn K (.ref f11) = true)
    {od12 an12 : Option Addr} {sl12 : Array (Option Value)} {oc12 kV12 dc12 pm12 cd12 ct12 : Value} {f12 : Addr} (a12 : PySem.W.nsIn K mainGlobals "_law_fraction" = some (some (.ref f12))) (l12 : K.lookup f12 = some ⟨oc12, od12, .func (PySem.W.fnOf "_law_fraction" "_law_fraction" (defArgs s__law_fraction) (defBody s__law_fraction) (defScope s__law_fraction) .none kV12 dc12 pm12 an12 cd12 ct12), sl12⟩) (c12 : PySem.W.codeIn K cd12 "_law_fraction" = true) (k12 : PySem.W.keepIn K (.ref f12) = true)
    {od13 an13 : Option Addr} {sl13 : Array (Option Value)} {oc13 kV13 dc13 pm13 cd13 ct13 : Value} {f13 : Addr} (a13 : PySem.W.nsIn K mainGlobals "_law_sums" = some (some (.ref f13))) (l13 : K.lookup f13 = some ⟨oc13, od13, .func (PySem.W.fnOf "_law_sums" "_law_sums" (defArgs s__law_sums) (defBody s__law_sums) (defScope s__law_sums) .none kV13 dc13 pm13 an13 cd13 ct13), sl13⟩) (c13 : PySem.W.codeIn K cd13 "_law_sums" = true) (k13 : PySem.W.keepIn K (.ref f13) = true)
    {od14 an14 : Option Addr} {sl14 : Array (Option Value)} {oc14 kV14 dc14 pm14 cd14 ct14 : Value} {f14 : Addr} (a14 : PySem.W.nsIn K mainGlobals "_law_order" = some (some (.ref f14))) (l14 : K.lookup f14 = some ⟨oc14, od14, .func (PySem.W.fnOf "_law_order" "_law_order" (defArgs s__law_order) (defBody s__law_order) (defScope s__law_order) .none kV14 dc14 pm14 an14 cd14 ct14), sl14⟩) (c14 : PySem.W.codeIn K cd14 "_law_order" = true) (k14 : PySem.W.keepIn K (.ref f14) = true)
    {od15 an15 : Option Addr} {sl15 : Array (Option Value)} {oc15 kV15 dc15 pm15 cd15 ct15 : Value} {f15 : Addr} (a15 : PySem.W.nsIn K mainGlobals "law" = some (some (.ref f15))) (l15 : K.lookup f15 = some ⟨oc15, od15, .func (PySem.W.fnOf "law" "law" (defArgs s_law) (defBody s_law) (defScope s_law) .none kV15 dc15 pm15 an15 cd15 ct15), sl15⟩) (c15 : PySem.W.codeIn K cd15 "law" = true) (k15 : PySem.W.keepIn K (.ref f15) = true)
    (z0 : PySem.W.nsIn K mainGlobals "abs" = some none)
    (z1 : PySem.W.nsIn K mainGlobals "int" = some none)
    (z2 : PySem.W.nsIn K mainGlobals "len" = some none)
    (z3 : PySem.W.nsIn K mainGlobals "list" = some none)
    (z4 : PySem.W.nsIn K mainGlobals "range" = some none) :
    ∃ fd : FuncData, (∀ (s : Shared) (v : Value), BindsTo s fd ⟨[v], []⟩ [("script", v)]) ∧ ∀ base : Heap, K.In base → base.Ns mainGlobals mg → FnOk l.prog w K mg base CX0 5 fa fd ["script"] (spT K false (fun _ => none) 1 [] m_law_8) := by
  have e := hfa.symm.trans (PySem.W.mg_of X G a15)
  cases e
  have F0 := fun_mk (st := s_divisor) l0 c0 k0
  have b0 := F0.binds (ps := ["one", "other"]) fun _ _ _ _ _ _ us hl => match us, hl with | [_, _], _ => rfl
  have F1 := fun_mk (st := s_below) l1 c1 k1
  have b1 := F1.binds (ps := ["q", "r"]) fun _ _ _ _ _ _ us hl => match us, hl with | [_, _], _ => rfl
  have F2 := fun_mk (st := s__law_deck) l2 c2 k2
  have b2 := F2.binds (ps := ["script"]) fun _ _ _ _ _ _ us hl => match us, hl with | [_], _ => rfl
  have F3 := fun_mk (st := s__law_draw) l3 c3 k3
  have b3 := F3.binds (ps := ["deck", "many"]) fun _ _ _ _ _ _ us hl => match us, hl with | [_, _], _ => rfl
  have F4 := fun_mk (st := s__law_divisor) l4 c4 k4
  have b4 := F4.binds (ps := ["one", "other"]) fun _ _ _ _ _ _ us hl => match us, hl with | [_, _], _ => rfl
  have F5 := fun_mk (st := s_fraction) l5 c5 k5
  have b5 := F5.binds (ps := ["top", "bottom"]) fun _ _ _ _ _ _ us hl => match us, hl with | [_, _], _ => rfl
  have F6 := fun_mk (st := s__law_low) l6 c6 k6
  have b6 := F6.binds (ps := ["top", "bottom"]) fun _ _ _ _ _ _ us hl => match us, hl with | [_, _], _ => rfl
  have F7 := fun_mk (st := s__law_far) l7 c7 k7
  have b7 := F7.binds (ps := ["deck", "many"]) fun _ _ _ _ _ _ us hl => match us, hl with | [_, _], _ => rfl
  have F8 := fun_mk (st := s_plus) l8 c8 k8
  have b8 := F8.binds (ps := ["q", "r"]) fun _ _ _ _ _ _ us hl => match us, hl with | [_, _], _ => rfl
  have F9 := fun_mk (st := s_minus) l9 c9 k9
  have b9 := F9.binds (ps := ["q", "r"]) fun _ _ _ _ _ _ us hl => match us, hl with | [_, _], _ => rfl
  have F10 := fun_mk (st := s_times) l10 c10 k10
  have b10 := F10.binds (ps := ["q", "r"]) fun _ _ _ _ _ _ us hl => match us, hl with | [_, _], _ => rfl
  have F11 := fun_mk (st := s_over) l11 c11 k11
  have b11 := F11.binds (ps := ["q", "r"]) fun _ _ _ _ _ _ us hl => match us, hl with | [_, _], _ => rfl
  have F12 := fun_mk (st := s__law_fraction) l12 c12 k12
  have b12 := F12.binds (ps := ["deck"]) fun _ _ _ _ _ _ us hl => match us, hl with | [_], _ => rfl
  have F13 := fun_mk (st := s__law_sums) l13 c13 k13
  have b13 := F13.binds (ps := ["q", "r", "s"]) fun _ _ _ _ _ _ us hl => match us, hl with | [_, _, _], _ => rfl
  have F14 := fun_mk (st := s__law_order) l14 c14 k14
  have b14 := F14.binds (ps := ["q", "r", "s"]) fun _ _ _ _ _ _ us hl => match us, hl with | [_, _, _], _ => rfl
  have F15 := fun_mk (st := s_law) l15 c15 k15
  have b15 := F15.binds (ps := ["script"]) fun _ _ _ _ _ _ us hl => match us, hl with | [_], _ => rfl
  let T : Tx K mg := {
    f_divisor := _, d_divisor := _, F_divisor := F0, b_divisor := b0, g_divisor := PySem.W.mg_of X G a0,
    f_below := _, d_below := _, F_below := F1, b_below := b1, g_below := PySem.W.mg_of X G a1,
    f__law_deck := _, d__law_deck := _, F__law_deck := F2, b__law_deck := b2, g__law_deck := PySem.W.mg_of X G a2,
    f__law_draw := _, d__law_draw := _, F__law_draw := F3, b__law_draw := b3, g__law_draw := PySem.W.mg_of X G a3,
    f__law_divisor := _, d__law_divisor := _, F__law_divisor := F4, b__law_divisor := b4, g__law_divisor := PySem.W.mg_of X G a4,
    f_fraction := _, d_fraction := _, F_fraction := F5, b_fraction := b5, g_fraction := PySem.W.mg_of X G a5,
    f__law_low := _, d__law_low := _, F__law_low := F6, b__law_low := b6, g__law_low := PySem.W.mg_of X G a6,
    f__law_far := _, d__law_far := _, F__law_far := F7, b__law_far := b7, g__law_far := PySem.W.mg_of X G a7,
    f_plus := _, d_plus := _, F_plus := F8, b_plus := b8, g_plus := PySem.W.mg_of X G a8,
    f_minus := _, d_minus := _, F_minus := F9, b_minus := b9, g_minus := PySem.W.mg_of X G a9,
    f_times := _, d_times := _, F_times := F10, b_times := b10, g_times := PySem.W.mg_of X G a10,
    f_over := _, d_over := _, F_over := F11, b_over := b11, g_over := PySem.W.mg_of X G a11,
    f__law_fraction := _, d__law_fraction := _, F__law_fraction := F12, b__law_fraction := b12, g__law_fraction := PySem.W.mg_of X G a12,
    f__law_sums := _, d__law_sums := _, F__law_sums := F13, b__law_sums := b13, g__law_sums := PySem.W.mg_of X G a13,
    f__law_order := _, d__law_order := _, F__law_order := F14, b__law_order := b14, g__law_order := PySem.W.mg_of X G a14,
    f_law := _, d_law := _, F_law := F15, b_law := b15, g_law := PySem.W.mg_of X G a15,
    z_abs := PySem.W.mg_none_of X G z0,
    z_int := PySem.W.mg_none_of X G z1,
    z_len := PySem.W.mg_none_of X G z2,
    z_list := PySem.W.mg_none_of X G z3,
    z_range := PySem.W.mg_none_of X G z4 }
  exact ⟨PySem.W.fnOf "law" "law" (defArgs s_law) (defBody s_law) (defScope s_law) .none kV15 dc15 pm15 an15 cd15 ct15, fun s v => .of_eq rfl, fun base _ _ => ok_law T⟩
end Sr
/-! Q_fr -/
/-! the program's fractions -/
namespace Sr
open PySem PySem.Spec PyProof.Rows L2 L3
@[simp] theorem e_modOk {i j : Int} : modOk i j = decide (j ≠ 0) := (rfl)
theorem div_loop {mt : MT} {mb : MS} (ht : ∀ a b : Int, mt [some (.d (.int a)), some (.d (.int b))] = .ok (!decide (b = 0), [some (.d (.int a)), some (.d (.int b))]))
    (hb : ∀ a b : Int, b ≠ 0 → mb [some (.d (.int a)), some (.d (.int b))] = .ok (.next [some (.d (.int b)), some (.d (.int (a.fmod b)))])) :
    ∀ (n : Nat) (a b : Int), b.natAbs ≤ n → ∃ g : Int, mWhile mt mb [some (.d (.int a)), some (.d (.int b))] = .ok (.next [some (.d (.int g)), some (.d (.int 0))]) ∧ g.natAbs = Int.gcd a b := by
  intro n
  induction n with
  | zero =>
    intro a b h
    have : b = 0 := by omega
    subst this
    exact ⟨a, by rw [mWhile_eq, ht]; simp, by simp⟩
  | succ n ih =>
    intro a b h
    by_cases z : b = 0
    · subst z
      exact ⟨a, by rw [mWhile_eq, ht]; simp, by simp⟩
    · have hm := fmod_abs a b z
      obtain ⟨g, e, eg⟩ := ih b (a.fmod b) (by omega)
      refine ⟨g, ?_, by rw [eg, gcd_fmod]⟩
      rw [mWhile_eq, ht]
      simp [z, hb, e]
theorem divisor_eq (a b : Int) : m_divisor [.d (.int a), .d (.int b)] = .ok (.d (.int (Int.gcd a b : Nat)), []) := by
  unfold m_divisor
  obtain ⟨g, e, eg⟩ := div_loop (mt := mTest (mLift (pBin opNe (pVar 1) (pC (.int 0))))) (mb := mPar 0 1 (mCons (mVar 1) (mCons (mLift (pBin opMod (pVar 0) (pVar 1))) (mNil)))) (fun a b => by simp) (fun a b h => by simp [h]) b.natAbs a b (Nat.le_refl _)
  simp [e, eg]
theorem low_eq {t b : Int} (hb : b ≠ 0) (hs : ib b ≤ 9000) : m_fraction [.d (.int t), .d (.int b)] = .ok (.d (fr (Rat.divInt t b)), []) := by
  have hd1 : divOk t (lowM t b) = true := divOk_ib (lowM_ne hb) (Nat.le_trans (lowM_ib hb) hs)
  have hd2 : divOk b (lowM t b) = true := divOk_ib (lowM_ne hb) (Nat.le_trans (lowM_ib hb) hs)
  have e := fr_low (t := t) hb
  unfold m_fraction
  unfold lowM at hd1 hd2 e
  by_cases h : b < 0
  · rw [if_pos h] at hd1 hd2 e
    simp [hb, divisor_eq, h] at hd1 hd2 e ⊢
    simp [hd1, hd2, e]
  · rw [if_neg h] at hd1 hd2 e
    simp [hb, divisor_eq, h, hd1, hd2, e]
theorem plus_eq {q r : Rat} (h : hq q + hq r ≤ 9000) : m_plus [.d (fr q), .d (fr r)] = .ok (.d (fr (q + r)), []) := by
  have a := hq_num q
  have b := hq_num r
  have c := hq_denI q
  have d := hq_denI r
  have m := ib_mul (i := (q.den : Int)) (j := r.den)
  have h1 : mulOk q.num r.den = true := mulOk_ib (by omega)
  have h2 : mulOk r.num q.den = true := mulOk_ib (by omega)
  have h3 : mulOk q.den r.den = true := mulOk_ib (by omega)
  have nz : (q.den : Int) * r.den ≠ 0 := by
    have := q.den_nz
    have := r.den_nz
    exact Int.mul_ne_zero (by omega) (by omega)
  unfold m_plus
  rw [fr_def, fr_def]
  simp [h1, h2, h3, low_eq nz (by omega), add_divInt q r]
theorem minus_eq {q r : Rat} (h : hq q + hq r ≤ 9000) : m_minus [.d (fr q), .d (fr r)] = .ok (.d (fr (q - r)), []) := by
  have a := hq_num q
  have b := hq_num r
  have c := hq_denI q
  have d := hq_denI r
  have m := ib_mul (i := (q.den : Int)) (j := r.den)
  have h1 : mulOk q.num r.den = true := mulOk_ib (by omega)
  have h2 : mulOk r.num q.den = true := mulOk_ib (by omega)
  have h3 : mulOk q.den r.den = true := mulOk_ib (by omega)
  have nz : (q.den : Int) * r.den ≠ 0 := by
    have := q.den_nz
    have := r.den_nz
    exact Int.mul_ne_zero (by omega) (by omega)
  unfold m_minus
  rw [fr_def, fr_def]
  simp [h1, h2, h3, low_eq nz (by omega), sub_divInt q r]
theorem times_eq {q r : Rat} (h : hq q + hq r ≤ 9000) : m_times [.d (fr q), .d (fr r)] = .ok (.d (fr (q * r)), []) := by
  have a := hq_num q
  have b := hq_num r
  have c := hq_denI q
  have d := hq_denI r
  have m := ib_mul (i := (q.den : Int)) (j := r.den)
  have h1 : mulOk q.num r.num = true := mulOk_ib (by omega)
  have h3 : mulOk q.den r.den = true := mulOk_ib (by omega)
  have nz : (q.den : Int) * r.den ≠ 0 := by
    have := q.den_nz
    have := r.den_nz
    exact Int.mul_ne_zero (by omega) (by omega)
  unfold m_times
  rw [fr_def, fr_def]
  simp [h1, h3, low_eq nz (by omega), mul_divInt q r]
theorem over_eq {q r : Rat} (h : hq q + hq r ≤ 9000) (hr : r ≠ 0) : m_over [.d (fr q), .d (fr r)] = .ok (.d (fr (q / r)), []) := by
  have a := hq_num q
  have b := hq_num r
  have c := hq_denI q
  have d := hq_denI r
  have m := ib_mul (i := (q.den : Int)) (j := r.num)
  have h1 : mulOk q.num r.den = true := mulOk_ib (by omega)
  have h3 : mulOk q.den r.num = true := mulOk_ib (by omega)
  have nz : (q.den : Int) * r.num ≠ 0 := by
    have := q.den_nz
    have : r.num ≠ 0 := fun e => hr (Rat.num_eq_zero.mp e)
    exact Int.mul_ne_zero (by omega) this
  unfold m_over
  rw [fr_def, fr_def]
  simp [h1, h3, low_eq nz (by omega), div_divInt q r]
theorem below_eq {q r : Rat} (h : hq q + hq r ≤ 9000) : m_below [.d (fr q), .d (fr r)] = .ok (.d (.bool (decide (q < r))), []) := by
  have a := hq_num q
  have b := hq_num r
  have c := hq_denI q
  have d := hq_denI r
  have h1 : mulOk q.num r.den = true := mulOk_ib (by omega)
  have h2 : mulOk r.num q.den = true := mulOk_ib (by omega)
  unfold m_below
  rw [fr_def, fr_def]
  simp [h1, h2, Rat.lt_iff]
end Sr
/-! Q_deck -/
/-! the laws' deck of numbers -/
namespace Sr
open PySem PySem.Spec PyProof.Rows L2 L3
@[simp] theorem e_powOk {i j : Int} : powOk i j = decide (0 ≤ j ∧ j ≤ 1000000 ∧ i.natAbs < 2 ^ 64) := (rfl)
@[simp] theorem mulOk_rS {i j : Int} (h : j.natAbs < 2 ^ 64) : mulOk i j = true := mulOk_r h
@[simp] theorem mulOk_lS {i j : Int} (h : i.natAbs < 2 ^ 64) : mulOk i j = true := mulOk_l h
@[simp] theorem divOk_S {i j : Int} (h0 : j ≠ 0) (h : j.natAbs < 2 ^ 64) : divOk i j = true := divOk_ib h0 (by
  have : ib j ≤ 64 := ib_le.mpr h
  omega)
@[simp] theorem e_ixN0 {m : Nat} (h : 0 < m) : ixN m 0 = some 0 := e_ixN (n := 0) h
@[simp] theorem e_ixN1 {m : Nat} (h : 1 < m) : ixN m 1 = some 1 := e_ixN (n := 1) h
@[simp] theorem e_ixN2 {m : Nat} (h : 2 < m) : ixN m 2 = some 2 := e_ixN (n := 2) h
@[simp] theorem e_ixN3 {m : Nat} (h : 3 < m) : ixN m 3 = some 3 := e_ixN (n := 3) h
theorem range3 : rangeItems 0 3 = [.d (.int 0), .d (.int 1), .d (.int 2)] := rfl
@[simp] theorem kit_tt : kitB "tuple" "tuple" = some true := by decide
@[simp] theorem kit_ii : kitB "int" "int" = some true := by decide
@[simp] theorem kit_ib : kitB "int" "bool" = some false := by decide
@[simp] theorem kit_bb : kitB "bool" "bool" = some true := by decide
@[simp] theorem kit_bi : kitB "bool" "int" = some true := by decide
@[simp] theorem kit_ll : kitB "list" "list" = some true := by decide
@[simp] theorem kit_lt : kitB "list" "tuple" = some false := by decide
@[simp] theorem kit_tl : kitB "tuple" "list" = some false := by decide
@[simp] theorem opEq_d {x y : PyData} (h1 : pl x) (h2 : pl y) : opEq (.d x) (.d y) = .ok (.v (.d (.bool (decide (x = y))))) := opEq_pl (by simp) (by simp) h1 h2
@[simp] theorem opNe_d {x y : PyData} (h1 : pl x) (h2 : pl y) : opNe (.d x) (.d y) = .ok (.v (.d (.bool (!decide (x = y))))) := opNe_pl (by simp) (by simp) h1 h2
@[simp] theorem pl_nil : pl (.list []) := by simp [pl, plk, plkAll]
@[simp] theorem pl_int {i : Int} : pl (.int i) := by simp [pl, plk]
@[simp] theorem pl_frS {q : Rat} : pl (fr q) := pl_fr
@[simp] theorem pl_frsS {q : List Rat} : pl (frs q) := pl_frs

/-! a place drawn -/
theorem pick_mem {α : Type} {l : List α} {v : Int} (h0 : 0 ≤ v) (h1 : v < l.length) : ∃ x ∈ l, atI l v = some x := by
  obtain ⟨n, rfl⟩ : ∃ n : Nat, v = n := ⟨v.toNat, by omega⟩
  have hn : n < l.length := by omega
  exact ⟨l[n], List.getElem_mem hn, by rw [e_atIn, List.getElem?_eq_getElem hn]⟩
theorem pick {l : List T} {v : Int} {α : Type} {f : T → R α} {P : α → Prop} {E : Str → Prop} (h0 : 0 ≤ v) (h1 : v < l.length) (k : ∀ x ∈ l, Then (f x) P E) : Then ((ofO (atI l v)).bind f) P E := by
  obtain ⟨n, rfl⟩ : ∃ n : Nat, v = n := ⟨v.toNat, by omega⟩
  have hn : n < l.length := by omega
  rw [e_atIn, List.getElem?_eq_getElem hn]
  exact k _ (List.getElem_mem hn)
theorem fr_neg {q : Rat} : PyData.tuple [.int (-q.num), .int q.den] = fr (-q) := by
  unfold fr
  rw [Rat.neg_num, Rat.neg_den]
theorem idx2 {a b v : Int} {α : Type} {f : T → R α} {P : α → Prop} {E : Str → Prop} (h0 : 0 ≤ v) (h1 : v < 2) (k : ∀ z : Int, z = a ∨ z = b → Then (f (.d (.int z))) P E) :
    Then ((ofO (atI [T.d (.int a), T.d (.int b)] v)).bind f) P E := by
  have : v = 0 ∨ v = 1 := by omega
  rcases this with rfl | rfl
  · exact k a (.inl rfl)
  · exact k b (.inr rfl)
theorem idx3 {a b c v : Int} {α : Type} {f : T → R α} {P : α → Prop} {E : Str → Prop} (h0 : 0 ≤ v) (h1 : v < 3) (k : ∀ z : Int, z = a ∨ z = b ∨ z = c → Then (f (.d (.int z))) P E) :
    Then ((ofO (atI [T.d (.int a), T.d (.int b), T.d (.int c)] v)).bind f) P E := by
  have : v = 0 ∨ v = 1 ∨ v = 2 := by omega
  rcases this with rfl | rfl | rfl
  · exact k a (.inl rfl)
  · exact k b (.inr (.inl rfl))
  · exact k c (.inr (.inr rfl))
theorem idx4 {a b c d v : Int} {α : Type} {f : T → R α} {P : α → Prop} {E : Str → Prop} (h0 : 0 ≤ v) (h1 : v < 4) (k : ∀ z : Int, z = a ∨ z = b ∨ z = c ∨ z = d → Then (f (.d (.int z))) P E) :
    Then ((ofO (atI [T.d (.int a), T.d (.int b), T.d (.int c), T.d (.int d)] v)).bind f) P E := by
  have : v = 0 ∨ v = 1 ∨ v = 2 ∨ v = 3 := by omega
  rcases this with rfl | rfl | rfl | rfl
  · exact k a (.inl rfl)
  · exact k b (.inr (.inl rfl))
  · exact k c (.inr (.inr (.inl rfl)))
  · exact k d (.inr (.inr (.inr rfl)))
def deckT (cells : List Int) (b n : Int) : T := .ol [.ol (cells.map fun c => .d (.int c)), .d (.int b), .d (.int n)]
def Deck (d : T) : Prop := ∃ cells b n, d = deckT cells b n ∧ cells ≠ []
theorem fmod_nat {n : Int} {m : Nat} (h : 0 < m) : ∃ k : Nat, n.fmod (m : Int) = (k : Int) ∧ k < m := by
  have h1 := Int.fmod_nonneg_of_pos n (b := (m : Int)) (by omega)
  have h2 := Int.fmod_lt_of_pos n (b := (m : Int)) (by omega)
  exact ⟨(n.fmod (m : Int)).toNat, by omega, by omega⟩
def Drawn (many : Int) (r : T × List T) : Prop := ∃ v d', r = (.d (.int v), [d']) ∧ 0 ≤ v ∧ v < many ∧ Deck d'
theorem draw_spec {d : T} {many : Int} {E : Str → Prop} (hd : Deck d) (hm : 0 < many) (hb : many.natAbs < 2 ^ 64) : Then (m__law_draw [d, .d (.int many)]) (Drawn many) E := by
  obtain ⟨cells, b, n, rfl, hc⟩ := hd
  have hl : 0 < cells.length := List.length_pos_iff.mpr hc
  obtain ⟨k, hk, hk2⟩ := fmod_nat (n := n) hl
  have h1 : (cells.map fun c => T.d (.int c))[k]? = some (.d (.int cells[k])) := by
    rw [List.getElem?_map, List.getElem?_eq_getElem hk2]; rfl
  have h2 : (cells.length : Int) ≠ 0 := by omega
  have hf : ∀ x : Int, 0 ≤ x.fmod many ∧ x.fmod many < many := fun x => ⟨Int.fmod_nonneg_of_pos x hm, Int.fmod_lt_of_pos x hm⟩
  have hm0 : many ≠ 0 := by omega
  have hs : ∀ x : Int, ((x.fmod 1000000033).natAbs < 2 ^ 64) := fun x => by
    have := Int.fmod_nonneg_of_pos x (b := 1000000033) (by omega)
    have := Int.fmod_lt_of_pos x (b := 1000000033) (by omega)
    omega
  unfold m__law_draw deckT
  by_cases hz : b = 0
  · subst hz
    simp [h2, hc, hk, e_atIn, h1, hm0, hb, e_ixN hk2]
    refine ⟨_, _, rfl, (hf _).1, (hf _).2, cells.set k (cells[k].fdiv many), 0, n + 1, ?_, ?_⟩
    · unfold deckT
      simp [List.map_set]
    · simpa using hc
  · simp [h2, hc, hk, e_atIn, h1, hm0, hz, hs]
    exact ⟨_, _, rfl, (hf _).1, (hf _).2, cells, b, n + 1, rfl, hc⟩
theorem draw_step {d : T} {many : Int} {α : Type} {f : T × List T → R α} {P : α → Prop} {E : Str → Prop} (hd : Deck d) (hm : 0 < many) (hb : many.natAbs < 2 ^ 64)
    (k : ∀ v d', 0 ≤ v → v < many → v.natAbs < 2 ^ 64 → Deck d' → Then (f (.d (.int v), [d'])) P E) : Then ((m__law_draw [d, .d (.int many)]).nx.bind f) P E := by
  refine then_bindI (then_nx (draw_spec hd hm hb)) ?_
  rintro _ ⟨v, d', rfl, h0, h1, hd'⟩
  exact k v d' h0 h1 (by omega) hd'
theorem pl_ints {ns : List Int} : pl (.list (ns.map .int)) := by
  show plk 60 _ = true
  simp only [plk]
  exact plkAll_map fun _ _ => by simp [plk]
theorem cut63 {α : Type} (xs : List α) : (cutG xs none (some 63)).length ≤ 63 := by
  unfold cutG
  simp [HT.sIx]
  omega
theorem cutG_map {α β : Type} {f : α → β} {xs : List α} {lo hi : Option Int} : cutG (xs.map f) lo hi = (cutG xs lo hi).map f := by
  unfold cutG
  simp [List.map_drop, List.map_take]
theorem small62_of {n : Nat} (h : n ≤ 100000000) : small62 (n : Int) = true := by
  unfold small62
  exact decide_eq_true ⟨by omega, by omega⟩
theorem deck_eq (ns : List Int) : ∃ cells : List Int, ∃ b : Int, cells.length ≤ 63 ∧ m__law_deck [.rd (ns.map .int)] = .ok (.d (.list [.list (cells.map .int), .int b, .int 0]), []) := by
  have h := cut63 ns
  unfold m__law_deck
  by_cases hz : cutG ns none (some 63) = []
  · refine ⟨[0], (ns.length : Int).fmod 2, by simp, ?_⟩
    simp [cutG_map, hz]
  · refine ⟨cutG ns none (some 63), (ns.length : Int).fmod 2, h, ?_⟩
    simp [cutG_map, hz, pl_ints]
end Sr
/-! Q_k02a -/
namespace Sr
open PySem PySem.Spec PyProof.Rows L2 L3
local macro_rules | `(tactic| none_booked) => `(tactic| (with_reducible refine draw_step (by assumption) (by first | decide | omega) (by first | decide | omega) fun _ _ _ _ _ _ => ?_))
local macro_rules | `(tactic| none_booked) => `(tactic| (with_reducible refine idx2 (by omega) (by omega) fun _ _ => ?_))
local macro_rules | `(tactic| none_booked) => `(tactic| (with_reducible refine idx3 (by omega) (by omega) fun _ _ => ?_))
local macro_rules | `(tactic| none_booked) => `(tactic| (with_reducible refine idx4 (by omega) (by omega) fun _ _ => ?_))
def IntB (n : Int) (r : T × List T) : Prop := ∃ v d', r = (.d (.int v), [d']) ∧ -n < v ∧ v < n ∧ Deck d'
theorem far_spec {d : T} {E : Str → Prop} (hd : Deck d) : Then (m__law_far [d]) (IntB (10 ^ 36)) E := by
  unfold m__law_far
  simp [small62, range3]
  repeat (none_booked; try simp [*])
  rename_i h
  rcases h with h | h <;> subst h
  · simp
    exact ⟨_, _, rfl, by omega, by omega, by assumption⟩
  · simp
    exact ⟨_, _, rfl, by omega, by omega, by assumption⟩
theorem ldivisor_eq (a b : Int) : m__law_divisor [.d (.int a), .d (.int b)] = .ok (.d (.int (Int.gcd a b : Nat)), []) := by
  unfold m__law_divisor
  obtain ⟨g, e, eg⟩ := div_loop (mt := mTest (mLift (pBin opNe (pVar 1) (pC (.int 0))))) (mb := mPar 0 1 (mCons (mVar 1) (mCons (mLift (pBin opMod (pVar 0) (pVar 1))) (mNil)))) (fun a b => by simp) (fun a b h => by simp [h]) b.natAbs a b (Nat.le_refl _)
  simp [e, eg]
theorem llow_eq {t b : Int} (hb : b ≠ 0) (hs : ib b ≤ 9000) : m__law_low [.d (.int t), .d (.int b)] = .ok (.d (fr (Rat.divInt t b)), []) := by
  have hd1 : divOk t (lowM t b) = true := divOk_ib (lowM_ne hb) (Nat.le_trans (lowM_ib hb) hs)
  have hd2 : divOk b (lowM t b) = true := divOk_ib (lowM_ne hb) (Nat.le_trans (lowM_ib hb) hs)
  have e := fr_low (t := t) hb
  unfold m__law_low
  unfold lowM at hd1 hd2 e
  by_cases h : b < 0
  · rw [if_pos h] at hd1 hd2 e
    simp [hb, ldivisor_eq, h] at hd1 hd2 e ⊢
    simp [hd1, hd2, e]
  · rw [if_neg h] at hd1 hd2 e
    simp [hb, ldivisor_eq, h, hd1, hd2, e]
theorem gcd_low (q : Rat) : Int.gcd q.num q.den = 1 := q.reduced
theorem low_cross {t b : Int} (hb : b ≠ 0) : (Rat.divInt t b).num * b = t * (Rat.divInt t b).den := by
  have h : Rat.divInt (Rat.divInt t b).num (Rat.divInt t b).den = Rat.divInt t b := Rat.num_divInt_den _
  exact (Rat.divInt_eq_divInt_iff (by have := (Rat.divInt t b).den_nz; omega) hb).mp h
theorem is_eq {q : Rat} {t b : Int} (hb : b ≠ 0) (h : q = Rat.divInt t b) (h1 : ib t ≤ 100000) (h2 : ib b ≤ 100000) : m__law_is [.d (fr q), .d (.int t), .d (.int b)] = .ok (.d (.bool true), []) := by
  have hs : hq q ≤ max (max (ib t) (ib b)) 1 := by rw [h]; exact hq_divInt (by omega) (by omega) (by omega)
  have a := hq_num q
  have c := hq_denI q
  have g1 : mulOk q.num b = true := mulOk_ib (by omega)
  have g2 : mulOk t q.den = true := mulOk_ib (by omega)
  have hp : 0 < q.den := q.den_pos
  have e : q.num * b = t * q.den := by rw [h]; exact low_cross hb
  unfold m__law_is
  rw [fr_def]
  simp [e_lcC, g1, g2, hp, e, ldivisor_eq, gcd_low]

theorem far_step {d : T} {α : Type} {f : T × List T → R α} {P : α → Prop} {E : Str → Prop} (hd : Deck d) (k : ∀ v d', -(10 ^ 36) < v → v < 10 ^ 36 → Deck d' → Then (f (.d (.int v), [d'])) P E) : Then ((m__law_far [d]).nx.bind f) P E := by
  refine then_bindI (then_nx (far_spec hd)) ?_
  rintro _ ⟨v, d', rfl, h0, h1, hd'⟩
  exact k v d' h0 h1 hd'
local macro_rules | `(tactic| none_booked) => `(tactic| (with_reducible refine far_step (by assumption) fun _ _ _ _ _ => ?_))
theorem whole_spec {d : T} {E : Str → Prop} (hd : Deck d) : Then (m__law_whole [d]) (IntB (10 ^ 40)) E := by
  unfold m__law_whole
  simp
  repeat (none_booked; try simp [*])
  exact ⟨_, _, rfl, by omega, by omega, by assumption⟩
theorem whole_step {d : T} {α : Type} {f : T × List T → R α} {P : α → Prop} {E : Str → Prop} (hd : Deck d) (k : ∀ v d', -(10 ^ 40) < v → v < 10 ^ 40 → Deck d' → Then (f (.d (.int v), [d'])) P E) : Then ((m__law_whole [d]).nx.bind f) P E := by
  refine then_bindI (then_nx (whole_spec hd)) ?_
  rintro _ ⟨v, d', rfl, h0, h1, hd'⟩
  exact k v d' h0 h1 hd'
local macro_rules | `(tactic| none_booked) => `(tactic| (with_reducible refine whole_step (by assumption) fun _ _ _ _ _ => ?_))
theorem low_step {t b : Int} {α : Type} {f : T × List T → R α} {P : α → Prop} {E : Str → Prop} (h0 : 0 < b) (h1 : b < 10 ^ 42) (h2 : -(10 ^ 42) < t) (h3 : t < 10 ^ 42) (k : ∀ q, hq q ≤ 140 → Then (f (.d (fr q), [])) P E) : Then ((m__law_low [.d (.int t), .d (.int b)]).nx.bind f) P E := by
  have e1 : ib t ≤ 140 := ib_le.mpr (by omega)
  have e2 : ib b ≤ 140 := ib_le.mpr (by omega)
  rw [llow_eq (by omega) (by omega)]
  exact k _ (hq_divInt e1 e2 (by omega))
local macro_rules | `(tactic| none_booked) => `(tactic| (with_reducible refine low_step (by omega) (by omega) (by omega) (by omega) fun _ _ => ?_))
def FrB (n : Nat) (r : T × List T) : Prop := ∃ q d', r = (.d (fr q), [d']) ∧ hq q ≤ n ∧ Deck d'
theorem fraction_spec {d : T} {E : Str → Prop} (hd : Deck d) : Then (m__law_fraction [d]) (FrB 140) E := by
  unfold m__law_fraction
  simp
  none_booked; try simp [*]
  none_booked; try simp [*]
  none_booked
  simp
  with_reducible refine idx2 (by split <;> omega) (by split <;> omega) fun _ _ => ?_
  repeat (none_booked; try simp [*])
  exact ⟨_, _, rfl, by assumption, by assumption⟩
theorem fraction_step {d : T} {α : Type} {f : T × List T → R α} {P : α → Prop} {E : Str → Prop} (hd : Deck d) (k : ∀ q d', hq q ≤ 140 → Deck d' → Then (f (.d (fr q), [d'])) P E) : Then ((m__law_fraction [d]).nx.bind f) P E := by
  refine then_bindI (then_nx (fraction_spec hd)) ?_
  rintro _ ⟨v, d', rfl, h0, hd'⟩
  exact k v d' h0 hd'
local macro_rules | `(tactic| none_booked) => `(tactic| (with_reducible refine fraction_step (by assumption) fun _ _ _ _ => ?_))
theorem good_eq {q r : Rat} (h1 : hq q ≤ 500) (h2 : hq r ≤ 500) : m__law_good [.d (fr q), .d (fr r)] = .ok (.d (.bool true), []) := by
  have a := hq_num q
  have b := hq_num r
  have c := hq_denI q
  have d := hq_denI r
  have m1 := ib_mul (i := q.num) (j := r.den)
  have m2 := ib_mul (i := r.num) (j := q.den)
  have m3 := ib_mul (i := (q.den : Int)) (j := r.den)
  have m4 := ib_mul (i := q.num) (j := r.num)
  have m5 := ib_mul (i := (q.den : Int)) (j := r.num)
  have s1 := ib_add (i := q.num * r.den) (j := r.num * q.den)
  have s2 := ib_sub (i := q.num * r.den) (j := r.num * q.den)
  have n1 : (q.den : Int) * r.den ≠ 0 := by
    have := q.den_nz
    have := r.den_nz
    exact Int.mul_ne_zero (by omega) (by omega)
  have g1 : mulOk q.num r.den = true := mulOk_ib (by omega)
  have g2 : mulOk r.num q.den = true := mulOk_ib (by omega)
  have g3 : mulOk q.den r.den = true := mulOk_ib (by omega)
  have g4 : mulOk q.num r.num = true := mulOk_ib (by omega)
  have g5 : mulOk q.den r.num = true := mulOk_ib (by omega)
  have e1 := is_eq n1 (add_divInt q r) (by omega) (by omega)
  have e2 := is_eq n1 (sub_divInt q r) (by omega) (by omega)
  have e3 := is_eq n1 (mul_divInt q r) (by omega) (by omega)
  have p1 := plus_eq (q := q) (r := r) (by omega)
  have p2 := minus_eq (q := q) (r := r) (by omega)
  have p3 := times_eq (q := q) (r := r) (by omega)
  have p4 := below_eq (q := q) (r := r) (by omega)
  have pq : T.parts (.d (fr q)) = some [.d (.int q.num), .d (.int q.den)] := rfl
  have pr : T.parts (.d (fr r)) = some [.d (.int r.num), .d (.int r.den)] := rfl
  have el : decide (q < r) = decide (q.num * r.den < r.num * q.den) := by rw [decide_eq_decide]; exact Rat.lt_iff q r
  by_cases hr : r = 0
  · have hr' : (r = 0) = True := eq_true hr
    unfold m__law_good
    simp [hr', p1, p2, p3, p4, e1, e2, e3, pq, pr, g1, g2, g3, g4, g5, el]
  · have n2 : (q.den : Int) * r.num ≠ 0 := by
      have := q.den_nz
      have : r.num ≠ 0 := fun e => hr (Rat.num_eq_zero.mp e)
      exact Int.mul_ne_zero (by omega) this
    have e4 := is_eq n2 (div_divInt q r) (by omega) (by omega)
    have p5 := over_eq (q := q) (r := r) (by omega) hr
    unfold m__law_good
    simp [p1, p2, p3, p4, p5, e1, e2, e3, e4, pq, pr, g1, g2, g3, g4, g5, el]
end Sr
/-! P_k05 -/
namespace Sr
open PySem PySem.Spec PyProof.Rows L2 L3
theorem toD_ints : ∀ cells : List Int, T.toDAll (cells.map (T.d ∘ PyData.int)) = some (cells.map .int)
  | [] => by simp [T.toDAll]
  | c :: r => by simp [T.toDAll, T.toD, toD_ints r]
theorem eq_nil (cells : List Int) : opEq (.ol (cells.map (T.d ∘ PyData.int))) (.d (.list [])) = .ok (.v (.d (.bool (decide (cells = []))))) := by
  rw [opEq_pl (a := .list (cells.map .int)) (b := .list []) (by simp [T.toD, toD_ints]) (by simp [T.toD]) pl_ints pl_nil]
  simp
theorem deck2_eq (ns : List Int) : ∃ d, m__law_deck_2 [.rd (ns.map .int)] = .ok (d, []) ∧ Deck d := by
  have h := cut63 ns
  unfold m__law_deck_2
  by_cases hz : cutG ns none (some 63) = []
  · refine ⟨deckT [0] ((ns.length : Int).fmod 2) 0, ?_, ⟨[0], _, _, rfl, by simp⟩⟩
    have e := eq_nil []
    simp at e
    simp [cutG_map, hz, deckT, e]
  · refine ⟨deckT (cutG ns none (some 63)) ((ns.length : Int).fmod 2) 0, ?_, ⟨_, _, _, rfl, hz⟩⟩
    have e := eq_nil (cutG ns none (some 63))
    simp [cutG_map, hz, deckT, e, Function.comp_def] at e ⊢
    simp [e]
def FarI (n : Int) (i : Nat) (ρ : En) : Prop := ∃ (d : T) (f : Int) (x3 : Option T), ρ = [some d, some (.d (.int n)), some (.d (.int f)), x3] ∧ Deck d ∧ 0 ≤ f ∧ f < 10 ^ (9 * i)
def NextI' (I : En → Prop) (o : Out) : Prop := ∃ ρ, o = .next ρ ∧ I ρ
def FarR (n : Nat) (r : T × List T) : Prop := ∃ (f : Int) (d : T), r = (.d (.int f), [d]) ∧ -(10 ^ (9 * n)) < f ∧ f < 10 ^ (9 * n) ∧ Deck d
theorem far2_spec {d : T} {n : Nat} {E : Str → Prop} (hd : Deck d) (hn : n ≤ 4) : Then (m__law_far_2 [d, .d (.int (n : Int))]) (FarR n) E := by
  have hs : small62 (n : Int) = true := small62_of (by omega)
  unfold m__law_far_2
  simp [hs]
  refine then_bindI (P := NextI' (FarI n n)) (loop_ix (fun i ρ => FarI n i ρ) ⟨d, 0, _, rfl, hd, by omega, by simp⟩ ?_ ?_) ?_
  · intro ρ h
    rw [rangeItems_len, Int.sub_zero, Int.toNat_natCast] at h
    exact ⟨ρ, rfl, h⟩
  · rintro i x ρ hx ⟨d1, f, x3, rfl, h1, h2, h3⟩
    obtain ⟨hi, rfl⟩ := rangeItems_get hx
    refine ⟨_, rfl, ?_⟩
    simp
    refine draw_step h1 (by omega) (by omega) fun v d2 a1 a2 a3 h4 => ?_
    simp
    refine draw_step h4 (by omega) (by omega) fun u d3 b1 b2 b3 h5 => ?_
    simp
    refine ⟨d3, _, _, rfl, h5, by omega, ?_⟩
    have e : (10 : Int) ^ (9 * (i + 1)) = 10 ^ (9 * i) * 1000000000 := by
      rw [Nat.mul_add, Int.pow_add]; rfl
    rw [e]
    omega
  · rintro _ ⟨_, rfl, d1, f, x3, rfl, h1, h2, h3⟩
    simp
    refine draw_step h1 (by omega) (by omega) fun v d2 a1 a2 a3 h4 => ?_
    simp
    refine idx2 (by omega) (by omega) fun z hz => ?_
    have hz' : z.natAbs < 2 ^ 64 := by rcases hz with rfl | rfl <;> decide
    simp [hz']
    refine ⟨f * z, d2, rfl, ?_, ?_, h4⟩
    · rcases hz with rfl | rfl <;> omega
    · rcases hz with rfl | rfl <;> omega
theorem far2_step {d : T} {n : Nat} {α : Type} {f : T × List T → R α} {P : α → Prop} {E : Str → Prop} (hd : Deck d) (hn : n ≤ 4) (k : ∀ v d', -(10 ^ (9 * n)) < v → v < 10 ^ (9 * n) → Deck d' → Then (f (.d (.int v), [d'])) P E) : Then ((m__law_far_2 [d, .d (.int (n : Int))]).nx.bind f) P E := by
  refine then_bindI (then_nx (far2_spec hd hn)) ?_
  rintro _ ⟨v, d', rfl, h0, h1, hd'⟩
  exact k v d' h0 h1 hd'
theorem pickI {l : List Int} {v lo hi : Int} {α : Type} {f : T → R α} {P : α → Prop} {E : Str → Prop} (h0 : 0 ≤ v) (h1 : v < l.length) (hl : ∀ z ∈ l, lo ≤ z ∧ z ≤ hi) (k : ∀ z : Int, lo ≤ z → z ≤ hi → Then (f (.d (.int z))) P E) : Then ((ofO (atI (l.map fun z => T.d (.int z)) v)).bind f) P E := by
  refine pick h0 (by simpa using h1) fun x hx => ?_
  obtain ⟨z, hz, rfl⟩ := List.mem_map.mp hx
  exact k z (hl z hz).1 (hl z hz).2
theorem fraction3_spec {d : T} {E : Str → Prop} (hd : Deck d) : Then (m__law_fraction_3 [d]) (FrB 140) E := by
  unfold m__law_fraction_3
  simp
  refine draw_step hd (by omega) (by omega) fun v1 d1 _ _ _ hd1 => ?_
  simp
  refine far2_step (n := 1) hd1 (by omega) fun f1 d2 f1a f1b hd2 => ?_
  simp
  refine far2_step (n := 4) hd2 (by omega) fun f2 d3 f2a f2b hd3 => ?_
  simp
  refine draw_step hd3 (by omega) (by omega) fun v2 d4 _ _ _ hd4 => ?_
  simp
  refine pickI (l := [v1 - 6, f1, f2]) (lo := -(10 ^ 36)) (hi := 10 ^ 36) (by omega) (by simp; omega) (fun z hz => by
    simp at hz
    rcases hz with rfl | rfl | rfl <;> omega) fun top t1 t2 => ?_
  skip
  refine draw_step hd4 (by omega) (by omega) fun v3 d5 _ _ _ hd5 => ?_
  simp
  refine far2_step (n := 1) hd5 (by omega) fun f3 d6 f3a f3b hd6 => ?_
  simp
  refine far2_step (n := 4) hd6 (by omega) fun f4 d7 f4a f4b hd7 => ?_
  simp
  refine draw_step hd7 (by omega) (by omega) fun v4 d8 _ _ _ hd8 => ?_
  simp
  refine pickI (l := [1, 1 + v3, 1 + (f3.natAbs : Int), 1 + (f4.natAbs : Int)]) (lo := 1) (hi := 10 ^ 36 + 1) (by omega) (by simp; omega) (fun z hz => by
    simp at hz
    rcases hz with rfl | rfl | rfl | rfl <;> omega) fun bot b1 b2 => ?_
  simp
  refine low_step (t := top) (b := bot) (by omega) (by omega) (by omega) (by omega) fun q hq' => ?_
  simp
  exact ⟨q, d8, rfl, hq', hd8⟩
theorem fraction3_step {d : T} {α : Type} {f : T × List T → R α} {P : α → Prop} {E : Str → Prop} (hd : Deck d) (k : ∀ q d', hq q ≤ 140 → Deck d' → Then (f (.d (fr q), [d'])) P E) : Then ((m__law_fraction_3 [d]).nx.bind f) P E := by
  refine then_bindI (then_nx (fraction3_spec hd)) ?_
  rintro _ ⟨v, d', rfl, h0, hd'⟩
  exact k v d' h0 hd'
theorem pl_q {q : Rat} : pl (fr q) := pl_fr
theorem sums_eq {q r s : Rat} (h1 : hq q ≤ 140) (h2 : hq r ≤ 140) (h3 : hq s ≤ 140) : m__law_sums [.d (fr q), .d (fr r), .d (fr s)] = .ok (.d (.bool true), []) := by
  have a1 := hq_add q r
  have a2 := hq_add r q
  have a3 := hq_add r s
  have a4 := hq_mul q r
  have a5 := hq_mul r q
  have a6 := hq_mul r s
  have a7 := hq_mul q s
  have p1 := plus_eq (q := q) (r := r) (by omega)
  have p2 := plus_eq (q := r) (r := q) (by omega)
  have p3 := plus_eq (q := q + r) (r := s) (by omega)
  have p4 := plus_eq (q := r) (r := s) (by omega)
  have p5 := plus_eq (q := q) (r := r + s) (by omega)
  have p6 := plus_eq (q := q * r) (r := q * s) (by omega)
  have m1 := minus_eq (q := q + r) (r := r) (by omega)
  have t1 := times_eq (q := q) (r := r) (by omega)
  have t2 := times_eq (q := r) (r := q) (by omega)
  have t3 := times_eq (q := q * r) (r := s) (by omega)
  have t4 := times_eq (q := r) (r := s) (by omega)
  have t5 := times_eq (q := q) (r := r * s) (by omega)
  have t6 := times_eq (q := q) (r := r + s) (by omega)
  have t7 := times_eq (q := q) (r := s) (by omega)
  have e1 : q + r - r = q := by grind
  have e2 : r + q = q + r := Rat.add_comm r q
  have e3 : q + r + s = q + (r + s) := Rat.add_assoc q r s
  have e4 : r * q = q * r := Rat.mul_comm r q
  have e5 : q * r * s = q * (r * s) := Rat.mul_assoc q r s
  have e6 : q * (r + s) = q * r + q * s := Rat.mul_add q r s
  rw [e1] at m1
  rw [e2] at p2
  rw [e3] at p3
  rw [e4] at t2
  rw [e5] at t3
  rw [e6] at t6
  have i0 : opIdx (.d (fr r)) (.d (.int 0)) = .ok (.v (.d (.int r.num))) := rfl
  unfold m__law_sums
  by_cases hr : r = 0
  · have hn : r.num = 0 := by rw [hr]; rfl
    simp [p1, p2, p3, p4, p5, p6, m1, t1, t2, t3, t4, t5, t6, t7, i0, hn]
  · have hn : ¬ r.num = 0 := fun e => hr (Rat.num_eq_zero.mp e)
    have b1 := hq_div q r
    have o1 := over_eq (q := q * r) (r := r) (by omega) hr
    have o2 := over_eq (q := q) (r := r) (by omega) hr
    have t8 := times_eq (q := q / r) (r := r) (by omega)
    have e7 : q * r / r = q := Rat.mul_div_cancel hr
    have e8 : q / r * r = q := Rat.div_mul_cancel hr
    rw [e7] at o1
    rw [e8] at t8
    simp [p1, p2, p3, p4, p5, p6, m1, t1, t2, t3, t4, t5, t6, t7, i0, hn, o1, o2, t8]
theorem cnt2 (a b : Bool) : cntD [.bool a, .bool b] (.bool true) = .ok (.int ((a.toNat + b.toNat : Nat) : Int)) := by
  unfold cntD
  have h1 : SeqAt.shaped (.tuple [.bool a, .bool b]) = true := by cases a <;> cases b <;> decide +kernel
  have h2 : SeqAt.shaped (.bool true) = true := by decide +kernel
  rw [h1, h2]
  cases a <;> cases b <;> rfl
theorem ne_bb (a b : Bool) : opNe (.d (.bool a)) (.d (.bool b)) = .ok (.v (.d (.bool (a != b)))) := by
  cases a <;> cases b <;> rfl
theorem num_pos {q : Rat} : (0 < q.num) = (0 < q) := by
  have := Rat.lt_iff 0 q
  simp at this
  exact propext this.symm
theorem num_neg {q : Rat} : (q.num < 0) = (q < 0) := by
  have := Rat.lt_iff q 0
  simp at this
  exact propext this.symm
theorem order_eq {q r s : Rat} (h1 : hq q ≤ 140) (h2 : hq r ≤ 140) (h3 : hq s ≤ 140) : m__law_order [.d (fr q), .d (fr r), .d (fr s)] = .ok (.d (.bool true), []) := by
  have a1 := hq_add q s
  have a2 := hq_add r s
  have a4 := hq_mul q s
  have a5 := hq_mul r s
  have p1 := plus_eq (q := q) (r := s) (by omega)
  have p2 := plus_eq (q := r) (r := s) (by omega)
  have t1 := times_eq (q := q) (r := s) (by omega)
  have t2 := times_eq (q := r) (r := s) (by omega)
  have m1 := minus_eq (q := r) (r := q) (by omega)
  have b1 := below_eq (q := q) (r := r) (by omega)
  have b2 := below_eq (q := r) (r := q) (by omega)
  have b3 := below_eq (q := q + s) (r := r + s) (by omega)
  have b4 := below_eq (q := q * s) (r := r * s) (by omega)
  have b5 := below_eq (q := r * s) (r := q * s) (by omega)
  have e1 : (q + s < r + s) = (q < r) := propext ⟨fun h => by grind, fun h => by grind⟩
  have i0 : ∀ r : Rat, opIdx (.d (fr r)) (.d (.int 0)) = .ok (.v (.d (.int r.num))) := fun r => rfl
  have e2 : (0 < r - q) = (q < r) := propext ⟨fun h => by grind, fun h => by grind⟩
  have e3 : 0 < s → decide (q * s < r * s) = decide (q < r) := fun h => by rw [decide_eq_decide]; exact Rat.mul_lt_mul_right h
  have e4 : s < 0 → decide (r * s < q * s) = decide (q < r) := fun h => by
    rw [decide_eq_decide]
    have : (-r) * s = r * (-s) := by grind
    have k := Rat.mul_lt_mul_right (a := q) (b := r) (c := -s) (by grind)
    constructor
    · intro z; exact k.mp (by grind)
    · intro z; have := k.mpr z; grind
  have ec : (decide (q < r)).toNat + (decide (r < q)).toNat = (!decide (fr q = fr r)).toNat := by
    have ef : (fr q = fr r) = (q = r) := propext ⟨fun h => by
      unfold fr at h
      simp at h
      exact Rat.ext h.1 (by omega), fun h => by rw [h]⟩
    by_cases c1 : q < r
    · have c2 : ¬ r < q := by grind
      have c3 : ¬ q = r := by grind
      simp [c1, c2, c3, ef]
    · by_cases c2 : r < q
      · have c3 : ¬ q = r := by grind
        simp [c1, c2, c3, ef]
      · have c3 : q = r := by grind
        simp [c1, c2, c3, ef]
  have fin : ((decide (q < r)).toNat : Int) + ((decide (r < q)).toNat : Int) = if fr q = fr r then 0 else 1 := by
    rw [← Int.natCast_add, ec]
    by_cases c : fr q = fr r <;> simp [c]
  unfold m__law_order
  by_cases c1 : 0 < s
  · have c2 : ¬ s < 0 := by grind
    simp [p1, p2, t1, t2, m1, b1, b2, b3, b4, b5, e1, i0, num_pos, num_neg, e2, c1, c2, ne_bb, e3 c1, cnt2]
    exact fin
  · by_cases c2 : s < 0
    · simp [p1, p2, t1, t2, m1, b1, b2, b3, b4, b5, e1, i0, num_pos, num_neg, e2, c1, c2, ne_bb, e4 c2, cnt2]
      exact fin
    · simp [p1, p2, t1, t2, m1, b1, b2, b3, b4, b5, e1, i0, num_pos, num_neg, e2, c1, c2, ne_bb, cnt2]
      exact fin
def NextQ (I : En → Prop) (o : Out) : Prop := ∃ ρ, o = .next ρ ∧ I ρ
def LawI (ns : List Int) (_ : Nat) (ρ : En) : Prop := ∃ (d : T) (x2 x3 x4 x5 x6 : Option T), ρ = [some (scr ns), some d, x2, x3, x4, x5, x6] ∧ Deck d
theorem law_k05_holds (ns : List Int) (h : ns.length ≤ 63) : Then (m_law_8 [scr ns]) (fun r => r.1 = .d (.bool true)) (fun _ => False) := by
  obtain ⟨d0, e, hd0⟩ := deck2_eq ns
  have hs : small62 (4 : Int) = true := small62_of (n := 4) (by omega)
  have hs3 : small62 (3 : Int) = true := small62_of (n := 3) (by omega)
  refine of_yes ?_
  unfold m_law_8
  simp [e, hs]
  refine then_bindI (P := NextQ (LawI ns 0)) (loop_ix (LawI ns) ⟨_, _, _, _, _, _, rfl, hd0⟩ (fun ρ h => ⟨ρ, rfl, h⟩) ?_) ?_
  · rintro i x _ hx ⟨d, x2, x3, x4, x5, x6, rfl, hd⟩
    obtain ⟨hi, rfl⟩ := rangeItems_get hx
    refine ⟨_, rfl, ?_⟩
    simp [hs3, range3, e_lcC, sLine]
    refine fraction3_step hd fun q d1 hq1 hd1 => ?_
    simp [e_lcC, sLine]
    refine fraction3_step hd1 fun r d2 hq2 hd2 => ?_
    simp [e_lcC, sLine]
    refine fraction3_step hd2 fun s d3 hq3 hd3 => ?_
    have i0 : opIdx (.d (fr q)) (.d (.int 0)) = .ok (.v (.d (.int q.num))) := rfl
    have i1 : opIdx (.d (fr q)) (.d (.int 1)) = .ok (.v (.d (.int q.den))) := rfl
    have hn := hq_num q
    have hdn := hq_denI q
    simp [e_lcC, sLine, sums_eq hq1 hq2 hq3, order_eq hq1 hq2 hq3, order_eq hq1 hq1 hq2, i0, i1]
    have w1 : ∀ z : Int, ib z ≤ 200 → hq (z : Rat) ≤ 200 := fun z hz => by
      unfold hq
      have e1 : (z : Rat).num = z := rfl
      have e2 : (z : Rat).den = 1 := rfl
      have e3 : bl 1 ≤ 200 := by decide
      rw [e1, e2]
      omega
    have f1 : PyData.tuple [.int q.num, .int 1] = fr (q.num : Rat) := rfl
    have f2 : PyData.tuple [.int q.den, .int 1] = fr (((q.den : Int) : Int) : Rat) := rfl
    have dz : (((q.den : Int) : Int) : Rat) ≠ 0 := by
      have := q.den_nz
      simpa using this
    have g1 := w1 q.num (by omega)
    have g2 := w1 q.den (by omega)
    have o1 := over_eq (q := (q.num : Rat)) (r := ((q.den : Int) : Rat)) (by omega) dz
    have o2 : (q.num : Rat) / ((q.den : Int) : Rat) = q := by
      rw [← Rat.divInt_eq_div]
      exact Rat.num_divInt_den q
    have bz : (0 : Int) - q.den ≠ 0 := by
      have := q.den_nz
      omega
    have bs : ib (0 - (q.den : Int)) ≤ 9000 := by
      have : ib (0 - (q.den : Int)) = ib q.den := by unfold ib; rw [Int.zero_sub, Int.natAbs_neg]
      omega
    have l1 := low_eq (t := 0 - q.num) (b := 0 - (q.den : Int)) bz bs
    have l2 : Rat.divInt (0 - q.num) (0 - (q.den : Int)) = q := by
      rw [Int.zero_sub, Int.zero_sub, Rat.neg_divInt_neg]
      exact Rat.num_divInt_den q
    rw [o2] at o1
    rw [l2] at l1
    rw [f1, f2]
    simp only [Int.zero_sub] at l1
    simp [o1, i0, i1, l1]
    exact ⟨_, _, _, _, _, _, rfl, hd3⟩
  · rintro _ ⟨_, rfl, d, x2, x3, x4, x5, x6, rfl, hd⟩
    simp
end Sr
/-! F_k05 -/
open PySem PySem.W PyProof.Rows
set_option maxRecDepth 100000 in
set_option maxHeartbeats 0 in
theorem PySem.Challenge.cw_shimright_k05_whole_there_and_back_holds : PySem.Challenge.rw_shimright_k05_whole_there_and_back.Holds := by
  w_on; o_law; k_head; (case hw => w_witness2)
  k_fill
  refine L2.walk_of (l := PySem.Challenge.rw_shimright_k05_whole_there_and_back) (n := 63) (k := 5) (x := "script") (CX := fun _ => L2.CX0) (sp := fun w => L3.spT _ false (fun _ => none) 1 [] Sr.m_law_8) rfl (by decide) rfl ⟨rfl, by decide, by decide⟩ (fun w h Y => PySem.W.kIn_of Y) ?F (fun _ _ a ns hl hO hS => L3.law_sp hO hS (Sr.law_k05_holds ns hl)) (fun _ _ _ _ _ h => h)
  case F =>
    intro w mg fa h KX G hmg
    refine' Sr.all_mk KX G hmg ?a0 ?l0 ?c0 ?k0 ?a1 ?l1 ?c1 ?k1 ?a2 ?l2 ?c2 ?k2 ?a3 ?l3 ?c3 ?k3 ?a4 ?l4 ?c4 ?k4 ?a5 ?l5 ?c5 ?k5 ?a6 ?l6 ?c6 ?k6 ?a7 ?l7 ?c7 ?k7 ?a8 ?l8 ?c8 ?k8 ?a9 ?l9 ?c9 ?k9 ?a10 ?l10 ?c10 ?k10 ?a11 ?l11 ?c11 ?k11 ?a12 ?l12 ?c12 ?k12 ?a13 ?l13 ?c13 ?k13 ?a14 ?l14 ?c14 ?k14 ?a15 ?l15 ?c15 ?k15 ?z0 ?z1 ?z2 ?z3 ?z4
    (case a0 => k_is)
    (case l0 => k_is)
    (case c0 => k_is)
    (case k0 => k_is)
    (case a1 => k_is)
    (case l1 => k_is)
    (case c1 => k_is)
    (case k1 => k_is)
    (case a2 => k_is)
    (case l2 => k_is)
    (case c2 => k_is)
    (case k2 => k_is)
    (case a3 => k_is)
    (case l3 => k_is)
    (case c3 => k_is)
    (case k3 => k_is)
    (case a4 => k_is)
    (case l4 => k_is)
    (case c4 => k_is)
    (case k4 => k_is)
    (case a5 => k_is)
    (case l5 => k_is)
    (case c5 => k_is)
    (case k5 => k_is)
    (case a6 => k_is)
    (case l6 => k_is)
    (case c6 => k_is)
    (case k6 => k_is)
    (case a7 => k_is)
    (case l7 => k_is)
    (case c7 => k_is)
    (case k7 => k_is)
    (case a8 => k_is)
    (case l8 => k_is)
    (case c8 => k_is)
    (case k8 => k_is)
    (case a9 => k_is)
    (case l9 => k_is)
    (case c9 => k_is)
    (case k9 => k_is)
    (case a10 => k_is)
    (case l10 => k_is)
    (case c10 => k_is)
    (case k10 => k_is)
    (case a11 => k_is)
    (case l11 => k_is)
    (case c11 => k_is)
    (case k11 => k_is)
    (case a12 => k_is)
    (case l12 => k_is)
    (case c12 => k_is)
    (case k12 => k_is)
    (case a13 => k_is)
    (case l13 => k_is)
    (case c13 => k_is)
    (case k13 => k_is)
    (case a14 => k_is)
    (case l14 => k_is)
    (case c14 => k_is)
    (case k14 => k_is)
    (case a15 => k_is)
    (case l15 => k_is)
    (case c15 => k_is)
    (case k15 => k_is)
    (case z0 => k_is)
    (case z1 => k_is)
    (case z2 => k_is)
    (case z3 => k_is)
    (case z4 => k_is)
