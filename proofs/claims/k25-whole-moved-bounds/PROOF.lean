import PyProof.Rows.All
import Wide.All
import OpenK.AllK
import Wide.FinOn
import HandS.ForMost
import PyProof.Rows.All
import Wide.All
import OpenK.AllK
import Wide.FinOn
import KE.KIsAll
import KE.KTryMore
import HandS.Base
import HandS.Call
import HandS.List
import HandS.Exc
import HandS.ExcOwn
import HandS.ExcValue
import HandS.ExcIs
import HandS.IsInst
import HandS.ForExc
import HandS.Wide
import HandS.Walk
import HandS.Flow
import HandS.Deep
import HandS.Steps
import HandS.Zip
import HandS.Style
import HandS.TryOnly
import KE.KDictList
import KE.KDictZip
import HandS.Dict
import HandS.Iter
import HandS.More
import PySem.Challenge.RW_shimright_k25_whole_moved_bounds
set_option Elab.async false
set_option linter.all false
set_option maxRecDepth 100000
set_option maxHeartbeats 4000000
set_option autoImplicit false
set_option exponentiation.threshold 10000
/-! X0 -/
/-! X0: a caught error that is kept by a name. -/
namespace L2
open PySem PySem.Spec PyProof.Rows
/-- a caught error of the class at C -/
def ExK (C a : Addr) : HO := .ext fun h => ∃ (oe : Obj) (vs : Array Value), h.get? a = some oe ∧ Zc (.ref C) none oe ∧ oe.data = .fields vs
theorem exK_ok {P : Program} {w : World} {H : Hp} {h : Heap} {a C : Addr} {oe : Obj} {vs : Array Value} (e : h.get? a = some oe) (z : Zc (.ref C) none oe) (d : oe.data = .fields vs) : ObjOk P w H h a (ExK C a) :=
  ⟨⟨oe, vs, e, z, d⟩, ⟨oe, e⟩, fun _ _ ⟨o, v, q, r⟩ k => ⟨o, v, k o q, r⟩⟩
section
variable {X : Cx} {pins : List (Addr × Obj)} {σ : St} {H : Hp} {s : Shared}
/-- an object that is there, and of ours, is tracked from now on -/
theorem Inv.track {a : Addr} {o : HO} (I : Inv X pins σ H s) (hn : H a = none) (h0 : X.s_0.heap.get? a = none) (nL : a ≠ X.env.locals) (nC : ∀ x c, X.env.cells.lookup x = some c → c ≠ a) (nP : ∀ p ∈ X.pn ++ pins, p.1 ≠ a)
    (new : ObjOk X.prog X.w (upd H a o) s.heap a o) : Inv X pins σ (upd H a o) s := by
  have ne0 : ∀ b u, X.s_0.heap.get? b = some u → b ≠ a := fun b u e z => by
    rw [z, h0] at e
    cases e
  have neN : ∀ b u, H b = some u → b ≠ a := fun b u e z => by
    rw [z, hn] at e
    cases e
  refine ⟨I.ok, I.os, I.bare, ⟨I.base.keep, I.base.slot, fun b u e n hq => ?_, I.base.there, fun b xs e => ?_, fun b o u e => ?_, fun b ps e => ?_⟩, I.loc, I.cell, ?_, fun x c e => ?_, fun p hp => ?_, fun b u e => ?_, I.len⟩
  · rw [upd_ne (ne0 b u e)]
    exact I.base.free b u e n hq
  · have q := I.base.tups b xs e
    rw [upd_ne (neN b _ q)]
    exact q
  · have q := I.base.frzs b o u e
    rw [upd_ne (neN b _ q)]
    exact q
  · obtain ⟨m, q⟩ := I.base.tbls b ps e
    exact ⟨m, by rw [upd_ne (neN b _ q)]; exact q⟩
  · rw [upd_ne (Ne.symm nL)]
    exact I.free
  · rw [upd_ne (nC x c e)]
    exact I.freeC x c e
  · obtain ⟨e, n, r⟩ := I.pin p hp
    exact ⟨e, by rw [upd_ne (nP p hp)]; exact n, r⟩
  · by_cases hb : b = a
    · subst hb
      rw [upd_same] at e
      cases e
      exact new
    · rw [upd_ne hb] at e
      exact (I.hok b u e).stay (fun _ _ _ q => q) (fun c q => by rw [upd_ne (neN c _ q)]; exact q) fun c xs q => by rw [upd_ne (neN c _ q)]; exact q
end
end L2
namespace L2
open PySem PySem.Spec PyProof.Rows
/-- what is wished of an error of the body where the one clause keeps it -/
def wKeep (K : PySem.W.Frag) (c : Value) (i : Nat) (ts : TS) (D : Ends) : WX := fun cls d σ H =>
  PySem.W.exmOne K cls c = some true ∧ ∀ a, H a = none → ts { nx := fun σ' H' => H' a = none → ∃ C, cls = .ref C ∧ d = none ∧ D.nx (σ'.set i none) (upd H' a (ExK C a)), rt := fun _ _ => False, bk := fun _ _ => False, ct := fun _ _ => False } (σ.set i (some (.ref a))) H
section
variable {X : Cx} {x n : Str} {c : Value} {i : Nat} {body suite : List Stmt} {b₀ : Stmt} {np pos pos' : Pos} {tb : WX → TS} {ts : TS}
/-- no frame's names lie where fields lie -/
theorem no_frame {B h : Heap} {l : List Env} {a : Addr} {o : Obj} {vs : Array Value} (f : h.FunFrames B l) (e : h.get? a = some o) (d : o.data = .fields vs) : a ∉ frs l := fun hm => by
  obtain ⟨_, o', e', q⟩ := f.mem hm
  rw [e] at e'
  cases e'
  exact q _ d
theorem ps_try_keep (hs : X.stack = X.env :: X.outer) (hf : X.env.frame = some X.env.locals) (hex : X.ex = []) (hN : X.N.Nodup) (hi : X.N[i]? = some n) (hln : X.env.kindOf n = some .local) (hc : Names X x c)
    (hb : ∀ (W : WX) (pn : List (Addr × Obj)) (xe : Value → Shared → Prop), Takes (X.tr pn xe) W → PassesOwn (model X.prog X.w) X.A X.env xe → PSs (X.tr pn xe) body (tb W))
    (hsu : ∀ (a : Addr) (oe : Obj) (pn : List (Addr × Obj)), PSs (X.suite a ((a, oe) :: pn)) (b₀ :: suite) ts) :
    PS X (.Try body [.ExceptHandler (some (.Name x np)) (some n) (b₀ :: suite) pos'] [] [] pos) (fun D σ H => tb (wKeep X.K c i ts D) D σ H) := by
  refine ⟨fun pins s σ H D I h => wpAny_Try_except ?_⟩
  have ok := I.ok
  have hfr : X.A.frames = some (X.env :: X.outer) := by rw [ok.frames, hs]
  refine wpAny_mono ((hb (wKeep X.K c i ts D) (X.pn ++ pins) (fun e s₁ => wpAny (model X.prog X.w) X.A (noteFrame e X.env) (fun _ s₂ => wpAny (model X.prog X.w) X.A (setFlight e none) (fun _ s₃ =>
    wpAny (model X.prog X.w) X.A (handleBy e X.env [.ExceptHandler (some (.Name x np)) (some n) (b₀ :: suite) pos']) (SP X pins D) X.xe s₃) X.xe s₂) X.xe s₁) (fun u s' xx => ?_) PassesOwn.looking).run [] s σ H D (I.toTry _) h) (fun f s1 hsp => ?_) (fun e s1 he => he)
  · obtain ⟨a, B, sI, pins', σ', H', cls, d, rfl, J', nb, up, sky, na, os, ag, hb1, hyes⟩ := xx
    have J : Inv X pins σ' H' sI := J'.ofTry ok
    rw [show (X.tr (X.pn ++ pins) _).stack = X.env :: X.outer from hs] at sky
    refine Sky.land Zc.steady hfr hf sky fun h3 fl3 up3 => ?_
    have J3 : Inv X pins σ' H' { s' with heap := h3 } := J.landed nb fl3.1 (up.trans up3) os ag
    obtain ⟨oe3, vs3, he3, hz3, hd3⟩ := fl3.there
    have nfr := no_frame fl3.2.2.1 he3 hd3
    have nL : a ≠ X.env.locals := fun z => nfr (List.mem_filterMap.mpr ⟨X.env, List.mem_cons_self, by rw [hf, z]⟩)
    have nF : a ∉ X.fs := fun hm => by
      obtain ⟨e, he, q⟩ := List.mem_filterMap.mp hm
      exact nfr (List.mem_filterMap.mpr ⟨e, List.mem_cons_of_mem _ he, q⟩)
    have nI : ∀ b o, sI.heap.get? b = some o → b ≠ a := fun b o e z => by
      subst z
      have := nb b o e (by rw [hs]; exact nfr)
      rw [fl3.2.1] at this
      cases this
    have S3 := J3.suite he3 hd3 na nL nF
    refine wpAny_handleBy_cons (codeAny_handlers_test ?_) (by intro q; cases q)
    have LT : PySem.W.Looks (model X.prog X.w) h3 (typeOf (.ref a)) cls := fun A Q E s k q => wpAny_typeOf_ref (k _ _ he3) (by rw [hz3.1]; exact q)
    have LM := PySem.W.exm_one (M := model X.prog X.w) (J3.kIn) LT hb1
    have test : ∀ {Q : Value → Shared → Prop} {E : Value → Shared → Prop}, Q c { s' with heap := h3 } → wpAny (model X.prog X.w) (X.A.mark (some (.ref a))) (eval (.Name x np) X.env) Q E { s' with heap := h3 } := fun {Q E} q => by
      obtain ⟨hg, hdbg, hm | ⟨hm, hv, hnn⟩⟩ := hc
      · exact ld_glob (X := X.suite a ((a, oe3) :: (X.pn ++ pins))) S3 hg hm q hdbg
      · exact ld_blt (X := X.suite a ((a, oe3) :: (X.pn ++ pins))) S3 hg hm hv q hnn hdbg
    refine test (LM.here (codeAny_handlers_suite_as ?_))
    refine HandSPX.lands_againZ fl3 fun h4 fl4 up4 => ?_
    have J4 : Inv X pins σ' H' { s' with heap := h4 } := J.landed nb fl4.1 ((up.trans up3).trans up4) os ag
    obtain ⟨oe4, vs4, he4, hz4, hd4⟩ := fl4.there
    have S4 := J4.suite he4 hd4 na nL nF
    refine store_ok (X := X.suite a ((a, oe4) :: (X.pn ++ pins))) (v := .ref a) S4 hN hi (.inl hln) rfl (fun s5 S5 => ?_) (.inr hln)
    refine wpAny_mono ((hsu a oe4 (X.pn ++ pins)).run [] s5 _ H' _ S5 (hyes a na)) (fun f s6 hsp => ?_) (fun _ _ z => False.elim z)
    cases f with
    | next =>
      obtain ⟨σ6, H6, S6, q6⟩ := hsp
      obtain ⟨g6, n6, _⟩ := S6.pin (a, oe4) (List.mem_append_left _ List.mem_cons_self)
      obtain ⟨C, rfl, rfl, q7⟩ := q6 n6
      have U : Inv X pins σ6 H6 s6 := S6.unsuite ok
      have h0 : X.s_0.heap.get? a = none := by
        cases e : X.s_0.heap.get? a with
        | none => rfl
        | some o =>
          obtain ⟨o', e'⟩ := J.base.there a o e (by rw [hex]; exact fun z => nomatch z)
          exact (nI a o' e' rfl).elim
      have T : Inv X pins σ6 (upd H6 a (ExK C a)) s6 := U.track n6 h0 nL (fun x' c' e => by
        obtain ⟨v, o, ho, _⟩ := J.cell x' c' e
        exact nI c' o ho) (fun p hp => nI p.1 p.2 (J.pin p hp).1) (exK_ok g6 hz4 hd4)
      exact gone_ok T hN hi hln fun s7 J7 => ⟨_, _, J7, q7⟩
    | brk =>
      obtain ⟨σ6, H6, S6, q6⟩ := hsp
      exact q6.elim
    | cont =>
      obtain ⟨σ6, H6, S6, q6⟩ := hsp
      exact q6.elim
    | ret u =>
      obtain ⟨v6, σ6, H6, S6, r6, q6⟩ := hsp
      exact q6.elim
  · cases f with
    | next =>
      obtain ⟨σ', H', J', q⟩ := hsp
      exact wpAny_execs_nil ⟨σ', H', J'.ofTry ok, q⟩
    | brk =>
      obtain ⟨σ', H', J', q⟩ := hsp
      exact ⟨σ', H', J'.ofTry ok, q⟩
    | cont =>
      obtain ⟨σ', H', J', q⟩ := hsp
      exact ⟨σ', H', J'.ofTry ok, q⟩
    | ret u =>
      obtain ⟨v, σ', H', J', r, q⟩ := hsp
      exact ⟨v, σ', H', J'.ofTry ok, r, q⟩
end
end L2
namespace L2
open PySem PySem.Spec PyProof.Rows
/-- isinstance(x, c), x a kept error -/
def rIsX (K : PySem.W.Frag) : List V → Hp → VK → Prop := fun xs H Q => ∃ (a D : Addr) (c : V) (u : Value) (b : Bool), xs = [.ref a, c] ∧ H a = some (ExK D a) ∧ ExcC K D ∧ ClsV c u ∧ PySem.W.kitOne K (.ref D) u = some b ∧ Q (.bl b) H
/-- isinstance(x, (c1, ..)), x a kept error -/
def rIsXT (K : PySem.W.Frag) : List V → Hp → VK → Prop := fun xs H Q => ∃ (a D tp : Addr) (cs : List V) (us : List Value) (b : Bool), xs = [.ref a, .ref tp] ∧ H a = some (ExK D a) ∧ ExcC K D ∧ H tp = some (.tup cs) ∧ Paired ClsV cs us ∧ PySem.W.kitAny K (.ref D) us = some b ∧ Q (.bl b) H
section
variable {X : Cx}
theorem exK_at {pins : List (Addr × Obj)} {σ : St} {H : Hp} {s : Shared} {a D : Addr} (I : Inv X pins σ H s) (e : H a = some (ExK D a)) : ∃ oe, PySem.W.InstAt s.heap a oe D none := by
  obtain ⟨⟨oe, vs, hget, hz, hv⟩, _, _⟩ := I.hok a _ e
  refine ⟨oe, ?_⟩
  obtain ⟨oc, od, oda, osl⟩ := oe
  obtain ⟨h1, h2⟩ := hz
  dsimp only at h1 h2 hv
  subst h1 h2 hv
  exact ⟨hget, rfl, rfl, trivial⟩
theorem call_isX : CallR X (.builtin "isinstance") (rIsX X.K) := by
  intro pins s σ H xs us Q I r h
  obtain ⟨a, D, c, u, b, rfl, ea, C, k, e, q⟩ := h
  obtain ⟨u1, u2, rfl, r1, r2⟩ := vals2 r
  cases (show u1 = Value.ref a from r1)
  have e2 := k.eq r2
  subst e2
  obtain ⟨oe, J⟩ := exK_at I ea
  exact PySem.W.kia_one (PySem.W.handS_kitx_exc C.hg C.hk C.hs C.hd C.ha C.hn C.ht C.hm) I.kIn J e (fun z => nomatch z) fun tk => ⟨.bl b, H, I.tok tk, rfl, q⟩
theorem call_isXT : CallR X (.builtin "isinstance") (rIsXT X.K) := by
  intro pins s σ H xs us Q I r h
  obtain ⟨a, D, tp, cs, ws, b, rfl, ea, C, hT, k, e, q⟩ := h
  obtain ⟨u1, u2, rfl, r1, r2⟩ := vals2 r
  cases (show u1 = Value.ref a from r1)
  cases (show u2 = Value.ref tp from r2)
  obtain ⟨oe, J⟩ := exK_at I ea
  obtain ⟨_, its, rv, o, h1, h2, n, h3⟩ := (show ObjOk X.prog X.w H s.heap tp (.tup cs) from I.hok tp _ hT)
  have e3 := ClsV.all k rv
  subst e3
  obtain ⟨oc, od, dt, sl⟩ := o
  simp only at h2 h3
  subst h2 h3
  exact PySem.W.kia_tup (PySem.W.handS_kitx_exc C.hg C.hk C.hs C.hd C.ha C.hn C.ht C.hm) I.kIn J h1 e (fun z => nomatch z) fun tk => ⟨.bl b, H, I.tok tk, rfl, q⟩
end
end L2
/-! L3a -/
/-! L3: an own layer over HandS: pure data, owned trees, mirrors. -/
namespace L3
open PySem PySem.Spec PyProof.Rows L2

/-! ### results -/
inductive R (α : Type) : Type where
  | ok (a : α) | exc (c : Str) | bad
def R.bind {α β : Type} (r : R α) (f : α → R β) : R β := match r with | .ok a => f a | .exc c => .exc c | .bad => .bad
def Then {α : Type} (r : R α) (P : α → Prop) (E : Str → Prop) : Prop := match r with | .ok a => P a | .exc c => E c | .bad => False
theorem then_ok {α : Type} {a : α} {P : α → Prop} {E : Str → Prop} : Then (.ok a) P E ↔ P a := Iff.rfl
theorem then_bad {α : Type} {P : α → Prop} {E : Str → Prop} : Then (.bad : R α) P E ↔ False := Iff.rfl
theorem then_exc {α : Type} {c : Str} {P : α → Prop} {E : Str → Prop} : Then (.exc c : R α) P E ↔ E c := Iff.rfl
theorem bind_ok {α β : Type} {a : α} {f : α → R β} : (R.ok a).bind f = f a := rfl
theorem bind_bad {α β : Type} {f : α → R β} : (R.bad : R α).bind f = .bad := rfl
theorem then_bind {α β : Type} {r : R α} {f : α → R β} {P : β → Prop} {E : Str → Prop} : Then (r.bind f) P E ↔ Then r (fun a => Then (f a) P E) E := by
  cases r <;> exact Iff.rfl
theorem Then.mono {α : Type} {r : R α} {P P' : α → Prop} {E E' : Str → Prop} (h : Then r P E) (hp : ∀ a, P a → P' a) (he : ∀ c, E c → E' c) : Then r P' E' := by
  cases r with
  | ok a => exact hp a h
  | exc c => exact he c h
  | bad => exact h
theorem Then.imp {α : Type} {r : R α} {P P' : α → Prop} {E : Str → Prop} (h : Then r P E) (hp : ∀ a, P a → P' a) : Then r P' E := h.mono hp fun _ x => x
theorem Then.and_ok {α : Type} {r : R α} {P : α → Prop} {E : Str → Prop} {a : α} (h : Then r P E) (e : r = .ok a) : P a := by subst e; exact h
def guard (b : Bool) {α : Type} (r : R α) : R α := if b = true then r else .bad
theorem then_guard {α : Type} {b : Bool} {r : R α} {P : α → Prop} {E : Str → Prop} : Then (guard b r) P E ↔ b = true ∧ Then r P E := by
  unfold guard
  cases b
  · constructor
    · intro h; exact h.elim
    · intro h; exact nomatch h.1
  · exact ⟨fun h => ⟨rfl, h⟩, fun h => h.2⟩
theorem guard_true {α : Type} {b : Bool} {r : R α} (h : b = true) : guard b r = r := by unfold guard; rw [if_pos h]
def ofO {α : Type} (o : Option α) : R α := match o with | some a => .ok a | none => .bad
theorem then_ofO {α : Type} {o : Option α} {P : α → Prop} {E : Str → Prop} : Then (ofO o) P E ↔ ∃ a, o = some a ∧ P a := by
  cases o with
  | none => exact ⟨fun h => h.elim, fun ⟨_, h, _⟩ => nomatch h⟩
  | some a => exact ⟨fun h => ⟨a, rfl, h⟩, fun ⟨b, h, q⟩ => by cases h; exact q⟩

/-! ### data and trees -/
abbrev D := PyData
inductive T where
  | d (x : PyData)
  | ol (xs : List T)
  | ot (xs : List T)
  | od (ks : List Key) (xs : List T)
  | rd (xs : List PyData)
  | ex (x : Str)
  | ob (x : Str) (fs : List Str) (xs : List T)
abbrev Env := List (Option T)
abbrev MEx := Env → R (T × Env)

/-- the class that the linked module knows by a name -/
def clK (K : PySem.W.Frag) (x : Str) : Option Addr := match PySem.W.nsIn K PySem.mainGlobals x with
  | some (some (.ref C)) => some C
  | _ => none
section
variable (K : PySem.W.Frag) (F : Addr → Prop) (H : Hp)
/-- a list that nobody writes: the script, a list of the module's -/
def RdL (a : Addr) (vs : List V) : Prop := (∃ o, H a = some (.frz o (.lst vs))) ∨ ∃ (o : Obj) (its : Array Value) (n : Nat), K.lookup a = some o ∧ o.cls = .type "list" ∧ o.dict = none ∧ o.data = .seq its n ∧ its.size ≤ sizeLine ∧ Vals vs its.toList
mutual
inductive Fz : V → PyData → Prop
  | non : Fz .non .none
  | bl (b : Bool) : Fz (.bl b) (.bool b)
  | int (i : Int) : Fz (.int i) (.int i)
  | str (x : Str) : Fz (.str x) (.str x)
  | lst {a : Addr} {vs : List V} {ds : List PyData} : H a = some (.lst vs) → F a → FzAll vs ds → Fz (.ref a) (.list ds)
  | tup {a : Addr} {vs : List V} {ds : List PyData} : SqT K H a vs → FzAll vs ds → Fz (.ref a) (.tuple ds)
inductive FzAll : List V → List PyData → Prop
  | nil : FzAll [] []
  | cons {v : V} {vs : List V} {d : PyData} {ds : List PyData} : Fz v d → FzAll vs ds → FzAll (v :: vs) (d :: ds)
end
mutual
inductive Rp : V → T → List Addr → Prop
  | d {v : V} {x : PyData} : Fz K F H v x → Rp v (.d x) []
  | ol {a : Addr} {vs : List V} {ts : List T} {A : List Addr} : H a = some (.lst vs) → RpAll vs ts A → Rp (.ref a) (.ol ts) (a :: A)
  | ot {a : Addr} {vs : List V} {ts : List T} {A : List Addr} : H a = some (.tup vs) → RpAll vs ts A → Rp (.ref a) (.ot ts) A
  | od {a : Addr} {kvs : List (Key × V)} {ks : List Key} {ts : List T} {A : List Addr} : H a = some (.dK kvs) → kvs.map Prod.fst = ks → ks.Nodup → RpAll (kvs.map Prod.snd) ts A → Rp (.ref a) (.od ks ts) (a :: A)
  | rd {a : Addr} {vs : List V} {ds : List PyData} : RdL K H a vs → FzAll K F H vs ds → Rp (.ref a) (.rd ds) []
  | ob {a C dx : Addr} {x : Str} {kvs : List (Str × V)} {fs : List Str} {ts : List T} {A : List Addr} : H a = some (.ins C dx kvs) → clK K x = some C → kvs.map Prod.fst = fs → RpAll (kvs.map Prod.snd) ts A → Rp (.ref a) (.ob x fs ts) (a :: A)
  | ex {a C : Addr} {x : Str} : H a = some (ExK C a) → clK K x = some C → ExcC K C → Rp (.ref a) (.ex x) []
inductive RpAll : List V → List T → List Addr → Prop
  | nil : RpAll [] [] []
  | cons {v : V} {vs : List V} {t : T} {ts : List T} {A B : List Addr} : Rp v t A → RpAll vs ts B → RpAll (v :: vs) (t :: ts) (A ++ B)
end
inductive Sl : List (Option V) → Env → List Addr → Prop
  | nil : Sl [] [] []
  | skip {o : Option V} {sl : List (Option V)} {ρ : Env} {A : List Addr} : Sl sl ρ A → Sl (o :: sl) (none :: ρ) A
  | cons {v : V} {t : T} {sl : List (Option V)} {ρ : Env} {A B : List Addr} : Rp K F H v t A → Sl sl ρ B → Sl (some v :: sl) (some t :: ρ) (A ++ B)
end

section
variable {K : PySem.W.Frag} {F F' : Addr → Prop} {H H' : Hp}
theorem RdL.sq {a : Addr} {vs : List V} (h : RdL K H a vs) : SqL K H a vs := by
  rcases h with ⟨o, h⟩ | h
  · exact .inl (.inr ⟨o, h⟩)
  · exact .inr h
/-- what never changes -/
def Still : HO → Prop
  | .tup _ => True
  | .frz _ _ => True
  | .ext _ => True
  | _ => False
structure Mono (F F' : Addr → Prop) (H H' : Hp) : Prop where
  lst : ∀ a vs, H a = some (.lst vs) → F a → H' a = some (.lst vs) ∧ F' a
  still : ∀ a u, H a = some u → Still u → H' a = some u
theorem Mono.same (s : Same H H') : Mono F F H H' := ⟨fun _ _ h f => ⟨s _ _ h, f⟩, fun _ _ h _ => s _ _ h⟩
theorem Mono.sub (f : ∀ a, H a ≠ none → F a → F' a) : Mono F F' H H := ⟨fun _ _ h x => ⟨h, f _ (by rw [h]; exact fun z => nomatch z) x⟩, fun _ _ h _ => h⟩
theorem sqT_mono (s : ∀ a u, H a = some u → Still u → H' a = some u) {a : Addr} {vs : List V} (h : SqT K H a vs) : SqT K H' a vs := by
  rcases h with (h | ⟨o, h⟩) | h
  · exact .inl (.inl (s _ _ h trivial))
  · exact .inl (.inr ⟨o, s _ _ h trivial⟩)
  · exact .inr h
theorem RdL.mono (s : ∀ a u, H a = some u → Still u → H' a = some u) {a : Addr} {vs : List V} (h : RdL K H a vs) : RdL K H' a vs := by
  rcases h with ⟨o, h⟩ | h
  · exact .inl ⟨o, s _ _ h trivial⟩
  · exact .inr h
mutual
theorem Fz.mono (m : Mono F F' H H') : ∀ {v : V} {x : PyData}, Fz K F H v x → Fz K F' H' v x
  | _, _, .non => .non
  | _, _, .bl b => .bl b
  | _, _, .int i => .int i
  | _, _, .str x => .str x
  | _, _, .lst h f a => .lst (m.lst _ _ h f).1 (m.lst _ _ h f).2 (FzAll.mono m a)
  | _, _, .tup h a => .tup (sqT_mono m.still h) (FzAll.mono m a)
theorem FzAll.mono (m : Mono F F' H H') : ∀ {vs : List V} {xs : List PyData}, FzAll K F H vs xs → FzAll K F' H' vs xs
  | _, _, .nil => .nil
  | _, _, .cons h a => .cons (Fz.mono m h) (FzAll.mono m a)
end
mutual
theorem Rp.mono (m : Mono F F' H H') : ∀ {v : V} {t : T} {A : List Addr}, Rp K F H v t A → (∀ a ∈ A, H' a = H a) → Rp K F' H' v t A
  | _, _, _, .d h, _ => .d (h.mono m)
  | _, _, _, .ol h r, k => .ol ((k _ List.mem_cons_self).trans h) (RpAll.mono m r fun a ha => k a (List.mem_cons_of_mem _ ha))
  | _, _, _, .ot h r, k => .ot (m.still _ _ h trivial) (RpAll.mono m r k)
  | _, _, _, .od h e d r, k => .od ((k _ List.mem_cons_self).trans h) e d (RpAll.mono m r fun a ha => k a (List.mem_cons_of_mem _ ha))
  | _, _, _, .ob h c e r, k => .ob ((k _ List.mem_cons_self).trans h) c e (RpAll.mono m r fun a ha => k a (List.mem_cons_of_mem _ ha))
  | _, _, _, .rd h r, _ => .rd (h.mono m.still) (FzAll.mono m r)
  | _, _, _, .ex h c e, _ => .ex (m.still _ _ h trivial) c e
theorem RpAll.mono (m : Mono F F' H H') : ∀ {vs : List V} {ts : List T} {A : List Addr}, RpAll K F H vs ts A → (∀ a ∈ A, H' a = H a) → RpAll K F' H' vs ts A
  | _, _, _, .nil, _ => .nil
  | _, _, _, .cons h r, k => .cons (Rp.mono m h fun a ha => k a (List.mem_append_left _ ha)) (RpAll.mono m r fun a ha => k a (List.mem_append_right _ ha))
end
theorem Sl.mono (m : Mono F F' H H') : ∀ {sl : List (Option V)} {ρ : Env} {A : List Addr}, Sl K F H sl ρ A → (∀ a ∈ A, H' a = H a) → Sl K F' H' sl ρ A
  | _, _, _, .nil, _ => .nil
  | _, _, _, .skip h, k => .skip (Sl.mono m h k)
  | _, _, _, .cons h r, k => .cons (h.mono m fun a ha => k a (List.mem_append_left _ ha)) (Sl.mono m r fun a ha => k a (List.mem_append_right _ ha))
theorem Sl.len : ∀ {sl : List (Option V)} {ρ : Env} {A : List Addr}, Sl K F H sl ρ A → sl.length = ρ.length
  | _, _, _, .nil => rfl
  | _, _, _, .skip h => by rw [List.length_cons, List.length_cons, h.len]
  | _, _, _, .cons _ h => by rw [List.length_cons, List.length_cons, h.len]
theorem FzAll.len : ∀ {vs : List V} {xs : List PyData}, FzAll K F H vs xs → vs.length = xs.length
  | _, _, .nil => rfl
  | _, _, .cons _ h => by rw [List.length_cons, List.length_cons, h.len]
theorem RpAll.len : ∀ {vs : List V} {ts : List T} {A : List Addr}, RpAll K F H vs ts A → vs.length = ts.length
  | _, _, _, .nil => rfl
  | _, _, _, .cons _ h => by rw [List.length_cons, List.length_cons, h.len]
theorem FzAll.get : ∀ {vs : List V} {xs : List PyData}, FzAll K F H vs xs → ∀ {i : Nat} {x : PyData}, xs[i]? = some x → ∃ v, vs[i]? = some v ∧ Fz K F H v x
  | _, _, .nil, i, x, h => by simp at h
  | _, _, .cons (v := v) a r, 0, x, h => by
    simp at h; subst h
    exact ⟨v, rfl, a⟩
  | _, _, .cons a r, i + 1, x, h => by
    obtain ⟨v, e, q⟩ := r.get (i := i) (x := x) (by simpa using h)
    exact ⟨v, by simpa using e, q⟩
theorem RpAll.get : ∀ {vs : List V} {ts : List T} {A : List Addr}, RpAll K F H vs ts A → ∀ {i : Nat} {t : T}, ts[i]? = some t → ∃ v B, vs[i]? = some v ∧ Rp K F H v t B ∧ ∀ a, B.count a ≤ A.count a
  | _, _, _, .nil, i, x, h => by simp at h
  | _, _, _, .cons (v := v) (A := A1) a r, 0, x, h => by
    simp at h; subst h
    exact ⟨v, A1, rfl, a, fun b => by rw [List.count_append]; omega⟩
  | _, _, _, .cons a r, i + 1, x, h => by
    obtain ⟨v, B, e, q, z⟩ := r.get (i := i) (t := x) (by simpa using h)
    exact ⟨v, B, by simpa using e, q, fun b => by have := z b; rw [List.count_append]; omega⟩
mutual
theorem Rp.own : ∀ {v : V} {t : T} {A : List Addr}, Rp K F H v t A → ∀ a ∈ A, ∃ u, H a = some u ∧ ¬ Still u
  | _, _, _, .d _, a, h => by simp at h
  | _, _, _, .ol (vs := vs) e r, a, h => by
    rcases List.mem_cons.mp h with z | z
    · exact ⟨_, (by rw [z]; exact e), (by intro y; cases y)⟩
    · exact RpAll.own r a z
  | _, _, _, .ot _ r, a, h => RpAll.own r a h
  | _, _, _, .od (kvs := kvs) e _ _ r, a, h => by
    rcases List.mem_cons.mp h with z | z
    · exact ⟨_, (by rw [z]; exact e), (by intro y; cases y)⟩
    · exact RpAll.own r a z
  | _, _, _, .ob e _ _ r, a, h => by
    rcases List.mem_cons.mp h with z | z
    · exact ⟨_, (by rw [z]; exact e), (by intro y; cases y)⟩
    · exact RpAll.own r a z
  | _, _, _, .rd _ _, a, h => by simp at h
  | _, _, _, .ex _ _ _, a, h => by simp at h
theorem RpAll.own : ∀ {vs : List V} {ts : List T} {A : List Addr}, RpAll K F H vs ts A → ∀ a ∈ A, ∃ u, H a = some u ∧ ¬ Still u
  | _, _, _, .nil, a, h => by simp at h
  | _, _, _, .cons x r, a, h => by
    rcases List.mem_append.mp h with z | z
    · exact Rp.own x a z
    · exact RpAll.own r a z
end
theorem Sl.own : ∀ {sl : List (Option V)} {ρ : Env} {A : List Addr}, Sl K F H sl ρ A → ∀ a ∈ A, ∃ u, H a = some u ∧ ¬ Still u
  | _, _, _, .nil, a, h => by simp at h
  | _, _, _, .skip h, a, z => h.own a z
  | _, _, _, .cons x r, a, h => by
    rcases List.mem_append.mp h with z | z
    · exact x.own a z
    · exact r.own a z
end

/-! ### the state -/
structure C0 where
  H0 : Hp
  A0 : List Addr
  F0 : Addr → Prop
def Fok (c : C0) (A : List Addr) : Addr → Prop := fun a => (c.F0 a ∨ c.H0 a = none ∨ a ∈ c.A0) ∧ a ∉ A
structure KeepC (c : C0) (H : Hp) : Prop where
  keep : ∀ a o, c.H0 a = some o → a ∉ c.A0 → H a = some o
  there : ∀ a, H a = none → c.H0 a = none
structure StW (K : PySem.W.Frag) (c : C0) (H : Hp) (sl : List (Option V)) (ρ : Env) (A : List Addr) : Prop where
  uniq : ∀ a, A.count a ≤ 1
  slots : Sl K (Fok c A) H sl ρ A
  own : ∀ a ∈ A, a ∈ c.A0 ∨ c.H0 a = none
  keep : KeepC c H
def StR (K : PySem.W.Frag) (c : C0) (H : Hp) (sl : List (Option V)) (ρ : Env) : Prop := ∃ A, StW K c H sl ρ A
section
variable {K : PySem.W.Frag} {c : C0} {H H' : Hp} {sl : List (Option V)} {ρ : Env} {A : List Addr}
theorem StR.keep (h : StR K c H sl ρ) : KeepC c H := let ⟨_, w⟩ := h; w.keep
theorem KeepC.grow (k : KeepC c H) (s : Same H H') : KeepC c H' := ⟨fun a o e n => s _ _ (k.keep a o e n), fun a e => k.there a (s.free e)⟩
theorem StW.grow (w : StW K c H sl ρ A) (s : Same H H') : StW K c H' sl ρ A :=
  ⟨w.uniq, w.slots.mono (.same s) fun a ha => by
    obtain ⟨u, e, _⟩ := w.slots.own a ha
    rw [e, s _ _ e], w.own, w.keep.grow s⟩
theorem StR.grow (h : StR K c H sl ρ) (s : Same H H') : StR K c H' sl ρ := let ⟨A, w⟩ := h; ⟨A, w.grow s⟩
theorem same_upd {p : Addr} {o : HO} (h : H p = none) : Same H (upd H p o) := fun b x e => by rw [upd_ne (ne_of_none e h)]; exact e
/-- fewer owned: the frozen stay -/
theorem Fok.sub {B : List Addr} (h : ∀ a, B.count a ≤ A.count a) : ∀ a, Fok c A a → Fok c B a := fun a ⟨x, y⟩ => ⟨x, fun z => y (by
  have := List.count_pos_iff.mpr z
  have := h a
  exact List.count_pos_iff.mp (by omega))⟩
theorem StW.drop {o : Option V} {t : Option T} (w : StW K c H (o :: sl) (t :: ρ) A) : ∃ B, StW K c H sl ρ B ∧ ∀ a, B.count a ≤ A.count a := by
  obtain ⟨u, s, ow, k⟩ := w
  cases s with
  | skip s => exact ⟨A, ⟨u, s, ow, k⟩, fun _ => Nat.le_refl _⟩
  | cons x r =>
    rename_i A1 B1
    have hb : ∀ a, B1.count a ≤ (A1 ++ B1).count a := fun a => by rw [List.count_append]; omega
    exact ⟨B1, ⟨fun a => Nat.le_trans (hb a) (u a), r.mono (.sub fun a _ => Fok.sub hb a) fun _ _ => rfl, fun a ha => ow a (List.mem_append_right _ ha), k⟩, hb⟩
theorem StR.drop {o : Option V} {t : Option T} (h : StR K c H (o :: sl) (t :: ρ)) : StR K c H sl ρ := let ⟨_, w⟩ := h; let ⟨B, w', _⟩ := w.drop; ⟨B, w'⟩
theorem StR.len (h : StR K c H sl ρ) : sl.length = ρ.length := let ⟨_, w⟩ := h; w.slots.len
/-- a datum pushed -/
theorem StW.pushD {v : V} {x : PyData} (w : StW K c H sl ρ A) (f : Fz K (Fok c A) H v x) : StW K c H (some v :: sl) (some (.d x) :: ρ) A := ⟨w.uniq, .cons (A := []) (.d f) w.slots, w.own, w.keep⟩
/-- the top's parts -/
theorem StW.top {v : V} {t : T} (w : StW K c H (some v :: sl) (some t :: ρ) A) : ∃ A1 B, A = A1 ++ B ∧ Rp K (Fok c A) H v t A1 ∧ Sl K (Fok c A) H sl ρ B := by
  obtain ⟨u, s, ow, k⟩ := w
  cases s with
  | cons x r => exact ⟨_, _, rfl, x, r⟩
theorem StW.topD {v : V} {x : PyData} (w : StW K c H (some v :: sl) (some (.d x) :: ρ) A) : Fz K (Fok c A) H v x ∧ StW K c H sl ρ A := by
  obtain ⟨u, s, ow, k⟩ := w
  cases s with
  | cons x r =>
    cases x with
    | d f => exact ⟨f, u, r, ow, k⟩
end


/-! ### slots: one looked at, stored, emptied -/
section
variable {K : PySem.W.Frag} {F F' : Addr → Prop} {H H' : Hp}
/-- what is left around a slot: B; a new thing may come into its place -/
structure Around1 (K : PySem.W.Frag) (F : Addr → Prop) (H : Hp) (i : Nat) (sl : List (Option V)) (ρ : Env) (B : List Addr) : Prop where
  put : ∀ {F' : Addr → Prop} {H' : Hp}, Mono F F' H H' → (∀ a ∈ B, H' a = H a) → ∀ {v' : V} {t' : T} {A2 : List Addr}, Rp K F' H' v' t' A2 →
    ∃ C, Sl K F' H' (sl.set i (some v')) (ρ.set i (some t')) C ∧ ∀ a, C.count a = A2.count a + B.count a
  gone : ∀ o : Option V, ∃ C, Sl K F H (sl.set i o) (ρ.set i none) C ∧ ∀ a, C.count a = B.count a
theorem Sl.around : ∀ {sl : List (Option V)} {ρ : Env} {A : List Addr}, Sl K F H sl ρ A → ∀ {i : Nat}, i < sl.length → ∃ B, (∀ a, B.count a ≤ A.count a) ∧ Around1 K F H i sl ρ B ∧
    ∀ t, ρ[i]? = some (some t) → ∃ v A1, sl[i]? = some (some v) ∧ Rp K F H v t A1 ∧ ∀ a, A.count a = A1.count a + B.count a
  | _, _, _, .nil, i, h => by simp at h
  | _, _, _, .skip (o := o) (sl := sl) (ρ := ρ) (A := A) r, 0, h => by
    refine ⟨A, fun _ => Nat.le_refl _, ⟨fun m k v' t' A2 x => ⟨A2 ++ A, .cons x (r.mono m k), fun a => by rw [List.count_append]⟩, fun o' => ⟨A, .skip r, fun _ => rfl⟩⟩, fun t e => by simp at e⟩
  | _, _, _, .cons (v := v) (t := t) (A := A) (B := B) x r, 0, h => by
    refine ⟨B, fun a => by rw [List.count_append]; omega, ⟨fun m k v' t' A2 y => ⟨A2 ++ B, .cons y (r.mono m k), fun a => by rw [List.count_append]⟩, fun o' => ⟨B, .skip r, fun _ => rfl⟩⟩, fun t' e => ?_⟩
    have e' : t = t' := by simpa using e
    subst e'
    exact ⟨v, A, rfl, x, fun a => by rw [List.count_append]⟩
  | _, _, _, .skip (o := o) (A := A) r, i + 1, h => by
    obtain ⟨B, hb, ar, q⟩ := r.around (i := i) (by simpa using h)
    refine ⟨B, hb, ⟨fun m k v' t' A2 x => ?_, fun o' => ?_⟩, fun t e => ?_⟩
    · obtain ⟨C, s, z⟩ := ar.put m k x
      exact ⟨C, .skip s, z⟩
    · obtain ⟨C, s, z⟩ := ar.gone o'
      exact ⟨C, .skip s, z⟩
    · obtain ⟨v, A1, e1, x, z⟩ := q t (by simpa using e)
      exact ⟨v, A1, by simpa using e1, x, z⟩
  | _, _, _, .cons (v := w) (t := t0) (A := A0) (B := B0) y r, i + 1, h => by
    obtain ⟨B, hb, ar, q⟩ := r.around (i := i) (by simpa using h)
    refine ⟨A0 ++ B, fun a => by rw [List.count_append, List.count_append]; have := hb a; omega, ⟨fun m k v' t' A2 x => ?_, fun o' => ?_⟩, fun t e => ?_⟩
    · obtain ⟨C, s, z⟩ := ar.put m (fun a ha => k a (List.mem_append_right _ ha)) x
      exact ⟨A0 ++ C, .cons (y.mono m fun a ha => k a (List.mem_append_left _ ha)) s, fun a => by rw [List.count_append, List.count_append, z a]; omega⟩
    · obtain ⟨C, s, z⟩ := ar.gone o'
      exact ⟨A0 ++ C, .cons y s, fun a => by rw [List.count_append, List.count_append, z a]⟩
    · obtain ⟨v, A1, e1, x, z⟩ := q t (by simpa using e)
      exact ⟨v, A1, by simpa using e1, x, fun a => by rw [List.count_append, List.count_append, z a]; omega⟩
/-- a thing comes up from the middle -/
theorem Sl.raise : ∀ {xs : List (Option V)} {as : Env} {ys : List (Option V)} {bs : Env} {v : V} {t : T} {A : List Addr}, xs.length = as.length → Sl K F H (xs ++ some v :: ys) (as ++ some t :: bs) A →
    ∃ C, Sl K F H (some v :: (xs ++ ys)) (some t :: (as ++ bs)) C ∧ ∀ a, C.count a = A.count a
  | [], [], _, _, _, _, A, _, h => ⟨A, h, fun _ => rfl⟩
  | o :: xs, a :: as, ys, bs, v, t, _, hl, h => by
    have hl' : xs.length = as.length := by simpa using hl
    cases h with
    | skip r =>
      obtain ⟨C, s, z⟩ := r.raise hl'
      cases s with
      | cons x s => exact ⟨_, .cons x (.skip s), z⟩
    | cons y r =>
      rename_i u t0 A1 B1
      obtain ⟨C, s, z⟩ := r.raise hl'
      cases s with
      | cons x s =>
        rename_i A2 B2
        exact ⟨_, .cons x (.cons y s), fun a => by have := z a; simp only [List.count_append] at this ⊢; omega⟩
  | [], _ :: _, _, _, _, _, _, hl, _ => by simp at hl
  | _ :: _, [], _, _, _, _, _, hl, _ => by simp at hl
end
section
variable {K : PySem.W.Frag} {c : C0} {H H' : Hp} {sl : List (Option V)} {ρ : Env} {A : List Addr}
/-- a state put together anew over the same heap -/
theorem StW.remake {sl' : List (Option V)} {ρ' : Env} {C : List Addr} (w : StW K c H sl ρ A) (hc : ∀ a, C.count a ≤ A.count a) (s : Sl K (Fok c A) H sl' ρ' C) : StW K c H sl' ρ' C :=
  ⟨fun a => Nat.le_trans (hc a) (w.uniq a), s.mono (.sub fun a _ => Fok.sub hc a) fun _ _ => rfl, fun a ha => w.own a (by
    have := List.count_pos_iff.mpr ha
    have := hc a
    exact List.count_pos_iff.mp (by omega)), w.keep⟩
theorem StR.raise {xs : List (Option V)} {as : Env} {ys : List (Option V)} {bs : Env} {v : V} {t : T} (hl : xs.length = as.length) (h : StR K c H (xs ++ some v :: ys) (as ++ some t :: bs)) : StR K c H (some v :: (xs ++ ys)) (some t :: (as ++ bs)) := by
  obtain ⟨A, w⟩ := h
  obtain ⟨C, s, z⟩ := w.slots.raise hl
  exact ⟨C, w.remake (fun a => Nat.le_of_eq (z a)) s⟩
/-- a new object is laid: what is frozen stays -/
theorem Fok.fresh {p : Addr} (hp : H p = none) : Mono (Fok c A) (Fok c (p :: A)) H H :=
  .sub fun a ha ⟨x, y⟩ => ⟨x, fun z => by
    rcases List.mem_cons.mp z with e | e
    · exact ha (by rw [e]; exact hp)
    · exact y e⟩
theorem StW.not_mem_of_none {p : Addr} (w : StW K c H sl ρ A) (hp : H p = none) : p ∉ A := fun ha => by
  obtain ⟨u, e, _⟩ := w.slots.own p ha
  rw [hp] at e; cases e
end

/-! ### what an expression comes to -/
def SimE (K : PySem.W.Frag) (E : Str → Hp → Prop) (gr : Bool) (te : TE) (m : MEx) : Prop :=
  ∀ (c : C0) (H : Hp) (tv : List (Option V)) (td : Env) (σ : L2.St) (ρ : Env), tv.length = td.length → StR K c H (tv ++ σ) (td ++ ρ) → ∀ Q : VK,
    Then (m ρ) (fun r => ∀ v H', (gr = true → Same H H') → StR K c H' (some v :: (tv ++ σ)) (some r.1 :: (td ++ r.2)) → Q v H') (fun x => ∀ H', KeepC c H' → E x H') → te σ H Q
/-- gr: the heap only grows -/
structure QE (X : Cx) (E : Str → Hp → Prop) (gr : Bool) (e : Expr) (te : TE) (m : MEx) : Prop where
  pe : PE X e te
  sim : SimE X.K E gr te m
theorem SimE.weak {K : PySem.W.Frag} {E : Str → Hp → Prop} {gr : Bool} {te : TE} {m : MEx} (h : SimE K E gr te m) : SimE K E false te m := fun c H tv td σ ρ hl st Q q =>
  h c H tv td σ ρ hl st Q (q.imp fun _ k v H' _ s => k v H' (fun z => nomatch z) s)
end L3
/-! L3b -/
/-! L3b: expressions. -/
namespace L3
open PySem PySem.Spec PyProof.Rows L2

/-! ### data of a tree -/
mutual
def T.fz : T → Option PyData
  | .d x => some x
  | .ol ts => (T.fzAll ts).map PyData.list
  | .ot ts => (T.fzAll ts).map PyData.tuple
  | _ => none
def T.fzAll : List T → Option (List PyData)
  | [] => some []
  | t :: r => (T.fz t).bind fun x => (T.fzAll r).map fun xs => x :: xs
end
mutual
def T.toD : T → Option PyData
  | .d x => some x
  | .ol ts => (T.toDAll ts).map PyData.list
  | .ot ts => (T.toDAll ts).map PyData.tuple
  | .rd ds => some (.list ds)
  | .od _ _ => none
  | .ex _ => none
  | .ob _ _ _ => none
def T.toDAll : List T → Option (List PyData)
  | [] => some []
  | t :: r => (T.toD t).bind fun x => (T.toDAll r).map fun xs => x :: xs
end
section
variable {K : PySem.W.Frag} {F F' : Addr → Prop} {H H' : Hp}
mutual
theorem Rp.freeze : ∀ {t : T} {v : V} {A : List Addr} {x : PyData}, Rp K F H v t A → (∀ a, H a ≠ none → F a → F' a) → (∀ a ∈ A, F' a) → t.fz = some x → Fz K F' H v x
  | .d y, _, _, x, .d h, f, _, e => by
    have e' : y = x := Option.some.inj (by simpa [T.fz] using e)
    subst e'
    exact h.mono (.sub f)
  | .ol ts, _, _, x, .ol h r, f, k, e => by
    simp only [T.fz, Option.map_eq_some_iff] at e
    obtain ⟨xs, e1, e2⟩ := e
    subst e2
    exact .lst h (k _ List.mem_cons_self) (RpAll.freeze r f (fun a ha => k a (List.mem_cons_of_mem _ ha)) e1)
  | .ot ts, _, _, x, .ot h r, f, k, e => by
    simp only [T.fz, Option.map_eq_some_iff] at e
    obtain ⟨xs, e1, e2⟩ := e
    subst e2
    exact .tup (.of h) (RpAll.freeze r f k e1)
  | .od _ _, _, _, x, _, _, _, e => by simp [T.fz] at e
  | .ob _ _ _, _, _, x, _, _, _, e => by simp [T.fz] at e
  | .rd _, _, _, x, _, _, _, e => by simp [T.fz] at e
theorem RpAll.freeze : ∀ {ts : List T} {vs : List V} {A : List Addr} {xs : List PyData}, RpAll K F H vs ts A → (∀ a, H a ≠ none → F a → F' a) → (∀ a ∈ A, F' a) → T.fzAll ts = some xs → FzAll K F' H vs xs
  | [], _, _, xs, .nil, _, _, e => by
    have e' : [] = xs := Option.some.inj (by simpa [T.fzAll] using e)
    subst e'
    exact .nil
  | t :: r, _, _, xs, .cons h hr, f, k, e => by
    simp only [T.fzAll, Option.bind_eq_some_iff, Option.map_eq_some_iff] at e
    obtain ⟨y, e1, ys, e2, e3⟩ := e
    subst e3
    exact .cons (Rp.freeze h f (fun a ha => k a (List.mem_append_left _ ha)) e1) (RpAll.freeze hr f (fun a ha => k a (List.mem_append_right _ ha)) e2)
end
mutual
theorem Fz.dp : ∀ {v : V} {x : PyData}, Fz K F H v x → Dp K H v x
  | _, _, .non => .non
  | _, _, .bl b => .bl b
  | _, _, .int i => .int i
  | _, _, .str x => .str x
  | _, _, .lst h _ a => .lst (.of h) (FzAll.dp a)
  | _, _, .tup h a => .tup h (FzAll.dp a)
theorem FzAll.dp : ∀ {vs : List V} {xs : List PyData}, FzAll K F H vs xs → DpAll K H vs xs
  | _, _, .nil => .nil
  | _, _, .cons h a => .cons (Fz.dp h) (FzAll.dp a)
end
mutual
theorem Rp.dp : ∀ {t : T} {v : V} {A : List Addr} {x : PyData}, Rp K F H v t A → t.toD = some x → Dp K H v x
  | .d y, _, _, x, .d h, e => by
    have e' : y = x := Option.some.inj (by simpa [T.toD] using e)
    subst e'
    exact h.dp
  | .ol ts, _, _, x, .ol h r, e => by
    simp only [T.toD, Option.map_eq_some_iff] at e
    obtain ⟨xs, e1, e2⟩ := e
    subst e2
    exact .lst (.of h) (RpAll.dp r e1)
  | .ot ts, _, _, x, .ot h r, e => by
    simp only [T.toD, Option.map_eq_some_iff] at e
    obtain ⟨xs, e1, e2⟩ := e
    subst e2
    exact .tup (.of h) (RpAll.dp r e1)
  | .rd ds, _, _, x, .rd h r, e => by
    have e' : PyData.list ds = x := Option.some.inj (by simpa [T.toD] using e)
    subst e'
    exact .lst h.sq r.dp
  | .od _ _, _, _, x, _, e => by simp [T.toD] at e
  | .ob _ _ _, _, _, x, _, e => by simp [T.toD] at e
  | .ex _, _, _, x, _, e => by simp [T.toD] at e
theorem RpAll.dp : ∀ {ts : List T} {vs : List V} {A : List Addr} {xs : List PyData}, RpAll K F H vs ts A → T.toDAll ts = some xs → DpAll K H vs xs
  | [], _, _, xs, .nil, e => by
    have e' : [] = xs := Option.some.inj (by simpa [T.toDAll] using e)
    subst e'
    exact .nil
  | t :: r, _, _, xs, .cons h hr, e => by
    simp only [T.toDAll, Option.bind_eq_some_iff, Option.map_eq_some_iff] at e
    obtain ⟨y, e1, ys, e2, e3⟩ := e
    subst e3
    exact .cons (Rp.dp h e1) (RpAll.dp hr e2)
end
end

/-! ### names and constants -/
section
variable {X : Cx} {E : Str → Hp → Prop}
theorem app_at {α : Type} {xs ys : List α} {n i : Nat} (h : xs.length = n) : (xs ++ ys)[n + i]? = ys[i]? := by
  subst h
  rw [List.getElem?_append_right (by omega)]
  congr 1
  omega
theorem app_set {α : Type} {ys : List α} {i : Nat} {y : α} : ∀ {xs : List α} {n : Nat}, xs.length = n → (xs ++ ys).set (n + i) y = xs ++ ys.set i y
  | [], n, h => by subst h; simp
  | x :: xs, n, h => by
    subst h
    have e : (x :: xs).length + i = (xs.length + i) + 1 := by simp; omega
    rw [e]
    show x :: (xs ++ ys).set (xs.length + i) y = _
    rw [app_set rfl]
    rfl
theorem set_self {α : Type} : ∀ {xs : List α} {i : Nat} {a : α}, xs[i]? = some a → xs.set i a = xs
  | [], _, _, h => by simp at h
  | x :: xs, 0, a, h => by simp at h; subst h; rfl
  | x :: xs, i + 1, a, h => by
    show x :: xs.set i a = x :: xs
    rw [set_self (by simpa using h)]
def mC (x : PyData) : MEx := fun ρ => .ok (.d x, ρ)
theorem sim_c {K : PySem.W.Frag} {v : V} {x : PyData} (h : ∀ F H, Fz K F H v x) : SimE K E true (tC v) (mC x) := by
  intro c H tv td σ ρ hl st Q q
  obtain ⟨A, w⟩ := st
  exact q v H (fun _ => Same.refl H) ⟨A, w.pushD (h _ _)⟩
theorem qe_int {i : Int} {j : Nat} {pos : Pos} : QE X E true (.Constant (.int i) j pos) (tC (.int i)) (mC (.int i)) := ⟨pe_int, sim_c fun _ _ => .int i⟩
theorem qe_bl {b : Bool} {j : Nat} {pos : Pos} : QE X E true (.Constant (.bool b) j pos) (tC (.bl b)) (mC (.bool b)) := ⟨pe_bl, sim_c fun _ _ => .bl b⟩
theorem qe_non {j : Nat} {pos : Pos} : QE X E true (.Constant .none j pos) (tC .non) (mC .none) := ⟨pe_non, sim_c fun _ _ => .non⟩
theorem qe_str {x : Str} {j : Nat} {pos : Pos} : QE X E true (.Constant (.str x) j pos) (tC (.str x)) (mC (.str x)) := ⟨pe_str, sim_c fun _ _ => .str x⟩

/-- a name, read: a tree is frozen where it stands -/
def mVar (i : Nat) : MEx := fun ρ => match ρ[i]? with
  | some (some (.d x)) => .ok (.d x, ρ)
  | some (some t) => (match t.fz with | some x => .ok (.d x, ρ.set i (some (.d x))) | none => .bad)
  | _ => .bad
/-- a name, its tree taken away -/
def mMove (i : Nat) : MEx := fun ρ => match ρ[i]? with
  | some (some t) => .ok (t, ρ.set i none)
  | _ => .bad
theorem sim_var {K : PySem.W.Frag} (i : Nat) : SimE K E true (tVar i) (mVar i) := by
  intro c H tv td σ ρ hl st Q q
  obtain ⟨A, w⟩ := st
  have hlen := w.slots.len
  unfold mVar at q
  cases e : ρ[i]? with
  | none => rw [e] at q; exact q.elim
  | some o =>
    cases o with
    | none => rw [e] at q; exact q.elim
    | some t =>
      have hi : i < ρ.length := (List.getElem?_eq_some_iff.mp e).1
      have hi2 : tv.length + i < (tv ++ σ).length := by
        rw [hlen, List.length_append]; omega
      have e2 : (td ++ ρ)[tv.length + i]? = some (some t) := by rw [app_at hl.symm, e]
      obtain ⟨B, hb, ar, get⟩ := w.slots.around hi2
      obtain ⟨v, A1, e3, x, hc⟩ := get t e2
      rw [app_at rfl] at e3
      rw [e] at q
      have key : ∀ y : PyData, t.fz = some y → (∀ v H', (true = true → Same H H') → StR K c H' (some v :: (tv ++ σ)) (some (.d y) :: (td ++ ρ.set i (some (.d y)))) → Q v H') → tVar i σ H Q := by
        intro y ey qq
        refine ⟨v, e3, qq v H (fun _ => Same.refl H) ?_⟩
        have hBA : ∀ a, B.count a ≤ A.count a := hb
        have fsub : ∀ a, H a ≠ none → Fok c A a → Fok c B a := fun a _ => Fok.sub hBA a
        have own1 : ∀ a ∈ A1, Fok c B a := fun a ha => by
          have h1 := List.count_pos_iff.mpr ha
          have h2 := hc a
          have h3 := w.uniq a
          refine ⟨?_, fun z => ?_⟩
          · rcases w.own a (List.count_pos_iff.mp (by omega)) with z | z
            · exact .inr (.inr z)
            · exact .inr (.inl z)
          · have := List.count_pos_iff.mpr z
            omega
        have fx : Fz K (Fok c B) H v y := x.freeze fsub own1 ey
        obtain ⟨C, s, z⟩ := ar.put (Mono.sub fsub) (fun _ _ => rfl) (.d fx)
        have hsl : (tv ++ σ).set (tv.length + i) (some v) = tv ++ σ := by
          rw [app_set rfl, set_self e3]
        rw [hsl, app_set hl.symm] at s
        have zc : ∀ a, C.count a = B.count a := fun a => by rw [z a]; simp
        refine ⟨C, ⟨fun a => ?_, ?_, fun a ha => ?_, w.keep⟩⟩
        · rw [zc a]; exact Nat.le_trans (hBA a) (w.uniq a)
        · have m : Mono (Fok c B) (Fok c C) H H := .sub fun a _ => Fok.sub (fun a => Nat.le_of_eq (zc a)) a
          exact .cons (A := []) (.d (fx.mono m)) (s.mono m fun _ _ => rfl)
        · refine w.own a (List.count_pos_iff.mp ?_)
          have := List.count_pos_iff.mpr ha
          have := zc a
          have := hBA a
          omega
      cases t with
      | d y =>
        refine key y (by simp [T.fz]) fun v' H' sm' st' => ?_
        have e4 : ρ.set i (some (.d y)) = ρ := set_self e
        rw [e4] at st'
        exact q v' H' sm' st'
      | ol ts =>
        dsimp only at q
        cases ez : (T.ol ts).fz with
        | none => rw [ez] at q; exact q.elim
        | some y => rw [ez] at q; exact key y ez q
      | ot ts =>
        dsimp only at q
        cases ez : (T.ot ts).fz with
        | none => rw [ez] at q; exact q.elim
        | some y => rw [ez] at q; exact key y ez q
      | od ks ts =>
        dsimp only at q
        cases ez : (T.od ks ts).fz with
        | none => rw [ez] at q; exact q.elim
        | some y => rw [ez] at q; exact key y ez q
      | rd ds =>
        dsimp only at q
        cases ez : (T.rd ds).fz with
        | none => rw [ez] at q; exact q.elim
        | some y => rw [ez] at q; exact key y ez q
      | ex xn =>
        dsimp only at q
        cases ez : (T.ex xn).fz with
        | none => rw [ez] at q; exact q.elim
        | some y => rw [ez] at q; exact key y ez q
      | ob xn fs ts =>
        dsimp only at q
        cases ez : (T.ob xn fs ts).fz with
        | none => rw [ez] at q; exact q.elim
        | some y => rw [ez] at q; exact key y ez q
theorem sim_move {K : PySem.W.Frag} (i : Nat) : SimE K E true (tVar i) (mMove i) := by
  intro c H tv td σ ρ hl st Q q
  obtain ⟨A, w⟩ := st
  have hlen := w.slots.len
  unfold mMove at q
  cases e : ρ[i]? with
  | none => rw [e] at q; exact q.elim
  | some o =>
    cases o with
    | none => rw [e] at q; exact q.elim
    | some t =>
      have hi : i < ρ.length := (List.getElem?_eq_some_iff.mp e).1
      have hi2 : tv.length + i < (tv ++ σ).length := by
        rw [hlen, List.length_append]; omega
      have e2 : (td ++ ρ)[tv.length + i]? = some (some t) := by rw [app_at hl.symm, e]
      obtain ⟨B, hb, ar, get⟩ := w.slots.around hi2
      obtain ⟨v, A1, e3, x, hc⟩ := get t e2
      rw [app_at rfl] at e3
      rw [e] at q
      refine ⟨v, e3, q v H (fun _ => Same.refl H) ?_⟩
      obtain ⟨C, s, z⟩ := ar.gone (some v)
      have hsl : (tv ++ σ).set (tv.length + i) (some v) = tv ++ σ := by
        rw [app_set rfl, set_self e3]
      rw [hsl, app_set hl.symm] at s
      refine ⟨A1 ++ C, w.remake (fun a => ?_) (.cons x s)⟩
      rw [List.count_append, z a, hc a]
      exact Nat.le_refl _
theorem qe_var (i : Nat) {x : Str} {pos : Pos} (hN : X.N[i]? = some x := by rfl) (hv : Vis X.env.scope x := by first | exact Or.inl rfl | exact Or.inr (Or.inl rfl) | exact Or.inr (Or.inr rfl)) (hd : (x == ("__debug__" : Str)) = false := by decide)
    (hcd : (x == ("__classdict__" : Str)) = false := by decide) : QE X E true (.Name x pos) (tVar i) (mVar i) := ⟨pe_var hN hv hd hcd, sim_var i⟩
theorem qe_move (i : Nat) {x : Str} {pos : Pos} (hN : X.N[i]? = some x := by rfl) (hv : Vis X.env.scope x := by first | exact Or.inl rfl | exact Or.inr (Or.inl rfl) | exact Or.inr (Or.inr rfl)) (hd : (x == ("__debug__" : Str)) = false := by decide)
    (hcd : (x == ("__classdict__" : Str)) = false := by decide) : QE X E true (.Name x pos) (tVar i) (mMove i) := ⟨pe_var hN hv hd hcd, sim_move i⟩
end

/-! ### two-place operations -/
inductive RV where
  | v (t : T) | nl (ds : List PyData) | nt (ds : List PyData)
def RV.toT : RV → T
  | .v t => t
  | .nl ds => .ol (ds.map T.d)
  | .nt ds => .d (.tuple ds)
section
variable {K : PySem.W.Frag} {F F' : Addr → Prop} {H H' : Hp}
def RVto (K : PySem.W.Frag) (F : Addr → Prop) (H : Hp) (A : List Addr) (Q : VK) : RV → Prop
  | .v t => ∀ w C, Rp K F H w t C → (∀ a, C.count a ≤ A.count a) → Q w H
  | .nl ds => ∀ p ws, H p = none → FzAll K F H ws ds → Q (.ref p) (upd H p (.lst ws))
  | .nt ds => ∀ p ws, H p = none → FzAll K F H ws ds → Q (.ref p) (upd H p (.tup ws))
def OpV (K : PySem.W.Frag) (r : R2) (op : T → T → R RV) : Prop := ∀ (F : Addr → Prop) (H : Hp) (v u : V) (x y : T) (A B : List Addr), Rp K F H v x A → Rp K F H u y B → ∀ Q : VK, Then (op x y) (RVto K F H (A ++ B) Q) (fun _ => False) → r v u H Q
def UnV (K : PySem.W.Frag) (r : V → Hp → VK → Prop) (op : T → R RV) : Prop := ∀ (F : Addr → Prop) (H : Hp) (v : V) (x : T) (A : List Addr), Rp K F H v x A → ∀ Q : VK, Then (op x) (RVto K F H A Q) (fun _ => False) → r v H Q
theorem RpAll.ofFz : ∀ {ws : List V} {ds : List PyData}, FzAll K F H ws ds → RpAll K F H ws (ds.map T.d) []
  | _, _, .nil => .nil
  | _, _, .cons h a => .cons (A := []) (B := []) (.d h) (RpAll.ofFz a)
/-- what an operation gives, on top of what was below its operands -/
theorem StW.result {c : C0} {sl : List (Option V)} {ρ : Env} {A A1 B : List Addr} (hc : ∀ a, A1.count a + B.count a ≤ A.count a) (u : ∀ a, A.count a ≤ 1) (ow : ∀ a ∈ A, a ∈ c.A0 ∨ c.H0 a = none) (k : KeepC c H)
    (s : Sl K (Fok c A) H sl ρ B) {Q : VK} {z : RV} (q : ∀ v H', Same H H' → StR K c H' (some v :: sl) (some z.toT :: ρ) → Q v H') : RVto K (Fok c A) H A1 Q z := by
  have mem : ∀ {C : List Addr}, (∀ a, C.count a ≤ A.count a) → ∀ a ∈ C, a ∈ A := fun h a ha => List.count_pos_iff.mp (Nat.lt_of_lt_of_le (List.count_pos_iff.mpr ha) (h a))
  have there : ∀ a ∈ B, H a ≠ none := fun a ha e => by
    obtain ⟨u, z, _⟩ := s.own a ha
    rw [e] at z; cases z
  cases z with
  | v t =>
    intro w C x hC
    have hCB : ∀ a, (C ++ B).count a ≤ A.count a := fun a => by rw [List.count_append]; have := hC a; have := hc a; omega
    exact q w H (Same.refl H) ⟨C ++ B, fun a => Nat.le_trans (hCB a) (u a), (Sl.cons x s).mono (.sub fun a _ => Fok.sub hCB a) fun _ _ => rfl, fun a ha => ow a (mem hCB a ha), k⟩
  | nl ds =>
    intro p ws hp fz
    have hB : ∀ a, B.count a ≤ A.count a := fun a => by have := hc a; omega
    have m0 : Mono (Fok c A) (Fok c (p :: B)) H H := .sub fun a ha ⟨x, y⟩ => ⟨x, fun z => by
      rcases List.mem_cons.mp z with e | e
      · exact ha (by rw [e]; exact hp)
      · exact y (mem hB a e)⟩
    have sm := same_upd (o := .lst ws) hp
    have x1 : Rp K (Fok c (p :: B)) (upd H p (.lst ws)) (.ref p) (.ol (ds.map T.d)) [p] := .ol upd_same (RpAll.ofFz ((fz.mono m0).mono (.same sm)))
    have s1 : Sl K (Fok c (p :: B)) (upd H p (.lst ws)) sl ρ B := (s.mono m0 fun _ _ => rfl).mono (.same sm) fun a ha => by rw [upd_ne (fun e => there a ha (by rw [e]; exact hp))]
    refine q _ _ sm ⟨[p] ++ B, fun a => ?_, .cons x1 s1, fun a ha => ?_, k.grow sm⟩
    · rw [List.count_append, List.count_singleton]
      have h1 := hB a
      have h2 := u a
      by_cases e : p = a
      · subst e
        have : B.count p = 0 := List.count_eq_zero.mpr fun z => there p z hp
        simp [this]
      · have e' : (p == a) = false := by simpa using e
        simp [e']; omega
    · rcases List.mem_append.mp ha with z | z
      · have e : a = p := by simpa using z
        subst e
        exact .inr (k.there _ hp)
      · exact ow a (mem hB a z)
  | nt ds =>
    intro p ws hp fz
    have hB : ∀ a, B.count a ≤ A.count a := fun a => by have := hc a; omega
    have m0 : Mono (Fok c A) (Fok c B) H H := .sub fun a _ => Fok.sub hB a
    have sm := same_upd (o := .tup ws) hp
    have x1 : Rp K (Fok c B) (upd H p (.tup ws)) (.ref p) (.d (.tuple ds)) [] := .d (.tup (.of upd_same) ((fz.mono m0).mono (.same sm)))
    have s1 : Sl K (Fok c B) (upd H p (.tup ws)) sl ρ B := (s.mono m0 fun _ _ => rfl).mono (.same sm) fun a ha => by rw [upd_ne (fun e => there a ha (by rw [e]; exact hp))]
    exact q _ _ sm ⟨[] ++ B, fun a => Nat.le_trans (hB a) (u a), .cons x1 s1, fun a ha => ow a (mem hB a ha), k.grow sm⟩
end
section
variable {X : Cx} {E : Str → Hp → Prop} {a b : Expr} {ta tb : TE} {ma mb : MEx} {pos : Pos}
def mBin (op : T → T → R RV) (ma mb : MEx) : MEx := fun ρ => (ma ρ).bind fun x => (mb x.2).bind fun y => (op x.1 y.1).bind fun z => .ok (z.toT, y.2)
def mUn (op : T → R RV) (ma : MEx) : MEx := fun ρ => (ma ρ).bind fun x => (op x.1).bind fun z => .ok (z.toT, x.2)
theorem noexc {α : Type} {r : R α} {P : α → Prop} {P' : α → Prop} {E' : Str → Prop} (hx : ∀ c, r ≠ .exc c) (h : Then r P E') (hp : ∀ a, P a → P' a) : Then r P' (fun _ => False) := by
  cases r with
  | ok a => exact hp a h
  | exc c => exact (hx c rfl).elim
  | bad => exact h
/-- operations let nothing out -/
def NoX (op : T → T → R RV) : Prop := ∀ x y c, op x y ≠ .exc c
def NoX1 (op : T → R RV) : Prop := ∀ x c, op x ≠ .exc c
theorem sim_bin {K : PySem.W.Frag} {r : R2} {op : T → T → R RV} (ho : OpV K r op) (hx : NoX op) {g1 g2 : Bool} (sa : SimE K E g1 ta ma) (sb : SimE K E g2 tb mb) : SimE K E (g1 && g2) (tOp r ta tb) (mBin op ma mb) := by
  intro c H tv td σ ρ hl st Q q
  unfold mBin at q
  rw [then_bind] at q
  refine sa c H tv td σ ρ hl st _ (q.imp ?_)
  intro x q1 v H1 sm1 st1
  rw [then_bind] at q1
  refine sb c H1 (some v :: tv) (some x.1 :: td) σ x.2 (by simp [hl]) st1 _ (q1.imp ?_)
  intro y q2 u H2 sm2 st2
  rw [then_bind] at q2
  obtain ⟨A, w⟩ := st2
  obtain ⟨A1, B1, rfl, x1, s1⟩ := w.top
  cases s1 with
  | cons x2 s2 =>
    rename_i A2 B2
    refine ho _ H2 v u x.1 y.1 A2 A1 x2 x1 Q (noexc (hx _ _) q2 fun z q3 => ?_)
    refine StW.result (fun a => ?_) w.uniq w.own w.keep s2 fun v' H' sm' => q3 v' H' fun e => ?_
    · simp only [List.count_append]
      omega
    · rw [Bool.and_eq_true] at e
      exact ((sm1 e.1).trans (sm2 e.2)).trans sm'
theorem sim_un {K : PySem.W.Frag} {r : V → Hp → VK → Prop} {op : T → R RV} (ho : UnV K r op) (hx : NoX1 op) {g1 : Bool} (sa : SimE K E g1 ta ma) : SimE K E g1 (tUn r ta) (mUn op ma) := by
  intro c H tv td σ ρ hl st Q q
  unfold mUn at q
  rw [then_bind] at q
  refine sa c H tv td σ ρ hl st _ (q.imp ?_)
  intro x q1 v H1 sm1 st1
  rw [then_bind] at q1
  obtain ⟨A, w⟩ := st1
  obtain ⟨A1, B1, rfl, x1, s1⟩ := w.top
  refine ho _ H1 v x.1 A1 x1 Q (noexc (hx _) q1 fun z q3 => ?_)
  refine StW.result (fun a => ?_) w.uniq w.own w.keep s1 fun v' H' sm' => q3 v' H' fun e => (sm1 e).trans sm'
  rw [List.count_append]
  omega
end
end L3
/-! L3c -/
/-! L3c: the operations. -/
namespace L3
open PySem PySem.Spec PyProof.Rows L2

/-! ### looking at a tree -/
def T.allD : List T → Option (List PyData)
  | [] => some []
  | .d x :: r => (T.allD r).map fun xs => x :: xs
  | _ => none
def T.lst? : T → Option (List PyData)
  | .d (.list ds) => some ds
  | .ol ts => T.allD ts
  | _ => none
section
variable {K : PySem.W.Frag} {F F' : Addr → Prop} {H H' : Hp}
theorem allD_map : ∀ ds : List PyData, T.allD (ds.map T.d) = some ds
  | [] => rfl
  | x :: r => by
    show (T.allD (r.map T.d)).map (fun xs => x :: xs) = _
    rw [allD_map r]; rfl
theorem RpAll.data : ∀ {ts : List T} {vs : List V} {A : List Addr} {ds : List PyData}, RpAll K F H vs ts A → T.allD ts = some ds → FzAll K F H vs ds ∧ A = [] ∧ ts = ds.map T.d
  | [], _, _, ds, .nil, e => by
    have e' : [] = ds := Option.some.inj e
    subst e'
    exact ⟨.nil, rfl, rfl⟩
  | .d x :: r, _, _, ds, .cons h hr, e => by
    have e' : (T.allD r).map (fun xs => x :: xs) = some ds := e
    obtain ⟨ys, e1, e2⟩ := Option.map_eq_some_iff.mp e'
    subst e2
    obtain ⟨f, z, zz⟩ := hr.data e1
    cases h with
    | d h => exact ⟨.cons h f, by rw [z]; rfl, by rw [zz]; rfl⟩
  | .ol _ :: _, _, _, _, _, e => by cases e
  | .ot _ :: _, _, _, _, _, e => by cases e
  | .od _ _ :: _, _, _, _, _, e => by cases e
  | .ob _ _ _ :: _, _, _, _, _, e => by cases e
  | .rd _ :: _, _, _, _, _, e => by cases e
  | .ex _ :: _, _, _, _, _, e => by cases e
theorem Rp.lst? {x : T} {v : V} {A : List Addr} {ds : List PyData} (h : Rp K F H v x A) (e : x.lst? = some ds) : ∃ a vs, v = .ref a ∧ H a = some (.lst vs) ∧ FzAll K F H vs ds := by
  cases h with
  | d h =>
    cases h with
    | lst h1 h2 h3 =>
      have e' := Option.some.inj (by simpa [T.lst?] using e)
      subst e'
      exact ⟨_, _, rfl, h1, h3⟩
    | _ => simp [T.lst?] at e
  | ol h1 h2 => exact ⟨_, _, rfl, h1, (h2.data e).1⟩
  | ot _ _ => simp [T.lst?] at e
  | od _ _ _ _ => simp [T.lst?] at e
  | rd _ _ => simp [T.lst?] at e
  | ex _ _ _ => simp [T.lst?] at e
  | ob _ _ _ _ => simp [T.lst?] at e
theorem FzAll.append : ∀ {vs ws : List V} {xs ys : List PyData}, FzAll K F H vs xs → FzAll K F H ws ys → FzAll K F H (vs ++ ws) (xs ++ ys)
  | _, _, _, _, .nil, h => h
  | _, _, _, _, .cons a r, h => .cons a (r.append h)
theorem Rp.i {v : V} {i : Int} {A : List Addr} (h : Rp K F H v (.d (.int i)) A) : v = .int i := by
  cases h with
  | d h => cases h; rfl
theorem Rp.b {v : V} {i : Bool} {A : List Addr} (h : Rp K F H v (.d (.bool i)) A) : v = .bl i := by
  cases h with
  | d h => cases h; rfl
theorem Rp.s {v : V} {i : Str} {A : List Addr} (h : Rp K F H v (.d (.str i)) A) : v = .str i := by
  cases h with
  | d h => cases h; rfl
theorem Rp.n {v : V} {A : List Addr} (h : Rp K F H v (.d .none) A) : v = .non := by
  cases h with
  | d h => cases h; rfl
theorem Rp.t {v : V} {xs : List PyData} {A : List Addr} (h : Rp K F H v (.d (.tuple xs)) A) : ∃ a vs, v = .ref a ∧ SqT K H a vs ∧ FzAll K F H vs xs := by
  cases h with
  | d h => cases h with
    | tup h r => exact ⟨_, _, rfl, h, r⟩
/-- a scalar result -/
theorem rv_d {Q : VK} {A : List Addr} {v : V} {x : PyData} (q : RVto K F H A Q (.v (.d x))) (f : Fz K F H v x) : Q v H := q v [] (.d f) fun _ => by simp
end

/-! ### arithmetic -/
def sLine : Nat := 16777216
theorem sLine_eq : sLine = sizeLine := sizeLine_eq.symm
def opAdd : T → T → R RV
  | .d (.int i), .d (.int j) => .ok (.v (.d (.int (i + j))))
  | .d (.int i), .d (.bool k) => .ok (.v (.d (.int (i + b2i k))))
  | .d (.str x), .d (.str y) => guard (decide (x.length + y.length ≤ sLine)) (.ok (.v (.d (.str (x ++ y)))))
  | .d (.tuple xs), .d (.tuple ys) => guard (!xs.isEmpty && !ys.isEmpty && decide (xs.length + ys.length ≤ sLine)) (.ok (.nt (xs ++ ys)))
  | x, y => match x.lst?, y.lst? with
    | some xs, some ys => guard (decide (xs.length + ys.length ≤ sLine)) (.ok (.nl (xs ++ ys)))
    | _, _ => .bad
abbrev rAddStr : R2 := fun x y H Q => ∃ i j, x = .str i ∧ y = .str j ∧ i.length + j.length ≤ sizeLine ∧ Q (.str (i ++ j)) H
abbrev rAddIB : R2 := fun x y H Q => ∃ i k, x = .int i ∧ y = .bl k ∧ Q (.int (i + b2i k)) H
def rAdd (K : PySem.W.Frag) : R2 := fun x y H Q => rI0 (fun i j => .int (i + j)) x y H Q ∨ (rAddIB x y H Q ∨ (rAddStr x y H Q ∨ (rCatT K x y H Q ∨ rCat x y H Q)))
theorem op_addA {X : Cx} : OpR X (binaryOp .Add) (rAdd X.K) := op_add.or (op_add_ib.or (op_add_str.or (op_catT.or op_cat)))
theorem guard_noexc {α : Type} {b : Bool} {r : R α} (h : ∀ c, r ≠ .exc c) (c : Str) : guard b r ≠ .exc c := by
  unfold guard
  cases b
  · (intro z; cases z)
  · exact h c
theorem opAdd_nox : NoX opAdd := by
  intro x y c
  unfold opAdd
  split
  · (intro z; cases z)
  · (intro z; cases z)
  · exact guard_noexc (by intro _ z; cases z) c
  · exact guard_noexc (by intro _ z; cases z) c
  · split
    · exact guard_noexc (by intro _ z; cases z) c
    · (intro z; cases z)
theorem opAdd_v {K : PySem.W.Frag} : OpV K (rAdd K) opAdd := by
  intro F H v u x y A B hx hy Q q
  unfold opAdd at q
  split at q
  · exact .inl ⟨_, _, hx.i, hy.i, rv_d q (.int _)⟩
  · exact .inr (.inl ⟨_, _, hx.i, hy.b, rv_d q (.int _)⟩)
  · obtain ⟨g, q⟩ := then_guard.mp q
    exact .inr (.inr (.inl ⟨_, _, hx.s, hy.s, by rw [← sLine_eq]; exact of_decide_eq_true g, rv_d q (.str _)⟩))
  · obtain ⟨g, q⟩ := then_guard.mp q
    simp only [Bool.and_eq_true, Bool.not_eq_true', List.isEmpty_eq_false_iff, decide_eq_true_eq] at g
    obtain ⟨a, vs, rfl, h1, f1⟩ := hx.t
    obtain ⟨b, ws, rfl, h2, f2⟩ := hy.t
    have l1 := f1.len
    have l2 := f2.len
    refine .inr (.inr (.inr (.inl ⟨a, b, vs, ws, rfl, rfl, h1, h2, fun e => ?_, by rw [l1, l2, ← sLine_eq]; exact g.2, fun e => ?_, fun _ p hp => q p _ hp (f1.append f2)⟩)))
    · subst e
      cases f1
      exact g.1.1 rfl
    · subst e
      cases f2
      exact (g.1.2 rfl).elim
  · split at q
    · rename_i xs ys e1 e2
      obtain ⟨g, q⟩ := then_guard.mp q
      obtain ⟨a, vs, rfl, h1, f1⟩ := hx.lst? e1
      obtain ⟨b, ws, rfl, h2, f2⟩ := hy.lst? e2
      exact .inr (.inr (.inr (.inr ⟨a, b, vs, ws, rfl, rfl, h1, h2, by rw [f1.len, f2.len, ← sLine_eq]; exact of_decide_eq_true g, fun p hp => q p _ hp (f1.append f2)⟩)))
    · exact q.elim
/-- two ints -/
def opI2 (g : Int → Int → Bool) (f : Int → Int → PyData) : T → T → R RV
  | .d (.int i), .d (.int j) => guard (g i j) (.ok (.v (.d (f i j))))
  | _, _ => .bad
theorem opI2_nox {g : Int → Int → Bool} {f : Int → Int → PyData} : NoX (opI2 g f) := by
  intro x y c
  unfold opI2
  split
  · exact guard_noexc (by intro _ z; cases z) c
  · (intro z; cases z)
theorem opI2_v {K : PySem.W.Frag} {g : Int → Int → Bool} {f : Int → Int → PyData} {C : Int → Int → Prop} {h : Int → Int → V} (hg : ∀ i j, g i j = true → C i j) (hf : ∀ (F : Addr → Prop) (H : Hp) i j, Fz K F H (h i j) (f i j)) : OpV K (rI C h) (opI2 g f) := by
  intro F H v u x y A B hx hy Q q
  unfold opI2 at q
  split at q
  · obtain ⟨e, q⟩ := then_guard.mp q
    exact ⟨_, _, hx.i, hy.i, hg _ _ e, rv_d q (hf _ _ _ _)⟩
  · exact q.elim
def yes2 : Int → Int → Bool := fun _ _ => true
def mulOk (i j : Int) : Bool := !(decide (Builtin.Int.intBits i > shortFactorBits) && decide (Builtin.Int.intBits j > shortFactorBits) && Builtin.Int.intTooBig (Builtin.Int.intBits i + Builtin.Int.intBits j))
def divOk (i j : Int) : Bool := decide (j ≠ 0) && !(Builtin.divisionGoesByPylong i j)
def modOk (_ j : Int) : Bool := decide (j ≠ 0)
def powOk (i j : Int) : Bool := decide (0 ≤ j ∧ j ≤ 1000000 ∧ i.natAbs < 2 ^ 64)
def opSub := opI2 yes2 fun i j => .int (i - j)
def opMulI := opI2 mulOk fun i j => .int (i * j)
def opMod := opI2 modOk fun i j => .int (i.fmod j)
def opFdiv := opI2 divOk fun i j => .int (i.fdiv j)
def opPow := opI2 powOk fun i j => .int (i ^ j.toNat)
def opLt := opI2 yes2 fun i j => .bool (decide (i < j))
def opLe := opI2 yes2 fun i j => .bool (decide (i ≤ j))
def opGt := opI2 yes2 fun i j => .bool (decide (j < i))
def opGe := opI2 yes2 fun i j => .bool (decide (j ≤ i))
theorem rI_of0 {X : Cx} {f : Value → Value → Sem Value} {h : Int → Int → V} (o : OpR X f (rI0 h)) : OpR X f (rI (fun _ _ => True) h) := fun pins s σ H x y v u Q I rx ry ⟨i, j, e1, e2, _, q⟩ => o pins s σ H x y v u Q I rx ry ⟨i, j, e1, e2, q⟩
section
variable {X : Cx}
theorem mulOk_iff {i j : Int} : mulOk i j = true ↔ IntMulOk i j := by
  unfold mulOk IntMulOk
  rw [Bool.not_eq_true', Bool.not_eq_true]
theorem op_subA : OpR X (binaryOp .Sub) (rI (fun _ _ => True) fun i j => .int (i - j)) := rI_of0 op_sub
theorem op_mulA : OpR X (binaryOp .Mult) (rI (fun i j => mulOk i j = true) fun i j => .int (i * j)) := opI fun _ _ _ _ _ _ _ hc q => mul_int q (mulOk_iff.mp hc)
theorem op_modA : OpR X (binaryOp .Mod) (rI (fun i j => modOk i j = true) fun i j => .int (i.fmod j)) := opI fun _ _ _ _ _ _ _ hc q => mod_int' (of_decide_eq_true hc) q
theorem op_fdivA : OpR X (binaryOp .FloorDiv) (rI (fun i j => divOk i j = true) fun i j => .int (i.fdiv j)) := opI fun _ _ _ _ _ _ _ hc q => by
  unfold divOk at hc
  simp only [Bool.and_eq_true, Bool.not_eq_true', decide_eq_true_eq] at hc
  exact floordiv_int hc.1 q (.inl hc.2)
theorem op_powA : OpR X (binaryOp .Pow) (rI (fun i j => powOk i j = true) fun i j => .int (i ^ j.toNat)) := opI fun i j _ _ _ _ _ hc q => by
  obtain ⟨h1, h2, h3⟩ := of_decide_eq_true (show decide (0 ≤ j ∧ j ≤ 1000000 ∧ i.natAbs < 2 ^ 64) = true from hc)
  exact pow_int_small h1 h2 h3 q
theorem op_ltA : OpR X (compareOp .Lt) (rI (fun _ _ => True) fun i j => .bl (decide (i < j))) := rI_of0 op_lt
theorem op_leA : OpR X (compareOp .LtE) (rI (fun _ _ => True) fun i j => .bl (decide (i ≤ j))) := rI_of0 op_le
theorem op_gtA : OpR X (compareOp .Gt) (rI (fun _ _ => True) fun i j => .bl (decide (j < i))) := rI_of0 op_gt
theorem op_geA : OpR X (compareOp .GtE) (rI (fun _ _ => True) fun i j => .bl (decide (j ≤ i))) := rI_of0 op_ge
end

/-! ### == and the like -/
def eqS : PyData → PyData → Option Bool
  | .int i, .int j => some (decide (i = j))
  | .bool i, .bool j => some (decide (i = j))
  | .str i, .str j => some (decide (i = j))
  | .none, .none => some true
  | _, _ => none
def eqD (x y : T) : R Bool := match x.toD, y.toD with
  | some a, some b => (match eqS a b with
    | some k => .ok k
    | none => guard (SeqAt.shaped a && SeqAt.shaped b) (.ok (PyData.eqv a b)))
  | _, _ => .bad
def opEq (x y : T) : R RV := (eqD x y).bind fun k => .ok (.v (.d (.bool k)))
def opNe (x y : T) : R RV := (eqD x y).bind fun k => .ok (.v (.d (.bool (!k))))
def rEqA (K : PySem.W.Frag) : R2 := fun x y H Q => rEq x y H Q ∨ rEqD K x y H Q
def rNeA (K : PySem.W.Frag) : R2 := fun x y H Q => rNe x y H Q ∨ rNeD K x y H Q
theorem op_eqA {X : Cx} (hu : X.A.units + 64 < cLine) : OpR X (compareOp .Eq) (rEqA X.K) := op_eq.or (op_eqD hu)
theorem op_neA {X : Cx} (hu : X.A.units + 64 < cLine) : OpR X (compareOp .NotEq) (rNeA X.K) := op_ne.or (op_neD hu)
theorem eqD_noexc {x y : T} (c : Str) : eqD x y ≠ .exc c := by
  unfold eqD
  split
  · split
    · (intro z; cases z)
    · exact guard_noexc (by intro _ z; cases z) c
  · (intro z; cases z)
theorem bind_noexc {α β : Type} {r : R α} {f : α → R β} (h1 : ∀ c, r ≠ .exc c) (h2 : ∀ a c, f a ≠ .exc c) (c : Str) : r.bind f ≠ .exc c := by
  cases r with
  | ok a => exact h2 a c
  | exc d => exact (h1 d rfl).elim
  | bad => (intro z; cases z)
theorem opEq_nox : NoX opEq := fun x y c => bind_noexc (fun _ => eqD_noexc _) (by intro _ _ z; cases z) c
theorem opNe_nox : NoX opNe := fun x y c => bind_noexc (fun _ => eqD_noexc _) (by intro _ _ z; cases z) c
section
variable {K : PySem.W.Frag} {F : Addr → Prop} {H : Hp}
theorem eqD_red {v u : V} {x y : T} {A B : List Addr} (hx : Rp K F H v x A) (hy : Rp K F H u y B) {P : Bool → Prop} (q : Then (eqD x y) P (fun _ => False)) :
    (∃ k, scal v u = true ∧ decide (v = u) = k ∧ P k) ∨ ∃ d e, Dp K H v d ∧ Dp K H u e ∧ SeqAt.shaped d = true ∧ SeqAt.shaped e = true ∧ P (PyData.eqv d e) := by
  unfold eqD at q
  split at q
  · rename_i a b e1 e2
    have d1 := hx.dp e1
    have d2 := hy.dp e2
    split at q
    · rename_i k ek
      refine .inl ⟨k, ?_⟩
      have q' : P k := q
      unfold eqS at ek
      split at ek
      · cases d1; cases d2; cases ek
        exact ⟨rfl, by simp [V.int.injEq], q'⟩
      · cases d1; cases d2; cases ek
        exact ⟨rfl, by simp [V.bl.injEq], q'⟩
      · cases d1; cases d2; cases ek
        exact ⟨rfl, by simp [V.str.injEq], q'⟩
      · cases d1; cases d2; cases ek
        exact ⟨rfl, by simp, q'⟩
      · cases ek
    · obtain ⟨g, q⟩ := then_guard.mp q
      rw [Bool.and_eq_true] at g
      exact .inr ⟨a, b, d1, d2, g.1, g.2, q⟩
  · exact q.elim
end
theorem opEq_v {K : PySem.W.Frag} : OpV K (rEqA K) opEq := by
  intro F H v u x y A B hx hy Q q
  have q' : Then (eqD x y) (fun k => Q (.bl k) H) (fun _ => False) := (then_bind.mp q).imp fun k h => rv_d h (.bl k)
  rcases eqD_red hx hy q' with ⟨k, s, e, q⟩ | ⟨d, e, h1, h2, h3, h4, q⟩
  · exact .inl ⟨s, by rw [e]; exact q⟩
  · exact .inr ⟨d, e, h1, h2, h3, h4, q⟩
theorem opNe_v {K : PySem.W.Frag} : OpV K (rNeA K) opNe := by
  intro F H v u x y A B hx hy Q q
  have q' : Then (eqD x y) (fun k => Q (.bl (!k)) H) (fun _ => False) := (then_bind.mp q).imp fun k h => rv_d h (.bl (!k))
  rcases eqD_red hx hy q' with ⟨k, s, e, q⟩ | ⟨d, e, h1, h2, h3, h4, q⟩
  · exact .inl ⟨s, by rw [e]; exact q⟩
  · exact .inr ⟨d, e, h1, h2, h3, h4, q⟩

/-! ### is None, in -/
def T.isNone : T → Bool
  | .d .none => true
  | _ => false
def opIsN (x y : T) : R RV := guard y.isNone (.ok (.v (.d (.bool x.isNone))))
def opNotN (x y : T) : R RV := guard y.isNone (.ok (.v (.d (.bool (!x.isNone)))))
theorem opIsN_nox : NoX opIsN := fun _ _ c => guard_noexc (by intro _ z; cases z) c
theorem opNotN_nox : NoX opNotN := fun _ _ c => guard_noexc (by intro _ z; cases z) c
theorem isNone_iff {K : PySem.W.Frag} {F : Addr → Prop} {H : Hp} {v : V} {x : T} {A : List Addr} (h : Rp K F H v x A) : decide (v = .non) = x.isNone := by
  cases h with
  | d h => cases h <;> rfl
  | _ => rfl
theorem opIsN_v {K : PySem.W.Frag} : OpV K rIsN opIsN := by
  intro F H v u x y A B hx hy Q q
  obtain ⟨g, q⟩ := then_guard.mp q
  rw [← isNone_iff hy] at g
  exact ⟨of_decide_eq_true g, rv_d q (by rw [isNone_iff hx]; exact .bl _)⟩
theorem opNotN_v {K : PySem.W.Frag} : OpV K rNotN opNotN := by
  intro F H v u x y A B hx hy Q q
  obtain ⟨g, q⟩ := then_guard.mp q
  rw [← isNone_iff hy] at g
  exact ⟨of_decide_eq_true g, rv_d q (by rw [isNone_iff hx]; exact .bl _)⟩

/-! ### subscripts -/
def opIdx : T → T → R RV
  | .d (.list ds), .d (.int i) => (ofO (atI ds i)).bind fun x => .ok (.v (.d x))
  | .d (.tuple ds), .d (.int i) => (ofO (atI ds i)).bind fun x => .ok (.v (.d x))
  | .d (.str z), .d (.int i) => guard (decide (z.length ≤ sLine)) ((ofO (atI z.cps.toList i)).bind fun c => .ok (.v (.d (.str ⟨#[c]⟩))))
  | .ol ts, .d (.int i) => (ofO (atI ts i)).bind fun x => .ok (.v x)
  | .ot ts, .d (.int i) => (ofO (atI ts i)).bind fun x => .ok (.v x)
  | .rd ds, .d (.int i) => (ofO (atI ds i)).bind fun x => .ok (.v (.d x))
  | _, _ => .bad
theorem ofO_noexc {α : Type} {o : Option α} (c : Str) : ofO o ≠ .exc c := by
  cases o <;> (intro z; cases z)
theorem opIdx_nox : NoX opIdx := by
  intro x y c
  unfold opIdx
  split
  · exact bind_noexc (fun _ => ofO_noexc _) (by intro _ _ z; cases z) c
  · exact bind_noexc (fun _ => ofO_noexc _) (by intro _ _ z; cases z) c
  · exact guard_noexc (bind_noexc (fun _ => ofO_noexc _) (by intro _ _ z; cases z)) c
  · exact bind_noexc (fun _ => ofO_noexc _) (by intro _ _ z; cases z) c
  · exact bind_noexc (fun _ => ofO_noexc _) (by intro _ _ z; cases z) c
  · exact bind_noexc (fun _ => ofO_noexc _) (by intro _ _ z; cases z) c
  · (intro z; cases z)
section
variable {K : PySem.W.Frag} {F : Addr → Prop} {H : Hp}
theorem atI_rel {α β : Type} {xs : List α} {ys : List β} (hl : ys.length = xs.length) {P : α → β → Prop} (g : ∀ (j : Nat) (x : α), xs[j]? = some x → ∃ y, ys[j]? = some y ∧ P x y) {i : Int} {x : α} (h : atI xs i = some x) : ∃ y, atI ys i = some y ∧ P x y := by
  unfold atI at h ⊢
  rw [hl]
  obtain ⟨j, e1, e2⟩ := Option.bind_eq_some_iff.mp h
  obtain ⟨y, e3, p⟩ := g j x e2
  exact ⟨y, by rw [e1]; exact e3, p⟩
end
theorem opIdx_v {K : PySem.W.Frag} : OpV K (rIx K) opIdx := by
  intro F H v u x y A B hx hy Q q
  unfold opIdx at q
  split at q
  · obtain ⟨z, e, q⟩ := then_ofO.mp (then_bind.mp q)
    obtain ⟨a, vs, rfl, h1, f1⟩ := hx.lst? (ds := _) rfl
    obtain ⟨w, e2, p⟩ := atI_rel f1.len (fun j x hx => f1.get hx) e
    exact .inl ⟨a, vs, _, w, rfl, hy.i, .of h1, e2, rv_d q p⟩
  · obtain ⟨z, e, q⟩ := then_ofO.mp (then_bind.mp q)
    obtain ⟨a, vs, rfl, h1, f1⟩ := hx.t
    obtain ⟨w, e2, p⟩ := atI_rel f1.len (fun j x hx => f1.get hx) e
    exact .inr (.inl ⟨a, vs, _, w, rfl, hy.i, h1, e2, rv_d q p⟩)
  · obtain ⟨g, q⟩ := then_guard.mp q
    obtain ⟨z, e, q⟩ := then_ofO.mp (then_bind.mp q)
    exact .inr (.inr ⟨_, _, z, hx.s, hy.i, by rw [← sLine_eq]; exact of_decide_eq_true g, e, rv_d q (.str _)⟩)
  · obtain ⟨z, e, q⟩ := then_ofO.mp (then_bind.mp q)
    cases hx with
    | ol h1 r =>
      obtain ⟨w, e2, C, p, hc⟩ := atI_rel (P := fun t w => ∃ C, Rp K F H w t C ∧ ∀ a, C.count a ≤ _) r.len (fun j x hx => by
        obtain ⟨w, C, e, p, hc⟩ := r.get hx
        exact ⟨w, e, C, p, hc⟩) e
      exact .inl ⟨_, _, _, w, rfl, hy.i, .of h1, e2, q w C p fun b => by have := hc b; rw [List.count_append, List.count_cons]; omega⟩
  · obtain ⟨z, e, q⟩ := then_ofO.mp (then_bind.mp q)
    cases hx with
    | ot h1 r =>
      obtain ⟨w, e2, C, p, hc⟩ := atI_rel (P := fun t w => ∃ C, Rp K F H w t C ∧ ∀ a, C.count a ≤ _) r.len (fun j x hx => by
        obtain ⟨w, C, e, p, hc⟩ := r.get hx
        exact ⟨w, e, C, p, hc⟩) e
      exact .inr (.inl ⟨_, _, _, w, rfl, hy.i, .of h1, e2, q w C p fun b => by have := hc b; rw [List.count_append]; omega⟩)
  · obtain ⟨z, e, q⟩ := then_ofO.mp (then_bind.mp q)
    cases hx with
    | rd h1 f1 =>
      obtain ⟨w, e2, p⟩ := atI_rel f1.len (fun j x hx => f1.get hx) e
      exact .inl ⟨_, _, _, w, rfl, hy.i, h1.sq, e2, rv_d q p⟩
  · exact q.elim
end L3
/-! L3d -/
/-! L3d: views, arguments, displays, tests. -/
namespace L3
open PySem PySem.Spec PyProof.Rows L2

/-! ### views: what only reads -/
abbrev MP := Env → Option T
def SimP (K : PySem.W.Frag) (te : TE) (m : MP) : Prop :=
  ∀ (c : C0) (H : Hp) (tv : List (Option V)) (td : Env) (σ : L2.St) (ρ : Env) (A : List Addr) (t : T), tv.length = td.length → StW K c H (tv ++ σ) (td ++ ρ) A → m ρ = some t → ∀ Q : VK,
    (∀ v A1, Rp K (Fok c A) H v t A1 → (∀ a ∈ A1, a ∈ A) → Q v H) → te σ H Q
structure QP (X : Cx) (e : Expr) (te : TE) (m : MP) : Prop where
  pe : PE X e te
  sim : SimP X.K te m
def mLift (m : MP) : MEx := fun ρ => match m ρ with | some (.d x) => .ok (.d x, ρ) | _ => .bad
def onV : RV → Option T
  | .v t => some t
  | _ => none
def okV : R RV → Option T
  | .ok (.v t) => some t
  | _ => none
def pVar (i : Nat) : MP := fun ρ => match ρ[i]? with | some (some t) => some t | _ => none
def pC (x : PyData) : MP := fun _ => some (.d x)
def pBin (op : T → T → R RV) (ma mb : MP) : MP := fun ρ => (ma ρ).bind fun x => (mb ρ).bind fun y => okV (op x y)
def pUn (op : T → R RV) (ma : MP) : MP := fun ρ => (ma ρ).bind fun x => okV (op x)
section
variable {X : Cx} {E : Str → Hp → Prop} {e a b : Expr} {te ta tb : TE} {m ma mb : MP} {pos : Pos}
theorem QP.lift (h : QP X e te m) : QE X E true e te (mLift m) := by
  refine ⟨h.pe, fun c H tv td σ ρ hl st Q q => ?_⟩
  obtain ⟨A, w⟩ := st
  unfold mLift at q
  cases e1 : m ρ with
  | none => rw [e1] at q; exact q.elim
  | some t =>
    rw [e1] at q
    cases t with
    | d x =>
      refine h.sim c H tv td σ ρ A _ hl w e1 Q fun v A1 r _ => ?_
      cases r with
      | d f => exact q v H (fun _ => Same.refl H) ⟨A, w.pushD f⟩
    | _ => exact q.elim
theorem qp_int {i : Int} {j : Nat} {pos : Pos} : QP X (.Constant (.int i) j pos) (tC (.int i)) (pC (.int i)) := ⟨pe_int, fun c H tv td σ ρ A t _ _ e Q q => by cases e; exact q _ [] (.d (.int i)) fun _ z => by simp at z⟩
theorem qp_bl {i : Bool} {j : Nat} {pos : Pos} : QP X (.Constant (.bool i) j pos) (tC (.bl i)) (pC (.bool i)) := ⟨pe_bl, fun c H tv td σ ρ A t _ _ e Q q => by cases e; exact q _ [] (.d (.bl i)) fun _ z => by simp at z⟩
theorem qp_str {i : Str} {j : Nat} {pos : Pos} : QP X (.Constant (.str i) j pos) (tC (.str i)) (pC (.str i)) := ⟨pe_str, fun c H tv td σ ρ A t _ _ e Q q => by cases e; exact q _ [] (.d (.str i)) fun _ z => by simp at z⟩
theorem qp_non {j : Nat} {pos : Pos} : QP X (.Constant .none j pos) (tC .non) (pC .none) := ⟨pe_non, fun c H tv td σ ρ A t _ _ e Q q => by cases e; exact q _ [] (.d .non) fun _ z => by simp at z⟩
/-- a slot, seen -/
theorem StW.see {K : PySem.W.Frag} {c : C0} {H : Hp} {tv : List (Option V)} {td : Env} {σ : L2.St} {ρ : Env} {A : List Addr} (hl : tv.length = td.length) (w : StW K c H (tv ++ σ) (td ++ ρ) A) {i : Nat} {t : T} (e : ρ[i]? = some (some t)) :
    ∃ v A1, σ[i]? = some (some v) ∧ Rp K (Fok c A) H v t A1 ∧ ∀ a ∈ A1, a ∈ A := by
  have hlen := w.slots.len
  have hi : i < ρ.length := (List.getElem?_eq_some_iff.mp e).1
  have hi2 : tv.length + i < (tv ++ σ).length := by
    rw [hlen, List.length_append]; omega
  obtain ⟨B, hb, ar, get⟩ := w.slots.around hi2
  obtain ⟨v, A1, e3, x, hc⟩ := get t (by rw [app_at hl.symm, e])
  rw [app_at rfl] at e3
  exact ⟨v, A1, e3, x, fun a ha => List.count_pos_iff.mp (by have := hc a; have := List.count_pos_iff.mpr ha; omega)⟩
theorem sim_pvar {K : PySem.W.Frag} (i : Nat) : SimP K (tVar i) (pVar i) := by
  intro c H tv td σ ρ A t hl w e Q q
  unfold pVar at e
  split at e
  · rename_i e0
    cases e
    obtain ⟨v, A1, e3, x, hc⟩ := w.see hl e0
    exact ⟨v, e3, q v A1 x hc⟩
  · cases e
theorem qp_var (i : Nat) {x : Str} {pos : Pos} (hN : X.N[i]? = some x := by rfl) (hv : Vis X.env.scope x := by first | exact Or.inl rfl | exact Or.inr (Or.inl rfl) | exact Or.inr (Or.inr rfl)) (hd : (x == ("__debug__" : Str)) = false := by decide)
    (hcd : (x == ("__classdict__" : Str)) = false := by decide) : QP X (.Name x pos) (tVar i) (pVar i) := ⟨pe_var hN hv hd hcd, sim_pvar i⟩
theorem then_okV {z : R RV} {t : T} (e : okV z = some t) {P : RV → Prop} (h : P (.v t)) : Then z P (fun _ => False) := by
  unfold okV at e
  split at e
  · cases e; exact h
  · cases e
theorem sim_pbin {K : PySem.W.Frag} {r : R2} {op : T → T → R RV} (ho : OpV K r op) (sa : SimP K ta ma) (sb : SimP K tb mb) : SimP K (tOp r ta tb) (pBin op ma mb) := by
  intro c H tv td σ ρ A t hl w e Q q
  unfold pBin at e
  obtain ⟨x, e1, e⟩ := Option.bind_eq_some_iff.mp e
  obtain ⟨y, e2, e⟩ := Option.bind_eq_some_iff.mp e
  refine sa c H tv td σ ρ A x hl w e1 _ fun v A1 r1 h1 => ?_
  refine sb c H tv td σ ρ A y hl w e2 _ fun u A2 r2 h2 => ?_
  refine ho _ H v u x y A1 A2 r1 r2 Q (then_okV e ?_)
  intro w' C r3 h3
  refine q w' C r3 fun a ha => ?_
  have z := h3 a
  rw [List.count_append] at z
  have z2 := List.count_pos_iff.mpr ha
  by_cases hA : a ∈ A1
  · exact h1 a hA
  · have := List.count_eq_zero.mpr hA
    exact h2 a (List.count_pos_iff.mp (by omega))
theorem sim_pun {K : PySem.W.Frag} {r : V → Hp → VK → Prop} {op : T → R RV} (ho : UnV K r op) (sa : SimP K ta ma) : SimP K (tUn r ta) (pUn op ma) := by
  intro c H tv td σ ρ A t hl w e Q q
  unfold pUn at e
  obtain ⟨x, e1, e⟩ := Option.bind_eq_some_iff.mp e
  refine sa c H tv td σ ρ A x hl w e1 _ fun v A1 r1 h1 => ?_
  refine ho _ H v x A1 r1 Q (then_okV e ?_)
  intro w' C r3 h3
  exact q w' C r3 fun a ha => h1 a (List.count_pos_iff.mp (Nat.lt_of_lt_of_le (List.count_pos_iff.mpr ha) (h3 a)))
theorem qp_op {op : Operator} {r : R2} {f : T → T → R RV} (ho : OpR X (binaryOp op) r) (hv : OpV X.K r f) (ha : QP X a ta ma) (hb : QP X b tb mb) : QP X (.BinOp a op b pos) (tOp r ta tb) (pBin f ma mb) := ⟨pe_op ho ha.pe hb.pe, sim_pbin hv ha.sim hb.sim⟩
theorem qp_cmp {op : CmpOp} {r : R2} {f : T → T → R RV} (ho : OpR X (compareOp op) r) (hv : OpV X.K r f) (ha : QP X a ta ma) (hb : QP X b tb mb) (hm : behindInMarks op b = false) : QP X (.Compare a [op] [b] pos) (tOp r ta tb) (pBin f ma mb) := ⟨pe_cmpR ho ha.pe hb.pe hm, sim_pbin hv ha.sim hb.sim⟩
theorem qp_ix (ha : QP X a ta ma) (hb : QP X b tb mb) (hs : PlainIx b := by exact fun _ _ => rfl) : QP X (.Subscript a b pos) (tOp (rIx X.K) ta tb) (pBin opIdx ma mb) := ⟨pe_ix ix_seq ha.pe hb.pe hs, sim_pbin opIdx_v ha.sim hb.sim⟩
theorem qe_op {op : Operator} {r : R2} {f : T → T → R RV} {ma mb : MEx} (ho : OpR X (binaryOp op) r) (hv : OpV X.K r f) (hx : NoX f) {g1 g2 : Bool} (ha : QE X E g1 a ta ma) (hb : QE X E g2 b tb mb) : QE X E (g1 && g2) (.BinOp a op b pos) (tOp r ta tb) (mBin f ma mb) := ⟨pe_op ho ha.pe hb.pe, sim_bin hv hx ha.sim hb.sim⟩
theorem qe_cmp {op : CmpOp} {r : R2} {f : T → T → R RV} {ma mb : MEx} (ho : OpR X (compareOp op) r) (hv : OpV X.K r f) (hx : NoX f) {g1 g2 : Bool} (ha : QE X E g1 a ta ma) (hb : QE X E g2 b tb mb) (hm : behindInMarks op b = false) : QE X E (g1 && g2) (.Compare a [op] [b] pos) (tOp r ta tb) (mBin f ma mb) := ⟨pe_cmpR ho ha.pe hb.pe hm, sim_bin hv hx ha.sim hb.sim⟩
theorem qe_ix {ma mb : MEx} {g1 g2 : Bool} (ha : QE X E g1 a ta ma) (hb : QE X E g2 b tb mb) (hs : PlainIx b := by exact fun _ _ => rfl) : QE X E (g1 && g2) (.Subscript a b pos) (tOp (rIx X.K) ta tb) (mBin opIdx ma mb) := ⟨pe_ix ix_seq ha.pe hb.pe hs, sim_bin opIdx_v opIdx_nox ha.sim hb.sim⟩
end

/-! ### arguments -/
abbrev MA := Env → R (List T × Env)
def SimA (K : PySem.W.Frag) (E : Str → Hp → Prop) (gr : Bool) (ta : TA) (m : MA) : Prop :=
  ∀ (c : C0) (H : Hp) (tv : List (Option V)) (td : Env) (σ : L2.St) (ρ : Env), tv.length = td.length → StR K c H (tv ++ σ) (td ++ ρ) → ∀ Q : List V → Hp → Prop,
    Then (m ρ) (fun r => ∀ vs H', (gr = true → Same H H') → vs.length = r.1.length → StR K c H' (vs.map some ++ (tv ++ σ)) (r.1.map some ++ (td ++ r.2)) → Q vs H') (fun x => ∀ H', KeepC c H' → E x H') → ta σ H Q
structure QA (X : Cx) (E : Str → Hp → Prop) (gr : Bool) (es : List Expr) (ta : TA) (m : MA) : Prop where
  pa : PA X es ta
  sim : SimA X.K E gr ta m
  len : ∀ ρ r, m ρ = .ok r → r.1.length = es.length
def mNil : MA := fun ρ => .ok ([], ρ)
def mCons (m : MEx) (r : MA) : MA := fun ρ => (m ρ).bind fun x => (r x.2).bind fun y => .ok (x.1 :: y.1, y.2)
abbrev MPA := Env → Option (List T)
def SimPA (K : PySem.W.Frag) (ta : TA) (m : MPA) : Prop :=
  ∀ (c : C0) (H : Hp) (tv : List (Option V)) (td : Env) (σ : L2.St) (ρ : Env) (A : List Addr) (ts : List T), tv.length = td.length → StW K c H (tv ++ σ) (td ++ ρ) A → m ρ = some ts → ∀ Q : List V → Hp → Prop,
    (∀ vs A1, RpAll K (Fok c A) H vs ts A1 → (∀ a ∈ A1, a ∈ A) → Q vs H) → ta σ H Q
structure QPA (X : Cx) (es : List Expr) (ta : TA) (m : MPA) : Prop where
  pa : PA X es ta
  sim : SimPA X.K ta m
def pNil : MPA := fun _ => some []
def pCons (m : MP) (r : MPA) : MPA := fun ρ => (m ρ).bind fun x => (r ρ).bind fun y => some (x :: y)
section
variable {X : Cx} {E : Str → Hp → Prop} {e a b : Expr} {es : List Expr} {te ta tb : TE} {t : TA} {m ma mb : MEx} {r : MA} {pos : Pos}
theorem qa_nil : QA X E true [] tNil mNil := ⟨pa_nil, fun c H tv td σ ρ hl st Q q => q [] H (fun _ => Same.refl H) rfl st, fun ρ r e => by cases e; rfl⟩
theorem qa_cons {g1 g2 : Bool} (h : QE X E g1 e te m) (hr : QA X E g2 es t r) (hs : starEach (e :: es) X.env = (false, eval e X.env) :: starEach es X.env := by rfl) : QA X E (g1 && g2) (e :: es) (tCons te t) (mCons m r) := by
  refine ⟨pa_cons h.pe hr.pa hs, fun c H tv td σ ρ hl st Q q => ?_, fun ρ z ez => ?_⟩
  · unfold mCons at q
    rw [then_bind] at q
    refine h.sim c H tv td σ ρ hl st _ (q.imp ?_)
    intro x q1 v H1 sm1 st1
    rw [then_bind] at q1
    refine hr.sim c H1 (some v :: tv) (some x.1 :: td) σ x.2 (by simp [hl]) st1 _ (q1.imp ?_)
    intro y q2 vs H2 sm2 hvs st2
    refine q2 (v :: vs) H2 (fun e => by rw [Bool.and_eq_true] at e; exact (sm1 e.1).trans (sm2 e.2)) (by simp [hvs]) ?_
    exact StR.raise (xs := vs.map some) (as := y.1.map some) (by simp [hvs]) st2
  · unfold mCons at ez
    cases e1 : m ρ with
    | ok x =>
      rw [e1] at ez
      cases e2 : r x.2 with
      | ok y =>
        have ez' : (R.ok (x.1 :: y.1, y.2) : R (List T × Env)) = .ok z := by rw [← ez]; show _ = (r x.2).bind _; rw [e2]; rfl
        cases ez'
        simp [hr.len _ _ e2]
      | exc _ => have ez' : (r x.2).bind (fun y => R.ok (x.1 :: y.1, y.2)) = R.ok z := ez; rw [e2] at ez'; cases ez'
      | bad => have ez' : (r x.2).bind (fun y => R.ok (x.1 :: y.1, y.2)) = R.ok z := ez; rw [e2] at ez'; cases ez'
    | exc _ => rw [e1] at ez; cases ez
    | bad => rw [e1] at ez; cases ez
theorem qpa_nil : QPA X [] tNil pNil := ⟨pa_nil, fun c H tv td σ ρ A ts _ _ e Q q => by cases e; exact q [] [] .nil fun _ z => by simp at z⟩
theorem qpa_cons {m : MP} {r : MPA} (h : QP X e te m) (hr : QPA X es t r) (hs : starEach (e :: es) X.env = (false, eval e X.env) :: starEach es X.env := by rfl) : QPA X (e :: es) (tCons te t) (pCons m r) := by
  refine ⟨pa_cons h.pe hr.pa hs, fun c H tv td σ ρ A ts hl w e Q q => ?_⟩
  unfold pCons at e
  obtain ⟨x, e1, e⟩ := Option.bind_eq_some_iff.mp e
  obtain ⟨y, e2, e⟩ := Option.bind_eq_some_iff.mp e
  cases e
  refine h.sim c H tv td σ ρ A x hl w e1 _ fun v A1 r1 h1 => ?_
  refine hr.sim c H tv td σ ρ A y hl w e2 _ fun vs A2 r2 h2 => ?_
  exact q (v :: vs) (A1 ++ A2) (.cons r1 r2) fun a ha => (List.mem_append.mp ha).elim (h1 a) (h2 a)

/-! ### displays -/
section
variable {K : PySem.W.Frag} {F : Addr → Prop} {H : Hp}
theorem Sl.front : ∀ {vs : List V} {ts : List T} {sl : List (Option V)} {ρ : Env} {A : List Addr}, vs.length = ts.length → Sl K F H (vs.map some ++ sl) (ts.map some ++ ρ) A → ∃ A1 B, A = A1 ++ B ∧ RpAll K F H vs ts A1 ∧ Sl K F H sl ρ B
  | [], [], _, _, A, _, h => ⟨[], A, rfl, .nil, h⟩
  | v :: vs, t :: ts, _, _, _, hl, h => by
    cases h with
    | cons x r =>
      obtain ⟨A1, B, e, ra, s⟩ := r.front (by simpa using hl)
      exact ⟨_, B, by rw [e, ← List.append_assoc], .cons x ra, s⟩
  | [], _ :: _, _, _, _, hl, _ => by simp at hl
  | _ :: _, [], _, _, _, hl, _ => by simp at hl
end
def mkTup (ts : List T) : T := match T.allD ts with | some ds => .d (.tuple ds) | none => .ot ts
def mTup (m : MA) : MEx := fun ρ => (m ρ).bind fun r => .ok (mkTup r.1, r.2)
def mLst (m : MA) : MEx := fun ρ => (m ρ).bind fun r => .ok (.ol r.1, r.2)
theorem sz1000 {n : Nat} (h : n ≤ 1000) : n ≤ sizeLine := Nat.le_trans h (by decide)
theorem qe_tup {k : Nat} {ma : MA} {g1 : Bool} (h : QA X E g1 es t ma) (hz : es.length ≤ 1000 := by decide) : QE X E g1 (.Tuple es k pos) (tTup t) (mTup ma) := by
  refine ⟨pe_tup h.pa, fun c H tv td σ ρ hl st Q q => ?_⟩
  unfold mTup at q
  rw [then_bind] at q
  refine h.sim c H tv td σ ρ hl st _ ?_
  have hlen := h.len ρ
  cases e : ma ρ with
  | bad => rw [e] at q; exact q.elim
  | exc x => rw [e] at q; exact q
  | ok r =>
    rw [e] at q
    intro vs H1 sm1 hvs st1
    have hn := hlen r e
    refine ⟨sz1000 (by omega), fun p hp => q _ _ (fun e => (sm1 e).trans (same_upd hp)) ?_⟩
    obtain ⟨A, w⟩ := st1
    obtain ⟨A1, B, eA, ra, s⟩ := w.slots.front hvs
    have sm := same_upd (o := .tup vs) hp
    have w2 := w.grow sm
    have eq1 : ∀ a ∈ A, (upd H1 p (.tup vs)) a = H1 a := fun a ha => upd_ne (fun z => w.not_mem_of_none hp (by rw [← z]; exact ha))
    have ra2 := ra.mono (.same sm) fun a ha => eq1 a (by rw [eA]; exact List.mem_append_left _ ha)
    have s2 := s.mono (.same sm) fun a ha => eq1 a (by rw [eA]; exact List.mem_append_right _ ha)
    refine ⟨A1 ++ B, w2.remake (fun a => by rw [eA]; exact Nat.le_refl _) (.cons ?_ s2)⟩
    show Rp X.K (Fok c A) (upd H1 p (.tup vs)) (.ref p) (mkTup r.1) A1
    unfold mkTup
    cases ed : T.allD r.1 with
    | none => exact .ot upd_same ra2
    | some ds =>
      obtain ⟨f, z, _⟩ := ra2.data ed
      subst z
      exact .d (.tup (.of upd_same) f)
theorem qe_lst {ma : MA} {g1 : Bool} (h : QA X E g1 es t ma) (hz : es.length ≤ 1000 := by decide) : QE X E g1 (.List es pos) (tLst t) (mLst ma) := by
  refine ⟨pe_lst h.pa, fun c H tv td σ ρ hl st Q q => ?_⟩
  unfold mLst at q
  rw [then_bind] at q
  refine h.sim c H tv td σ ρ hl st _ ?_
  have hlen := h.len ρ
  cases e : ma ρ with
  | bad => rw [e] at q; exact q.elim
  | exc x => rw [e] at q; exact q
  | ok r =>
    rw [e] at q
    intro vs H1 sm1 hvs st1
    have hn := hlen r e
    refine ⟨sz1000 (by omega), fun p hp => q _ _ (fun e => (sm1 e).trans (same_upd hp)) ?_⟩
    obtain ⟨A, w⟩ := st1
    obtain ⟨A1, B, eA, ra, s⟩ := w.slots.front hvs
    have sm := same_upd (o := .lst vs) hp
    have m0 : Mono (Fok c A) (Fok c (p :: A)) H1 H1 := Fok.fresh hp
    have eq1 : ∀ a ∈ A, (upd H1 p (.lst vs)) a = H1 a := fun a ha => upd_ne (fun z => w.not_mem_of_none hp (by rw [← z]; exact ha))
    have ra2 := (ra.mono m0 fun _ _ => rfl).mono (.same sm) fun a ha => eq1 a (by rw [eA]; exact List.mem_append_left _ ha)
    have s2 := (s.mono m0 fun _ _ => rfl).mono (.same sm) fun a ha => eq1 a (by rw [eA]; exact List.mem_append_right _ ha)
    have ec : (p :: A1) ++ B = p :: A := by rw [eA]; rfl
    have cc : Sl X.K (Fok c (p :: A)) (upd H1 p (.lst vs)) (some (.ref p) :: (tv ++ σ)) (some (.ol r.1) :: (td ++ r.2)) ((p :: A1) ++ B) := .cons (.ol upd_same ra2) s2
    rw [ec] at cc
    refine ⟨p :: A, fun a => ?_, cc, fun a ha => ?_, w.keep.grow sm⟩
    · rw [List.count_cons]
      have h2 := w.uniq a
      by_cases e : p = a
      · subst e
        have : A.count p = 0 := List.count_eq_zero.mpr (w.not_mem_of_none hp)
        simp [this]
      · have e' : (p == a) = false := by simpa using e
        simp [e']; omega
    · rcases List.mem_cons.mp ha with z | z
      · subst z
        exact .inr (w.keep.there _ hp)
      · exact w.own a z

/-! ### calls of what is built in -/
def CallV (K : PySem.W.Frag) (r : List V → Hp → VK → Prop) (op : List T → R RV) : Prop := ∀ (F : Addr → Prop) (H : Hp) (vs : List V) (ts : List T) (A : List Addr), RpAll K F H vs ts A → ∀ Q : VK, Then (op ts) (RVto K F H A Q) (fun _ => False) → r vs H Q
def NoXL (op : List T → R RV) : Prop := ∀ x c, op x ≠ .exc c
def mCallB (op : List T → R RV) (m : MA) : MEx := fun ρ => (m ρ).bind fun r => (op r.1).bind fun z => .ok (z.toT, r.2)
def pCallB (op : List T → R RV) (m : MPA) : MP := fun ρ => (m ρ).bind fun ts => okV (op ts)
theorem sim_callB {K : PySem.W.Frag} {rr : List V → Hp → VK → Prop} {op : List T → R RV} {ma : MA} (ho : CallV K rr op) (hx : NoXL op) {g1 : Bool} (sa : SimA K E g1 t ma) : SimE K E g1 (tCB rr t) (mCallB op ma) := by
  intro c H tv td σ ρ hl st Q q
  unfold mCallB at q
  rw [then_bind] at q
  refine sa c H tv td σ ρ hl st _ (q.imp ?_)
  intro x q1 vs H1 sm1 hvs st1
  rw [then_bind] at q1
  obtain ⟨A, w⟩ := st1
  obtain ⟨A1, B, eA, ra, s⟩ := w.slots.front hvs
  refine ho _ H1 vs x.1 A1 ra Q (noexc (hx _) q1 fun z q3 => ?_)
  refine StW.result (fun a => ?_) w.uniq w.own w.keep s fun v' H' sm' => q3 v' H' fun e => (sm1 e).trans sm'
  rw [eA, List.count_append]
  omega
theorem sim_pcallB {K : PySem.W.Frag} {rr : List V → Hp → VK → Prop} {op : List T → R RV} {ma : MPA} (ho : CallV K rr op) (sa : SimPA K t ma) : SimP K (tCB rr t) (pCallB op ma) := by
  intro c H tv td σ ρ A tt hl w e Q q
  unfold pCallB at e
  obtain ⟨x, e1, e⟩ := Option.bind_eq_some_iff.mp e
  refine sa c H tv td σ ρ A x hl w e1 _ fun vs A1 r1 h1 => ?_
  refine ho _ H vs x A1 r1 Q (then_okV e ?_)
  intro w' C r3 h3
  exact q w' C r3 fun a ha => h1 a (List.count_pos_iff.mp (Nat.lt_of_lt_of_le (List.count_pos_iff.mpr ha) (h3 a)))
variable {x : Str} {p : Pos} {id TY : String} {rr : List V → Hp → VK → Prop} {op : List T → R RV}
theorem qe_callB {ma : MA} (hc : CallR X (.builtin id) rr) (hv : CallV X.K rr op) (hx : NoXL op) (hm : X.mg x = none) (hb : bootBuiltins x = some (.builtin id)) {g1 : Bool} (ha : QA X E g1 (e :: es) t ma) (hg : Gl X x := by rfl) (hn : x ≠ "__name__" := by decide) (hdb : (x == ("__debug__" : Str)) = false := by decide)
    (he : starEach (e :: es) X.env = (false, eval e X.env) :: starEach es X.env := by rfl) (hpl : (backTo pos (starEach es X.env)).any (·.1) = false := by rfl) : QE X E g1 (.Call (.Name x p) (e :: es) [] pos) (tCB rr t) (mCallB op ma) :=
  ⟨pe_callB hc hg hm hb ha.pa hn hdb he hpl, sim_callB hv hx ha.sim⟩
theorem qp_callB {ma : MPA} (hc : CallR X (.builtin id) rr) (hv : CallV X.K rr op) (hm : X.mg x = none) (hb : bootBuiltins x = some (.builtin id)) (ha : QPA X (e :: es) t ma) (hg : Gl X x := by rfl) (hn : x ≠ "__name__" := by decide) (hdb : (x == ("__debug__" : Str)) = false := by decide)
    (he : starEach (e :: es) X.env = (false, eval e X.env) :: starEach es X.env := by rfl) (hpl : (backTo pos (starEach es X.env)).any (·.1) = false := by rfl) : QP X (.Call (.Name x p) (e :: es) [] pos) (tCB rr t) (pCallB op ma) :=
  ⟨pe_callB hc hg hm hb ha.pa hn hdb he hpl, sim_pcallB hv ha.sim⟩
theorem qe_callTy {ma : MA} (hc : CallR X (.type TY) rr) (hv : CallV X.K rr op) (hx : NoXL op) (hm : X.mg x = none) (hb : bootBuiltins x = some (.type TY)) {g1 : Bool} (ha : QA X E g1 (e :: es) t ma) (hg : Gl X x := by rfl) (hn : x ≠ "__name__" := by decide) (hdb : (x == ("__debug__" : Str)) = false := by decide)
    (he : starEach (e :: es) X.env = (false, eval e X.env) :: starEach es X.env := by rfl) (hpl : (backTo pos (starEach es X.env)).any (·.1) = false := by rfl) : QE X E g1 (.Call (.Name x p) (e :: es) [] pos) (tCB rr t) (mCallB op ma) :=
  ⟨pe_callTy hc hg hm hb ha.pa hn hdb he hpl, sim_callB hv hx ha.sim⟩
theorem qp_callTy {ma : MPA} (hc : CallR X (.type TY) rr) (hv : CallV X.K rr op) (hm : X.mg x = none) (hb : bootBuiltins x = some (.type TY)) (ha : QPA X (e :: es) t ma) (hg : Gl X x := by rfl) (hn : x ≠ "__name__" := by decide) (hdb : (x == ("__debug__" : Str)) = false := by decide)
    (he : starEach (e :: es) X.env = (false, eval e X.env) :: starEach es X.env := by rfl) (hpl : (backTo pos (starEach es X.env)).any (·.1) = false := by rfl) : QP X (.Call (.Name x p) (e :: es) [] pos) (tCB rr t) (pCallB op ma) :=
  ⟨pe_callTy hc hg hm hb ha.pa hn hdb he hpl, sim_pcallB hv ha.sim⟩
end
end L3
/-! L3e -/
/-! L3e: tests, statements, targets. -/
namespace L3
open PySem PySem.Spec PyProof.Rows L2

/-! ### tests -/
abbrev MT := Env → R (Bool × Env)
def SimT (K : PySem.W.Frag) (E : Str → Hp → Prop) (tt : TT) (m : MT) : Prop :=
  ∀ (c : C0) (H : Hp) (tv : List (Option V)) (td : Env) (σ : L2.St) (ρ : Env), tv.length = td.length → StR K c H (tv ++ σ) (td ++ ρ) → ∀ Q : Bool → Hp → Prop,
    Then (m ρ) (fun r => ∀ H', StR K c H' (tv ++ σ) (td ++ r.2) → Q r.1 H') (fun x => ∀ H', KeepC c H' → E x H') → tt σ H Q
structure QT (X : Cx) (E : Str → Hp → Prop) (e : Expr) (tt : TT) (m : MT) : Prop where
  pt : PT X e tt
  sim : SimT X.K E tt m
structure QW (X : Cx) (E : Str → Hp → Prop) (e : Expr) (tt : TT) (m : MT) : Prop where
  pw : PW X e tt
  sim : SimT X.K E tt m
def mTest (m : MEx) : MT := fun ρ => (m ρ).bind fun r => match r.1 with | .d (.bool b) => .ok (b, r.2) | _ => .bad
def T.truth : T → Option Bool
  | .d .none => some false
  | .d (.bool b) => some b
  | .d (.int i) => some (i != 0)
  | .d (.list ds) => some (!ds.isEmpty)
  | .d (.tuple ds) => some (!ds.isEmpty)
  | .ol ts => some (!ts.isEmpty)
  | _ => none
def mTruth (m : MP) : MT := fun ρ => match (m ρ).bind T.truth with | some b => .ok (b, ρ) | none => .bad
def mNot (m : MT) : MT := fun ρ => (m ρ).bind fun r => .ok (!r.1, r.2)
def mAnd (m n : MT) : MT := fun ρ => (m ρ).bind fun r => if r.1 = true then n r.2 else .ok (false, r.2)
def mOr (m n : MT) : MT := fun ρ => (m ρ).bind fun r => if r.1 = true then .ok (true, r.2) else n r.2
def mB (m : MT) : MEx := fun ρ => (m ρ).bind fun r => .ok (.d (.bool r.1), r.2)
def mIf (m : MT) (a b : MEx) : MEx := fun ρ => (m ρ).bind fun r => if r.1 = true then a r.2 else b r.2
section
variable {X : Cx} {E : Str → Hp → Prop} {e a b c' : Expr} {es : List Expr} {te ta tb : TE} {tt tu : TT} {m ma mb : MEx} {mt mu : MT} {g1 g2 : Bool} {pos : Pos}
theorem sim_test {K : PySem.W.Frag} {g : Bool} (s : SimE K E g te m) : SimT K E (tTest te) (mTest m) := by
  intro c H tv td σ ρ hl st Q q
  unfold mTest at q
  rw [then_bind] at q
  refine s c H tv td σ ρ hl st _ (q.imp ?_)
  rintro ⟨t, ρ1⟩ q1 v H1 _ st1
  dsimp only at q1
  split at q1
  · obtain ⟨A, w⟩ := st1
    obtain ⟨f, w'⟩ := w.topD
    cases f
    exact ⟨_, rfl, q1 H1 ⟨A, w'⟩⟩
  · exact q1.elim
theorem qt_cmp {op : CmpOp} {r : R2} {f : T → T → R RV} (ho : OpR X (compareOp op) r) (hv : OpV X.K r f) (hx : NoX f) (ha : QE X E g1 a ta ma) (hb : QE X E g2 b tb mb) (hm : behindInMarks op b = false) : QT X E (.Compare a [op] [b] pos) (tTest (tOp r ta tb)) (mTest (mBin f ma mb)) :=
  ⟨pt_cmpR ho ha.pe hb.pe hm, sim_test (sim_bin hv hx ha.sim hb.sim)⟩
theorem qt_pcmp {op : CmpOp} {r : R2} {f : T → T → R RV} {ma mb : MP} (ho : OpR X (compareOp op) r) (hv : OpV X.K r f) (ha : QP X a ta ma) (hb : QP X b tb mb) (hm : behindInMarks op b = false) : QT X E (.Compare a [op] [b] pos) (tTest (tOp r ta tb)) (mTest (mLift (pBin f ma mb))) :=
  ⟨pt_cmpR ho ha.pe hb.pe hm, sim_test (qp_cmp (pos := pos) ho hv ha hb hm).lift.sim⟩
theorem qt_val (h : QE X E g1 e te m) (he : ∀ whole, isTrue e X.env whole = (do let v ← whole; standAt e.pos; holding [v] (truthy v)) := by intro _; rfl) : QT X E e (tTest te) (mTest m) := ⟨pt_val h.pe he, sim_test h.sim⟩
theorem truth_v {K : PySem.W.Frag} {F : Addr → Prop} {H : Hp} {v : V} {t : T} {A : List Addr} {k : Bool} (h : Rp K F H v t A) (e : t.truth = some k) : TruV K v H k := by
  unfold T.truth at e
  split at e
  · cases h with | d h => cases h; cases e; rfl
  · cases h with | d h => cases h; cases e; rfl
  · cases h with | d h => cases h; cases e; rfl
  · cases h with | d h =>
      cases h with
      | lst h1 _ f =>
        cases e
        have l := f.len
        refine .inl ⟨_, .of h1, ?_⟩
        cases f <;> rfl
  · cases h with | d h =>
      cases h with
      | tup h1 f =>
        cases e
        refine .inr (.inl ⟨_, h1, ?_⟩)
        cases f <;> rfl
  · cases h with
    | ol h1 f =>
      cases e
      refine .inl ⟨_, .of h1, ?_⟩
      cases f <;> rfl
  · cases e
theorem qt_truth {m : MP} (h : QP X e te m) (he : ∀ whole, isTrue e X.env whole = (do let v ← whole; standAt e.pos; holding [v] (truthy v)) := by intro _; rfl) :
    QT X E e (fun σ H Q => te σ H fun x H' => ∃ k, TruV X.K x H' k ∧ Q k H') (mTruth m) := by
  refine ⟨pt_truth h.pe he, fun c H tv td σ ρ hl st Q q => ?_⟩
  unfold mTruth at q
  obtain ⟨A, w⟩ := st
  cases e1 : (m ρ).bind T.truth with
  | none => rw [e1] at q; exact q.elim
  | some k =>
    rw [e1] at q
    obtain ⟨t, e2, e3⟩ := Option.bind_eq_some_iff.mp e1
    exact h.sim c H tv td σ ρ A t hl w e2 _ fun v A1 r _ => ⟨k, truth_v r e3, q H ⟨A, w⟩⟩
theorem sim_tnot {K : PySem.W.Frag} (s : SimT K E tt mt) : SimT K E (tNot tt) (mNot mt) := by
  intro c H tv td σ ρ hl st Q q
  unfold mNot at q
  rw [then_bind] at q
  exact s c H tv td σ ρ hl st _ (q.imp fun r q1 H1 st1 => q1 H1 st1)
theorem qt_not (h : QT X E e tt mt) : QT X E (.UnaryOp .Not e pos) (tNot tt) (mNot mt) := ⟨pt_not h.pt, sim_tnot h.sim⟩
theorem QW.qt (h : QW X E e tt mt) : QT X E e tt mt := ⟨h.pw.pt, h.sim⟩
theorem qw_and1 (h : QT X E a tt mt) : QW X E (.BoolOp .And [a] pos) tt mt := ⟨pw_and1 h.pt, h.sim⟩
theorem qw_or1 (h : QT X E a tt mt) : QW X E (.BoolOp .Or [a] pos) tt mt := ⟨pw_or1 h.pt, h.sim⟩
theorem sim_tand {K : PySem.W.Frag} (s : SimT K E tt mt) (s2 : SimT K E tu mu) : SimT K E (tAnd tt tu) (mAnd mt mu) := by
  intro c H tv td σ ρ hl st Q q
  unfold mAnd at q
  rw [then_bind] at q
  refine s c H tv td σ ρ hl st _ (q.imp ?_)
  rintro ⟨k, ρ1⟩ q1 H1 st1
  cases k with
  | true => exact s2 c H1 tv td σ ρ1 hl st1 Q q1
  | false => exact q1 H1 st1
theorem sim_tor {K : PySem.W.Frag} (s : SimT K E tt mt) (s2 : SimT K E tu mu) : SimT K E (tOr tt tu) (mOr mt mu) := by
  intro c H tv td σ ρ hl st Q q
  unfold mOr at q
  rw [then_bind] at q
  refine s c H tv td σ ρ hl st _ (q.imp ?_)
  rintro ⟨k, ρ1⟩ q1 H1 st1
  cases k with
  | true => exact q1 H1 st1
  | false => exact s2 c H1 tv td σ ρ1 hl st1 Q q1
theorem qw_and {rest : List Expr} (h : QT X E a tt mt) (h2 : QW X E (.BoolOp .And (b :: rest) pos) tu mu) : QW X E (.BoolOp .And (a :: b :: rest) pos) (tAnd tt tu) (mAnd mt mu) := ⟨pw_and h.pt h2.pw, sim_tand h.sim h2.sim⟩
theorem qw_or {rest : List Expr} (h : QT X E a tt mt) (h2 : QW X E (.BoolOp .Or (b :: rest) pos) tu mu) : QW X E (.BoolOp .Or (a :: b :: rest) pos) (tOr tt tu) (mOr mt mu) := ⟨pw_or h.pt h2.pw, sim_tor h.sim h2.sim⟩
/-! values: True, False alone -/
def mAndV (m n : MEx) : MEx := fun ρ => (mTest m ρ).bind fun r => if r.1 = true then n r.2 else .ok (.d (.bool false), r.2)
def mOrV (m n : MEx) : MEx := fun ρ => (mTest m ρ).bind fun r => if r.1 = true then .ok (.d (.bool true), r.2) else n r.2
def mNotV (m : MEx) : MEx := fun ρ => (mTest m ρ).bind fun r => .ok (.d (.bool (!r.1)), r.2)
theorem StR.pushC {K : PySem.W.Frag} {c : C0} {H : Hp} {sl : List (Option V)} {ρ : Env} {v : V} {x : PyData} (h : StR K c H sl ρ) (f : ∀ F H, Fz K F H v x) : StR K c H (some v :: sl) (some (.d x) :: ρ) := let ⟨A, w⟩ := h; ⟨A, w.pushD (f _ _)⟩
/-- a bool on top is known -/
theorem StR.topB {K : PySem.W.Frag} {c : C0} {H : Hp} {sl : List (Option V)} {ρ : Env} {v : V} {b : Bool} (h : StR K c H (some v :: sl) (some (.d (.bool b)) :: ρ)) : v = .bl b ∧ StR K c H sl ρ := by
  obtain ⟨A, w⟩ := h
  obtain ⟨f, w'⟩ := w.topD
  cases f
  exact ⟨rfl, A, w'⟩
theorem sim_boolean {K : PySem.W.Frag} {g : Bool} (s : SimE K E g te m) {c : C0} {H : Hp} {tv : List (Option V)} {td : Env} {σ : L2.St} {ρ : Env} (hl : tv.length = td.length) (st : StR K c H (tv ++ σ) (td ++ ρ)) {Q : VK}
    (q : Then (mTest m ρ) (fun r => ∀ H', (g = true → Same H H') → StR K c H' (tv ++ σ) (td ++ r.2) → Q (.bl r.1) H') (fun x => ∀ H', KeepC c H' → E x H')) : te σ H Q := by
  unfold mTest at q
  rw [then_bind] at q
  refine s c H tv td σ ρ hl st _ (q.imp ?_)
  rintro ⟨t, ρ1⟩ q1 v H1 sm st1
  dsimp only at q1
  split at q1
  · obtain ⟨rfl, st2⟩ := st1.topB
    exact q1 H1 sm st2
  · exact q1.elim
theorem qe_and {rest : List Expr} (h : QE X E g1 a ta ma) (h2 : QE X E g2 (.BoolOp .And (b :: rest) pos) tb mb) : QE X E (g1 && g2) (.BoolOp .And (a :: b :: rest) pos) (tAndV ta tb) (mAndV ma mb) := by
  refine ⟨pe_and h.pe h2.pe, fun c H tv td σ ρ hl st Q q => ?_⟩
  unfold mAndV at q
  rw [then_bind] at q
  refine sim_boolean h.sim hl st (q.imp ?_)
  rintro ⟨k, ρ1⟩ q1 H1 sm st1
  refine ⟨k, rfl, ?_⟩
  cases k with
  | true => exact h2.sim c H1 tv td σ ρ1 hl st1 Q (q1.imp fun r q2 v H2 sm2 st2 => q2 v H2 (fun e => by rw [Bool.and_eq_true] at e; exact (sm e.1).trans (sm2 e.2)) st2)
  | false => exact q1 _ H1 (fun e => by rw [Bool.and_eq_true] at e; exact sm e.1) (st1.pushC fun _ _ => .bl false)
theorem qe_or {rest : List Expr} (h : QE X E g1 a ta ma) (h2 : QE X E g2 (.BoolOp .Or (b :: rest) pos) tb mb) : QE X E (g1 && g2) (.BoolOp .Or (a :: b :: rest) pos) (tOrV ta tb) (mOrV ma mb) := by
  refine ⟨pe_or h.pe h2.pe, fun c H tv td σ ρ hl st Q q => ?_⟩
  unfold mOrV at q
  rw [then_bind] at q
  refine sim_boolean h.sim hl st (q.imp ?_)
  rintro ⟨k, ρ1⟩ q1 H1 sm st1
  refine ⟨k, rfl, ?_⟩
  cases k with
  | false => exact h2.sim c H1 tv td σ ρ1 hl st1 Q (q1.imp fun r q2 v H2 sm2 st2 => q2 v H2 (fun e => by rw [Bool.and_eq_true] at e; exact (sm e.1).trans (sm2 e.2)) st2)
  | true => exact q1 _ H1 (fun e => by rw [Bool.and_eq_true] at e; exact sm e.1) (st1.pushC fun _ _ => .bl true)
theorem qe_one {op : BoolOp} (h : QE X E g1 a ta ma) : QE X E g1 (.BoolOp op [a] pos) ta ma := ⟨pe_one h.pe, h.sim⟩
theorem qe_not (h : QE X E g1 a ta ma) : QE X E g1 (.UnaryOp .Not a pos) (tNotV ta) (mNotV ma) := by
  refine ⟨pe_not h.pe, fun c H tv td σ ρ hl st Q q => ?_⟩
  unfold mNotV at q
  rw [then_bind] at q
  refine sim_boolean h.sim hl st (q.imp ?_)
  rintro ⟨k, ρ1⟩ q1 H1 sm st1
  exact ⟨k, rfl, q1 _ H1 sm (st1.pushC fun _ _ => .bl _)⟩
theorem qe_if (h : QT X E c' tt mt) (h1 : QE X E g1 a ta ma) (h2 : QE X E g2 b tb mb) : QE X E false (.IfExp c' a b pos) (tIf tt ta tb) (mIf mt ma mb) := by
  refine ⟨pe_ifExp h.pt h1.pe h2.pe, fun c H tv td σ ρ hl st Q q => ?_⟩
  unfold mIf at q
  rw [then_bind] at q
  refine h.sim c H tv td σ ρ hl st _ (q.imp ?_)
  rintro ⟨k, ρ1⟩ q1 H1 st1
  cases k with
  | true => exact h1.sim.weak c H1 tv td σ ρ1 hl st1 Q (q1.imp fun r q2 v H2 _ st2 => q2 v H2 (fun z => by cases z) st2)
  | false => exact h2.sim.weak c H1 tv td σ ρ1 hl st1 Q (q1.imp fun r q2 v H2 _ st2 => q2 v H2 (fun z => by cases z) st2)
/-- frozen -/
def mFz (m : MEx) : MEx := fun ρ => (m ρ).bind fun r => match r.1.fz with | some x => .ok (.d x, r.2) | none => .bad
theorem StW.freezeTop {K : PySem.W.Frag} {c : C0} {H : Hp} {sl : List (Option V)} {ρ : Env} {A : List Addr} {v : V} {t : T} {x : PyData} (w : StW K c H (some v :: sl) (some t :: ρ) A) (e : t.fz = some x) : StR K c H (some v :: sl) (some (.d x) :: ρ) := by
  obtain ⟨A1, B, eA, r, s⟩ := w.top
  have hB : ∀ a, B.count a ≤ A.count a := fun a => by rw [eA, List.count_append]; omega
  have own1 : ∀ a ∈ A1, Fok c B a := fun a ha => by
    have h1 := List.count_pos_iff.mpr ha
    have h3 := w.uniq a
    rw [eA, List.count_append] at h3
    refine ⟨?_, fun z => ?_⟩
    · rcases w.own a (by rw [eA]; exact List.mem_append_left _ ha) with z | z
      · exact .inr (.inr z)
      · exact .inr (.inl z)
    · have := List.count_pos_iff.mpr z
      omega
  have f := r.freeze (fun a _ => Fok.sub hB a) own1 e
  have w' : StW K c H sl ρ B := ⟨fun a => Nat.le_trans (hB a) (w.uniq a), s.mono (.sub fun a _ => Fok.sub hB a) fun _ _ => rfl, fun a ha => w.own a (by rw [eA]; exact List.mem_append_right _ ha), w.keep⟩
  exact ⟨B, w'.pushD f⟩
theorem QE.fz (h : QE X E g1 e te m) : QE X E g1 e te (mFz m) := by
  refine ⟨h.pe, fun c H tv td σ ρ hl st Q q => ?_⟩
  unfold mFz at q
  rw [then_bind] at q
  refine h.sim c H tv td σ ρ hl st _ (q.imp ?_)
  rintro ⟨t, ρ1⟩ q1 v H1 sm st1
  dsimp only at q1
  cases e1 : t.fz with
  | none => rw [e1] at q1; exact q1.elim
  | some x =>
    rw [e1] at q1
    obtain ⟨A, w⟩ := st1
    exact q1 v H1 sm (w.freezeTop e1)
end

/-! ### statements -/
inductive Out where
  | next (ρ : Env) | ret (t : T) (ρ : Env) | brk (ρ : Env) | cont (ρ : Env)
abbrev MS := Env → R Out
structure SameIo (io : List Nat) (σ σ' : L2.St) : Prop where
  len : σ'.length = σ.length
  same : ∀ i ∈ io, σ'[i]? = σ[i]?
theorem SameIo.refl {io : List Nat} {σ : L2.St} : SameIo io σ σ := ⟨rfl, fun _ _ => rfl⟩
theorem SameIo.trans {io : List Nat} {σ σ1 σ2 : L2.St} (a : SameIo io σ σ1) (b : SameIo io σ1 σ2) : SameIo io σ σ2 := ⟨b.len.trans a.len, fun i h => (b.same i h).trans (a.same i h)⟩
theorem SameIo.set {io : List Nat} {σ : L2.St} {i : Nat} {o : Option V} (h : io.contains i = false) : SameIo io σ (σ.set i o) := ⟨by simp, fun j hj => by
  have e : i ≠ j := fun z => by
    subst z
    rw [List.contains_eq_mem] at h
    simp [hj] at h
  rw [List.getElem?_set_ne e]⟩
def OutTo (K : PySem.W.Frag) (c : C0) (tv : List (Option V)) (td : Env) (io : List Nat) (σ : L2.St) (D : Ends) : Out → Prop
  | .next ρ' => ∀ σ' H', SameIo io σ σ' → StR K c H' (tv ++ σ') (td ++ ρ') → D.nx σ' H'
  | .ret t ρ' => ∀ v σ' H', SameIo io σ σ' → StR K c H' (some v :: (tv ++ σ')) (some t :: (td ++ ρ')) → D.rt v H'
  | .brk ρ' => ∀ σ' H', SameIo io σ σ' → StR K c H' (tv ++ σ') (td ++ ρ') → D.bk σ' H'
  | .cont ρ' => ∀ σ' H', SameIo io σ σ' → StR K c H' (tv ++ σ') (td ++ ρ') → D.ct σ' H'
theorem OutTo.from {K : PySem.W.Frag} {c : C0} {tv : List (Option V)} {td : Env} {io : List Nat} {σ σ1 : L2.St} {D : Ends} {o : Out} (s : SameIo io σ σ1) (h : OutTo K c tv td io σ D o) : OutTo K c tv td io σ1 D o := by
  cases o with
  | next ρ => exact fun σ' H' s' st => h σ' H' (s.trans s') st
  | ret t ρ => exact fun v σ' H' s' st => h v σ' H' (s.trans s') st
  | brk ρ => exact fun σ' H' s' st => h σ' H' (s.trans s') st
  | cont ρ => exact fun σ' H' s' st => h σ' H' (s.trans s') st
def SimS (K : PySem.W.Frag) (E : Str → Hp → Prop) (io : List Nat) (ts : TS) (m : MS) : Prop :=
  ∀ (c : C0) (H : Hp) (tv : List (Option V)) (td : Env) (σ : L2.St) (ρ : Env), tv.length = td.length → StR K c H (tv ++ σ) (td ++ ρ) → ∀ D : Ends,
    Then (m ρ) (OutTo K c tv td io σ D) (fun x => ∀ H', KeepC c H' → E x H') → ts D σ H
structure QS (X : Cx) (E : Str → Hp → Prop) (io : List Nat) (s : Stmt) (ts : TS) (m : MS) : Prop where
  ps : PS X s ts
  sim : SimS X.K E io ts m
structure QSs (X : Cx) (E : Str → Hp → Prop) (io : List Nat) (s : List Stmt) (ts : TS) (m : MS) : Prop where
  ps : PSs X s ts
  sim : SimS X.K E io ts m
/-- at a def's own level: nothing lies on the stack of temporaries -/
def SimS0 (K : PySem.W.Frag) (E : Str → Hp → Prop) (io : List Nat) (ts : TS) (m : MS) : Prop :=
  ∀ (c : C0) (H : Hp) (σ : L2.St) (ρ : Env), StR K c H σ ρ → ∀ D : Ends,
    Then (m ρ) (OutTo K c [] [] io σ D) (fun x => ∀ H', KeepC c H' → E x H') → ts D σ H
theorem SimS.z {K : PySem.W.Frag} {E : Str → Hp → Prop} {io : List Nat} {ts : TS} {m : MS} (h : SimS K E io ts m) : SimS0 K E io ts m := fun c H σ ρ st D q => h c H [] [] σ ρ rfl st D q
structure QSs0 (X : Cx) (E : Str → Hp → Prop) (io : List Nat) (s : List Stmt) (ts : TS) (m : MS) : Prop where
  ps : PSs X s ts
  sim : SimS0 X.K E io ts m
structure QS0 (X : Cx) (E : Str → Hp → Prop) (io : List Nat) (s : Stmt) (ts : TS) (m : MS) : Prop where
  ps : PS X s ts
  sim : SimS0 X.K E io ts m
theorem QSs.z {X : Cx} {E : Str → Hp → Prop} {io : List Nat} {s : List Stmt} {ts : TS} {m : MS} (h : QSs X E io s ts m) : QSs0 X E io s ts m := ⟨h.ps, h.sim.z⟩
theorem QS.z {X : Cx} {E : Str → Hp → Prop} {io : List Nat} {s : Stmt} {ts : TS} {m : MS} (h : QS X E io s ts m) : QS0 X E io s ts m := ⟨h.ps, h.sim.z⟩
def mNext : MS := fun ρ => .ok (.next ρ)
def mSeq (m n : MS) : MS := fun ρ => (m ρ).bind fun o => match o with | .next ρ1 => n ρ1 | o => .ok o
def mRet (m : MEx) : MS := fun ρ => (m ρ).bind fun r => .ok (.ret r.1 r.2)
def mDrop (m : MEx) : MS := fun ρ => (m ρ).bind fun r => .ok (.next r.2)
def mIfS (m : MT) (a b : MS) : MS := fun ρ => (m ρ).bind fun r => if r.1 = true then a r.2 else b r.2
def mBrk : MS := fun ρ => .ok (.brk ρ)
def mCont : MS := fun ρ => .ok (.cont ρ)
section
variable {X : Cx} {E : Str → Hp → Prop} {io : List Nat} {e a b c' : Expr} {st : Stmt} {rest : List Stmt} {te ta tb : TE} {tt tu : TT} {t u : TS} {m ma mb : MEx} {mt mu : MT} {ms mr : MS} {g1 g2 : Bool} {pos : Pos}
theorem sim_next {K : PySem.W.Frag} : SimS K E io tNext mNext := fun c H tv td σ ρ hl st D q => q σ H .refl st
theorem qss_nil : QSs X E io [] tNext mNext := ⟨pss_nil, sim_next⟩
theorem sim_seq {K : PySem.W.Frag} (s1 : SimS K E io t ms) (s2 : SimS K E io u mr) : SimS K E io (tSeq t u) (mSeq ms mr) := by
  intro c H tv td σ ρ hl st D q
  unfold mSeq at q
  rw [then_bind] at q
  refine s1 c H tv td σ ρ hl st { D with nx := u D } (q.imp ?_)
  intro o q1
  cases o with
  | next ρ1 => exact fun σ' H' s' st' => s2 c H' tv td σ' ρ1 hl st' D (q1.imp fun o' z => z.from s')
  | ret t ρ1 => exact q1
  | brk ρ1 => exact q1
  | cont ρ1 => exact q1
theorem qss_cons (h : QS X E io st t ms) (h2 : QSs X E io rest u mr) : QSs X E io (st :: rest) (tSeq t u) (mSeq ms mr) := ⟨pss_cons h.ps h2.ps, sim_seq h.sim h2.sim⟩
theorem qss0_cons (h : QS0 X E io st t ms) (h2 : QSs0 X E io rest u mr) : QSs0 X E io (st :: rest) (tSeq t u) (mSeq ms mr) := ⟨pss_cons h.ps h2.ps, by
  intro c H σ ρ st D q
  unfold mSeq at q
  rw [then_bind] at q
  refine h.sim c H σ ρ st { D with nx := u D } (q.imp ?_)
  intro o q1
  cases o with
  | next ρ1 => exact fun σ' H' s' st' => h2.sim c H' σ' ρ1 st' D (q1.imp fun o' z => z.from s')
  | ret t ρ1 => exact q1
  | brk ρ1 => exact q1
  | cont ρ1 => exact q1⟩
theorem qss0_one (h : QS0 X E io st t ms) : QSs0 X E io [st] t ms := ⟨pss_one h.ps, h.sim⟩
theorem qss_one (h : QS X E io st t ms) : QSs X E io [st] t ms := ⟨pss_one h.ps, h.sim⟩
theorem qs_pass : QS X E io (.Pass pos) tNext mNext := ⟨ps_pass, sim_next⟩
theorem qs_brk : QS X E io (.Break pos) tBreak mBrk := ⟨ps_break, fun c H tv td σ ρ hl st D q => q σ H .refl st⟩
theorem qs_cont : QS X E io (.Continue pos) tCont mCont := ⟨ps_continue, fun c H tv td σ ρ hl st D q => q σ H .refl st⟩
theorem qs_ret (h : QE X E g1 e te m) : QS X E io (.Return (some e) pos) (tRet te) (mRet m) := by
  refine ⟨ps_ret h.pe, fun c H tv td σ ρ hl st D q => ?_⟩
  unfold mRet at q
  rw [then_bind] at q
  exact h.sim c H tv td σ ρ hl st _ (q.imp fun r q1 v H1 _ st1 => q1 v σ H1 .refl st1)
theorem qs_expr (h : QE X E g1 e te m) (hs : swapsWith e none pos.line X.env = pure false := by rfl) : QS X E io (.Expr e pos) (tDrop te) (mDrop m) := by
  refine ⟨ps_expr h.pe hs, fun c H tv td σ ρ hl st D q => ?_⟩
  unfold mDrop at q
  rw [then_bind] at q
  exact h.sim c H tv td σ ρ hl st _ (q.imp fun r q1 v H1 _ st1 => q1 σ H1 .refl st1.drop)
theorem qs_if {p q' : List Stmt} (h : QT X E c' tt mt) (h1 : QSs X E io p t ms) (h2 : QSs X E io q' u mr) : QS X E io (.If c' p q' pos) (tIfS tt t u) (mIfS mt ms mr) := by
  refine ⟨ps_if h.pt h1.ps h2.ps, fun c H tv td σ ρ hl st D q => ?_⟩
  unfold mIfS at q
  rw [then_bind] at q
  refine h.sim c H tv td σ ρ hl st _ (q.imp ?_)
  rintro ⟨k, ρ1⟩ q1 H1 st1
  cases k with
  | true => exact h1.sim c H1 tv td σ ρ1 hl st1 D q1
  | false => exact h2.sim c H1 tv td σ ρ1 hl st1 D q1
/-- what the proof never comes to -/
def mNever : MS := fun _ => .bad
theorem qs_never : QS X E io st tNever mNever := ⟨ps_never, fun c H tv td σ ρ hl st D q => q.elim⟩

/-! ### targets: pr tells which slots stay -/
structure SameP (pr : Nat → Bool) (σ σ' : L2.St) : Prop where
  len : σ'.length = σ.length
  same : ∀ i, pr i = true → σ'[i]? = σ[i]?
theorem SameP.refl {pr : Nat → Bool} {σ : L2.St} : SameP pr σ σ := ⟨rfl, fun _ _ => rfl⟩
theorem SameP.trans {pr : Nat → Bool} {σ σ1 σ2 : L2.St} (a : SameP pr σ σ1) (b : SameP pr σ1 σ2) : SameP pr σ σ2 := ⟨b.len.trans a.len, fun i h => (b.same i h).trans (a.same i h)⟩
theorem SameP.set {pr : Nat → Bool} {σ : L2.St} {i : Nat} {o : Option V} (h : pr i = false) : SameP pr σ (σ.set i o) := ⟨by simp, fun j hj => by
  have e : i ≠ j := fun z => by
    subst z
    rw [h] at hj
    cases hj
  rw [List.getElem?_set_ne e]⟩
abbrev inIo (io : List Nat) : Nat → Bool := fun i => io.contains i
theorem SameP.toIo {io : List Nat} {σ σ' : L2.St} (h : SameP (inIo io) σ σ') : SameIo io σ σ' := ⟨h.len, fun i hi => h.same i (by show io.contains i = true; rw [List.contains_eq_mem]; exact decide_eq_true hi)⟩
variable {pr : Nat → Bool}
abbrev MG := T → Env → Option Env
def SimG (K : PySem.W.Frag) (pr : Nat → Bool) (tg : TG) (m : MG) : Prop :=
  ∀ (c : C0) (H : Hp) (tv : List (Option V)) (td : Env) (σ : L2.St) (ρ ρ' : Env) (v : V) (t : T), tv.length = td.length → StR K c H (some v :: (tv ++ σ)) (some t :: (td ++ ρ)) → m t ρ = some ρ' → ∀ Q : L2.St → Hp → Prop,
    (∀ σ' H', SameP pr σ σ' → StR K c H' (tv ++ σ') (td ++ ρ') → Q σ' H') → tg v σ H Q
structure QG (X : Cx) (pr : Nat → Bool) (e : Expr) (tg : TG) (m : MG) : Prop where
  pg : PG X e tg
  sim : SimG X.K pr tg m
def mgName (i : Nat) : MG := fun t ρ => some (ρ.set i (some t))
theorem StR.store {K : PySem.W.Frag} {c : C0} {H : Hp} {tv : List (Option V)} {td : Env} {σ : L2.St} {ρ : Env} {v : V} {t : T} {i : Nat} (hl : tv.length = td.length) (h : StR K c H (some v :: (tv ++ σ)) (some t :: (td ++ ρ))) : StR K c H (tv ++ σ.set i (some v)) (td ++ ρ.set i (some t)) := by
  obtain ⟨A, w⟩ := h
  obtain ⟨A1, B, eA, r, s⟩ := w.top
  have hlen : (tv ++ σ).length = (td ++ ρ).length := s.len
  by_cases hi : i < σ.length
  · obtain ⟨B1, hb, ar, _⟩ := s.around (i := tv.length + i) (by rw [List.length_append]; omega)
    obtain ⟨C, s', z⟩ := ar.put (Mono.sub fun _ _ x => x) (fun _ _ => rfl) r
    rw [app_set rfl, app_set hl.symm] at s'
    refine ⟨C, w.remake (fun a => ?_) s'⟩
    rw [z a, eA, List.count_append]
    have := hb a
    omega
  · have hi2 : ¬ i < ρ.length := by
      rw [List.length_append, List.length_append] at hlen; omega
    rw [List.set_eq_of_length_le (by omega), List.set_eq_of_length_le (by omega)]
    exact ⟨B, w.remake (fun a => by rw [eA, List.count_append]; omega) s⟩
theorem sim_gname {K : PySem.W.Frag} {i : Nat} (hio : pr i = false) : SimG K pr (gName i) (mgName i) := by
  intro c H tv td σ ρ ρ' v t hl st e Q q
  cases e
  exact q _ H (.set hio) (st.store hl)
theorem qg_name {i : Nat} {x : Str} (hN : X.N.Nodup) (hi : X.N[i]? = some x := by rfl) (hx : Loc X.env.scope x := by first | exact Or.inl rfl | exact Or.inr rfl) (hio : pr i = false := by rfl) (hf : X.fn x = true ∨ X.env.scope.names.lookup x = some .local := by first | exact .inl rfl | exact .inr rfl | assumption) : QG X pr (.Name x pos) (gName i) (mgName i) :=
  ⟨pg_name hN hi hx hf, sim_gname hio⟩
def mAsg (m : MEx) (g : MG) : MS := fun ρ => (m ρ).bind fun r => (ofO (g r.1 r.2)).bind fun ρ' => .ok (.next ρ')
theorem sim_asg {K : PySem.W.Frag} {g : TG} {mg : MG} (s : SimE K E g1 te m) (sg : SimG K (inIo io) g mg) : SimS K E io (tAsg te g) (mAsg m mg) := by
  intro c H tv td σ ρ hl st D q
  unfold mAsg at q
  rw [then_bind] at q
  refine s c H tv td σ ρ hl st _ (q.imp ?_)
  intro r q1 v H1 _ st1
  obtain ⟨ρ', e, q2⟩ := then_ofO.mp (then_bind.mp q1)
  exact sg c H1 tv td σ r.2 ρ' v r.1 hl st1 e _ fun σ' H' s st' => q2 σ' H' s.toIo st'
theorem qs_set {i : Nat} {x : Str} {pos' : Pos} (hN : X.N.Nodup) (he : QE X E g1 e te m) (hi : X.N[i]? = some x := by rfl) (hx : Loc X.env.scope x := by first | exact Or.inl rfl | exact Or.inr rfl) (hs : swapsWith e (some (.Name x pos')) pos.line X.env = pure false := by rfl) (hio : inIo io i = false := by rfl)
    (hf : X.fn x = true ∨ X.env.scope.names.lookup x = some .local := by first | exact .inl rfl | exact .inr rfl | assumption) : QS X E io (.Assign [.Name x pos'] e pos) (tAsg te (gName i)) (mAsg m (mgName i)) := ⟨ps_set hN hi hx he.pe hs hf, sim_asg he.sim (sim_gname hio)⟩
theorem qs_asg {tg : Expr} {g : TG} {mg : MG} (he : QE X E g1 e te m) (hg : QG X (inIo io) tg g mg) (hs : swapsWithSole [tg] e pos.line X.env = pure false := by rfl) (hw : swappedStores [tg] e X.env = pure none := by rfl)
    (h1 : (assignEach [tg] X.env).map (·.2) = [assign tg X.env] := by rfl) : QS X E io (.Assign [tg] e pos) (tAsg te g) (mAsg m mg) := ⟨ps_asg he.pe hg.pg hs hw h1, sim_asg he.sim hg.sim⟩
/-! several -/
abbrev MGs := List T → Env → Option Env
def SimGs (K : PySem.W.Frag) (pr : Nat → Bool) (tg : TGs) (m : MGs) : Prop :=
  ∀ (c : C0) (H : Hp) (tv : List (Option V)) (td : Env) (σ : L2.St) (ρ ρ' : Env) (vs : List V) (ts : List T), tv.length = td.length → vs.length = ts.length → StR K c H (vs.map some ++ (tv ++ σ)) (ts.map some ++ (td ++ ρ)) → m ts ρ = some ρ' → ∀ Q : L2.St → Hp → Prop,
    (∀ σ' H', SameP pr σ σ' → StR K c H' (tv ++ σ') (td ++ ρ') → Q σ' H') → tg vs σ H Q
structure QGs (X : Cx) (pr : Nat → Bool) (es : List Expr) (tg : TGs) (m : MGs) : Prop where
  pg : PGs X es tg
  sim : SimGs X.K pr tg m
def mgNil : MGs := fun ts ρ => if ts.isEmpty then some ρ else none
def mgCons (g : MG) (r : MGs) : MGs := fun ts ρ => match ts with | t :: ts => (g t ρ).bind fun ρ1 => r ts ρ1 | [] => none
theorem qgs_nil : QGs X pr [] gNil mgNil := by
  refine ⟨pgs_nil, fun c H tv td σ ρ ρ' vs ts hl hv st e Q q => ?_⟩
  unfold mgNil at e
  cases ts with
  | nil =>
    cases vs with
    | nil => cases e; exact ⟨rfl, q σ H .refl st⟩
    | cons _ _ => simp at hv
  | cons _ _ => cases e
theorem qgs_cons {es : List Expr} {tg : TG} {tgs : TGs} {g : MG} {r : MGs} (h : QG X pr e tg g) (h2 : QGs X pr es tgs r) (hs : (assignEach (e :: es) X.env).map (·.2) = assign e X.env :: (assignEach es X.env).map (·.2) := by rfl) : QGs X pr (e :: es) (gCons tg tgs) (mgCons g r) := by
  refine ⟨pgs_cons h.pg h2.pg hs, fun c H tv td σ ρ ρ' vs ts hl hv st e Q q => ?_⟩
  cases ts with
  | nil => cases e
  | cons t ts =>
    cases vs with
    | nil => simp at hv
    | cons v vs =>
      obtain ⟨ρ1, e1, e2⟩ := Option.bind_eq_some_iff.mp e
      have hv' : vs.length = ts.length := by simpa using hv
      refine ⟨v, vs, rfl, ?_⟩
      refine h.sim c H (vs.map some ++ tv) (ts.map some ++ td) σ ρ ρ1 v t (by simp [hl, hv']) (by simpa using st) e1 _ fun σ1 H1 s1 st1 => ?_
      exact h2.sim c H1 tv td σ1 ρ1 ρ' vs ts hl hv' (by simpa using st1) e2 Q fun σ2 H2 s2 st2 => q σ2 H2 (s1.trans s2) st2
def T.parts : T → Option (List T)
  | .d (.tuple ds) => some (ds.map T.d)
  | .ot ts => some ts
  | _ => none
def mgTup (n : Nat) (r : MGs) : MG := fun t ρ => match t.parts with | some ts => if ts.length = n then r ts ρ else none | none => none
section
variable {K : PySem.W.Frag} {F : Addr → Prop} {H : Hp}
theorem Sl.many : ∀ {vs : List V} {ts : List T} {A B : List Addr} {sl : List (Option V)} {ρ : Env}, RpAll K F H vs ts A → Sl K F H sl ρ B → Sl K F H (vs.map some ++ sl) (ts.map some ++ ρ) (A ++ B)
  | _, _, _, _, _, _, .nil, s => s
  | _, _, _, _, _, _, .cons x r, s => by
    rw [List.append_assoc]
    exact .cons x (Sl.many r s)
theorem Rp.parts {v : V} {t : T} {ts : List T} {A : List Addr} (h : Rp K F H v t A) (e : t.parts = some ts) : ∃ a vs, v = .ref a ∧ SqT K H a vs ∧ RpAll K F H vs ts A := by
  unfold T.parts at e
  split at e
  · cases e
    cases h with
    | d h =>
      cases h with
      | tup h f => exact ⟨_, _, rfl, h, RpAll.ofFz f⟩
  · cases e
    cases h with
    | ot h r => exact ⟨_, _, rfl, .of h, r⟩
  · cases e
end
theorem qg_tup {es : List Expr} {k : Nat} {tgs : TGs} {r : MGs} (hc : X.calm = true) (h : QGs X pr es tgs r) {n : Nat} (hn : (assignEach es X.env).length = n := by rfl) (hst : (assignEach es X.env).findIdx? (·.1) = none := by rfl) : QG X pr (.Tuple es k pos) (gTup X.K n tgs) (mgTup n r) := by
  refine ⟨pg_tup hc h.pg hn hst, fun c H tv td σ ρ ρ' v t hl st e Q q => ?_⟩
  unfold mgTup at e
  cases ep : t.parts with
  | none => rw [ep] at e; cases e
  | some ts =>
    rw [ep] at e
    dsimp only at e
    split at e
    · rename_i hlen
      obtain ⟨A, w⟩ := st
      obtain ⟨A1, B, eA, x, s⟩ := w.top
      obtain ⟨a, vs, rfl, hq, ra⟩ := x.parts ep
      have hvt := ra.len
      refine ⟨a, vs, rfl, hq, by omega, ?_⟩
      exact h.sim c H tv td σ ρ ρ' vs ts hl hvt ⟨A1 ++ B, w.remake (fun b => by rw [eA]; exact Nat.le_refl _) (Sl.many ra s)⟩ e Q q
    · cases e
end
end L3
/-! L3f -/
/-! L3f: defs and their calls. -/
namespace L3
open PySem PySem.Spec PyProof.Rows L2

section
variable {K : PySem.W.Frag} {F F' : Addr → Prop} {H H' : Hp}
theorem Sl.raiseO : ∀ {xs : List (Option V)} {as : Env} {ys : List (Option V)} {bs : Env} {v : Option V} {t : Option T} {A : List Addr}, xs.length = as.length → Sl K F H (xs ++ v :: ys) (as ++ t :: bs) A →
    ∃ C, Sl K F H (v :: (xs ++ ys)) (t :: (as ++ bs)) C ∧ ∀ a, C.count a = A.count a
  | [], [], _, _, _, _, A, _, h => ⟨A, h, fun _ => rfl⟩
  | o :: xs, a :: as, ys, bs, v, t, _, hl, h => by
    have hl' : xs.length = as.length := by simpa using hl
    cases h with
    | skip r =>
      obtain ⟨C, s, z⟩ := r.raiseO hl'
      cases s with
      | cons x s => exact ⟨_, .cons x (.skip s), z⟩
      | skip s => exact ⟨_, .skip (.skip s), z⟩
    | cons y r =>
      rename_i u t0 A1 B1
      obtain ⟨C, s, z⟩ := r.raiseO hl'
      cases s with
      | cons x s =>
        rename_i A2 B2
        exact ⟨_, .cons x (.cons y s), fun a => by have := z a; simp only [List.count_append] at this ⊢; omega⟩
      | skip s => exact ⟨_, .skip (.cons y s), fun a => by have := z a; simp only [List.count_append] at this ⊢; omega⟩
  | [], _ :: _, _, _, _, _, _, hl, _ => by simp at hl
  | _ :: _, [], _, _, _, _, _, hl, _ => by simp at hl
end

/-! ### what a def promises -/
def sel (io : List Nat) (vs : List V) : List V := io.filterMap fun i => vs[i]?
structure KeepF (H H' : Hp) (A : List Addr) : Prop where
  keep : ∀ a o, H a = some o → a ∉ A → H' a = some o
  there : ∀ a, H' a = none → H a = none
def EX (cl : Str → Option Addr) (E : XK) : Str → Hp → Prop := fun x H' => ∀ C, cl x = some C → E (.ref C) none H'
def spT (K : PySem.W.Frag) (rz : Bool) (cl : Str → Option Addr) (n : Nat) (io : List Nat) (m : List T → R (T × List T)) : Sp := fun vs H Q E => ∃ (ts : List T) (F : Addr → Prop) (A : List Addr), vs.length = n ∧ (∀ a, A.count a ≤ 1) ∧ RpAll K (fun a => F a ∧ a ∉ A) H vs ts A ∧
  Then (m ts) (fun r => ∀ v H' A', (∀ a, A'.count a ≤ 1) → (∀ a ∈ A', a ∈ A ∨ H a = none) → KeepF H H' A → (io = [] → A = [] → Same H H') → RpAll K (fun a => (F a ∨ H a = none ∨ a ∈ A) ∧ a ∉ A') H' (v :: sel io vs) (r.1 :: r.2) A' → Q v H') (fun x => rz = true ∧ ∀ H', KeepF H H' A → EX cl E x H')
def outs : List Nat → Env → R (List T)
  | [], _ => .ok []
  | i :: r, ρ => match ρ[i]? with
    | some (some t) => (outs r ρ).bind fun os => .ok (t :: os)
    | _ => .bad
def mFn (io : List Nat) (k : Nat) (ms : MS) : List T → R (T × List T) := fun ts => (ms (ts.map some ++ List.replicate k none)).bind fun o => match o with
  | .ret t ρ => (outs io ρ).bind fun os => .ok (t, os)
  | .next ρ => (outs io ρ).bind fun os => .ok (.d .none, os)
  | _ => .bad
section
variable {K : PySem.W.Frag} {F F' : Addr → Prop} {H H' : Hp}
theorem outs_cons {i : Nat} {r : List Nat} {ρ : Env} {os : List T} (e : outs (i :: r) ρ = .ok os) : ∃ t os', ρ[i]? = some (some t) ∧ outs r ρ = .ok os' ∧ os = t :: os' := by
  unfold outs at e
  split at e
  · rename_i t e0
    cases e1 : outs r ρ with
    | ok os' => rw [e1] at e; cases e; exact ⟨t, os', e0, rfl, rfl⟩
    | exc _ => rw [e1] at e; cases e
    | bad => rw [e1] at e; cases e
  · cases e
theorem outs_gone {i : Nat} : ∀ {r : List Nat} {ρ : Env} {os : List T}, i ∉ r → outs r ρ = .ok os → outs r (ρ.set i none) = .ok os
  | [], _, _, _, e => e
  | j :: r, ρ, os, h, e => by
    obtain ⟨t, os', e1, e2, rfl⟩ := outs_cons e
    have hj : i ≠ j := fun z => h (by rw [z]; exact List.mem_cons_self)
    have e3 := outs_gone (fun z => h (List.mem_cons_of_mem _ z)) e2
    unfold outs
    rw [List.getElem?_set_ne hj, e1]
    dsimp only
    rw [e3]
    rfl
/-- the named slots picked out -/
theorem Sl.pick {us : List V} : ∀ {io : List Nat} {sl : List (Option V)} {ρ : Env} {A : List Addr} {os : List T}, io.Nodup → (∀ i ∈ io, ∃ v, us[i]? = some v ∧ sl[i]? = some (some v)) → Sl K F H sl ρ A → outs io ρ = .ok os →
    ∃ A1 B, RpAll K F H (sel io us) os A1 ∧ ∀ a, A1.count a + List.count a B = A.count a
  | [], _, _, A, _, _, _, s, e => by cases e; exact ⟨[], A, .nil, fun a => by simp⟩
  | i :: io, sl, ρ, A, os, nd, hv, s, e => by
    obtain ⟨t, os', e1, e2, rfl⟩ := outs_cons e
    obtain ⟨v, hv1, hv2⟩ := hv i List.mem_cons_self
    have hi : i < sl.length := (List.getElem?_eq_some_iff.mp hv2).1
    obtain ⟨B, hb, ar, get⟩ := s.around hi
    obtain ⟨v', A1, e3, x, hc⟩ := get t e1
    have ev : v' = v := by rw [hv2] at e3; cases e3; rfl
    subst ev
    obtain ⟨C, s', z⟩ := ar.gone (some v')
    have hnd := List.nodup_cons.mp nd
    rw [set_self hv2] at s'
    obtain ⟨A2, B2, ra, hc2⟩ := Sl.pick (us := us) hnd.2 (fun j hj => hv j (List.mem_cons_of_mem _ hj)) s' (outs_gone hnd.1 e2)
    refine ⟨A1 ++ A2, B2, ?_, fun a => ?_⟩
    · have : sel (i :: io) us = v' :: sel io us := by unfold sel; rw [List.filterMap_cons, hv1]
      rw [this]
      exact .cons x ra
    · have h1 := hc a
      have h2 := hc2 a
      have h3 := z a
      rw [List.count_append]
      omega
theorem Sl.nones : ∀ (k : Nat) (sl : List (Option V)), sl.length = k → Sl K F H sl (List.replicate k none) []
  | 0, [], _ => .nil
  | k + 1, o :: sl, h => by
    rw [List.replicate_succ]
    exact .skip (Sl.nones k sl (by simpa using h))
  | 0, _ :: _, h => by simp at h
  | _ + 1, [], h => by simp at h
theorem start_eq (N : List Str) (vs : List V) : start N vs = vs.map some ++ List.replicate (N.length - vs.length) none := rfl
/-- the entry of a body, its end -/
theorem body_run {E : Str → Hp → Prop} {io : List Nat} {tb : TS} {ms : MS} {cl : Str → Option Addr} {N : List Str} {vs : List V} {Q : VK} {Ek : XK} {rz : Bool} {n : Nat} (sm : SimS0 K E io tb ms) (hE : ∀ x H', EX cl Ek x H' → E x H') (hnd : io.Nodup) (hio : ∀ i ∈ io, i < n)
    (h : spT K rz cl n io (mFn io (N.length - n) ms) vs H Q Ek) : tb { nx := fun _ H' => Q .non H', rt := Q } (start N vs) H := by
  obtain ⟨ts, F, A, hn, u, ra, q⟩ := h
  have hts := ra.len
  unfold mFn at q
  rw [then_bind] at q
  have c0 : Sl K (Fok ⟨H, A, F⟩ A) H (start N vs) (ts.map some ++ List.replicate (N.length - n) none) A := by
    rw [start_eq, hn]
    have r2 : RpAll K (Fok ⟨H, A, F⟩ A) H vs ts A := ra.mono (.sub fun a _ ⟨x, y⟩ => ⟨.inl x, y⟩) fun _ _ => rfl
    have := Sl.many r2 (Sl.nones (N.length - n) (List.replicate (N.length - n) none) (by simp))
    rwa [List.append_nil] at this
  have w0 : StW K ⟨H, A, F⟩ H (start N vs) (ts.map some ++ List.replicate (N.length - n) none) A := ⟨u, c0, fun a ha => .inl ha, ⟨fun _ _ e _ => e, fun _ e => e⟩⟩
  refine sm ⟨H, A, F⟩ H (start N vs) _ ⟨A, w0⟩ _ (q.mono ?_ fun x k H' kc => hE _ _ (k.2 H' ⟨kc.keep, kc.there⟩))
  have pickS : ∀ {σ' : L2.St} {H' : Hp} {ρ' : Env} {os : List T} {B : List Addr} {F1 : Addr → Prop}, SameIo io (start N vs) σ' → Sl K F1 H' σ' ρ' B → outs io ρ' = .ok os → ∃ A1 B1, RpAll K F1 H' (sel io vs) os A1 ∧ ∀ a, A1.count a + List.count a B1 = B.count a := by
    intro σ' H' ρ' os B F1 s' sl eo
    refine Sl.pick hnd (fun i hi => ?_) sl eo
    have h1 : i < vs.length := by have := hio i hi; omega
    refine ⟨vs[i], List.getElem?_eq_getElem h1, ?_⟩
    rw [s'.same i hi, start_eq, List.getElem?_append_left (by simpa using h1), List.getElem?_map, List.getElem?_eq_getElem h1]
    rfl
  have fin : ∀ {v : V} {t : T} {σ' : L2.St} {H' : Hp} {ρ' : Env} {os : List T}, SameIo io (start N vs) σ' → StR K ⟨H, A, F⟩ H' (some v :: σ') (some t :: ρ') → outs io ρ' = .ok os →
      (∀ v H' A', (∀ a, A'.count a ≤ 1) → (∀ a ∈ A', a ∈ A ∨ H a = none) → KeepF H H' A → (io = [] → A = [] → Same H H') → RpAll K (fun a => (F a ∨ H a = none ∨ a ∈ A) ∧ a ∉ A') H' (v :: sel io vs) (t :: os) A' → Q v H') → Q v H' := by
    intro v t σ' H' ρ' os s' st eo k
    obtain ⟨A2, w⟩ := st
    obtain ⟨A3, B, eA, x, s⟩ := w.top
    obtain ⟨A4, B4, rr, hc⟩ := pickS s' s eo
    have hle : ∀ a, (A3 ++ A4).count a ≤ A2.count a := fun a => by rw [eA, List.count_append, List.count_append]; have := hc a; omega
    refine k v H' (A3 ++ A4) (fun a => Nat.le_trans (hle a) (w.uniq a)) (fun a ha => ?_) ⟨w.keep.keep, w.keep.there⟩ (fun _ eA0 a o e => w.keep.keep a o e (by rw [eA0]; simp)) ?_
    · exact w.own a (List.count_pos_iff.mp (Nat.lt_of_lt_of_le (List.count_pos_iff.mpr ha) (hle a)))
    · exact (RpAll.cons x rr).mono (.sub fun a _ => Fok.sub hle a) fun _ _ => rfl
  intro o qo
  cases o with
  | ret t ρ' =>
    intro v σ' H' s' st
    cases eo : outs io ρ' with
    | ok os =>
      have qo' : Then ((outs io ρ').bind fun os => R.ok (t, os)) _ _ := qo
      rw [eo] at qo'
      exact fin s' st eo qo'
    | exc _ => have qo' : Then ((outs io ρ').bind fun os => R.ok (t, os)) _ _ := qo; rw [eo] at qo'; exact (outs_noexc eo).elim
    | bad => have qo' : Then ((outs io ρ').bind fun os => R.ok (t, os)) _ _ := qo; rw [eo] at qo'; exact qo'.elim
  | next ρ' =>
    intro σ' H' s' st
    have st2 : StR K ⟨H, A, F⟩ H' (some .non :: σ') (some (.d .none) :: ρ') := st.pushC fun _ _ => .non
    cases eo : outs io ρ' with
    | ok os =>
      have qo' : Then ((outs io ρ').bind fun os => R.ok (T.d .none, os)) _ _ := qo
      rw [eo] at qo'
      exact fin s' st2 eo qo'
    | exc _ => have qo' : Then ((outs io ρ').bind fun os => R.ok (T.d .none, os)) _ _ := qo; rw [eo] at qo'; exact (outs_noexc eo).elim
    | bad => have qo' : Then ((outs io ρ').bind fun os => R.ok (T.d .none, os)) _ _ := qo; rw [eo] at qo'; exact qo'.elim
  | brk ρ' => exact qo.elim
  | cont ρ' => exact qo.elim
where
  outs_noexc {io : List Nat} {ρ : Env} {x : Str} (e : outs io ρ = .exc x) : False := by
    induction io with
    | nil => cases e
    | cons i r ih =>
      unfold outs at e
      split at e
      · cases e1 : outs r ρ with
        | ok os => rw [e1] at e; cases e
        | exc y => rw [e1] at e; cases e; exact ih e1
        | bad => rw [e1] at e; cases e
      · cases e
end
section
variable {P : Program} {w : World} {K : PySem.W.Frag} {mg : Str → Option Value} {base : Heap} {cl : Str → Option Addr}
/-- THE RULE for a def that raises nothing -/
theorem fnT {x qual : Str} {st : Stmt} {f : Addr} {fd : FuncData} {N ps : List Str} {k : Nat} {io : List Nat} {ms : MS} (Fu : Fun K x qual st f fd) (S : FnScope N ps (defScope st)) (hnd : io.Nodup) (hio : ∀ i ∈ io, i < ps.length)
    (body : ∀ (cdv : Value) (A : Around) (outer : List PySem.Env) (s : Shared) (H : Hp) (E : XK), Room k (A.deeper (envOfC qual (defScope st) s.heap.objs.size f cdv)) →
      ∃ t, QSs ((cxOf CX0 P w K mg base N qual (defScope st) f cdv A outer s H E).nox) (EX cl E0) io (defBody st) t ms) : FnOk P w K mg base CX0 (k + 1) f fd ps (spT K false cl ps.length io (mFn io (N.length - ps.length) ms)) := by
  refine Fu.ok S (fun vs H Q E h => by obtain ⟨_, _, _, h, _⟩ := h; exact h) fun cdv A outer s H vs Q E hr h => ?_
  obtain ⟨t, b⟩ := body cdv A outer s H E hr
  refine ⟨t, b.ps, ?_⟩
  obtain ⟨ts, F, A1, h1, h2, h3, h4⟩ := h
  exact body_run (Ek := E0) (rz := false) b.sim.z (fun _ _ z => z) hnd hio ⟨ts, F, A1, h1, h2, h3, h4.mono (fun _ z => z) fun _ z => by cases z.1⟩
/-- for a def that raises nothing, with a try at its own level -/
theorem fnT0 {x qual : Str} {st : Stmt} {f : Addr} {fd : FuncData} {N ps : List Str} {k : Nat} {io : List Nat} {ms : MS} (Fu : Fun K x qual st f fd) (S : FnScope N ps (defScope st)) (hnd : io.Nodup) (hio : ∀ i ∈ io, i < ps.length)
    (body : ∀ (cdv : Value) (A : Around) (outer : List PySem.Env) (s : Shared) (H : Hp) (E : XK), Room k (A.deeper (envOfC qual (defScope st) s.heap.objs.size f cdv)) →
      ∃ t, QSs0 ((cxOf CX0 P w K mg base N qual (defScope st) f cdv A outer s H E).nox) (EX cl E0) io (defBody st) t ms) : FnOk P w K mg base CX0 (k + 1) f fd ps (spT K false cl ps.length io (mFn io (N.length - ps.length) ms)) := by
  refine Fu.ok S (fun vs H Q E h => by obtain ⟨_, _, _, h, _⟩ := h; exact h) fun cdv A outer s H vs Q E hr h => ?_
  obtain ⟨t, b⟩ := body cdv A outer s H E hr
  refine ⟨t, b.ps, ?_⟩
  obtain ⟨ts, F, A1, h1, h2, h3, h4⟩ := h
  exact body_run (Ek := E0) (rz := false) b.sim (fun _ _ z => z) hnd hio ⟨ts, F, A1, h1, h2, h3, h4.mono (fun _ z => z) fun _ z => by cases z.1⟩
/-- for a def that may raise -/
theorem fnTX {x qual : Str} {st : Stmt} {f : Addr} {fd : FuncData} {N ps : List Str} {k : Nat} {io : List Nat} {ms : MS} (Fu : Fun K x qual st f fd) (S : FnScope N ps (defScope st)) (hnd : io.Nodup) (hio : ∀ i ∈ io, i < ps.length)
    (body : ∀ (cdv : Value) (A : Around) (outer : List PySem.Env) (s : Shared) (H : Hp) (E : XK), Room k (A.deeper (envOfC qual (defScope st) s.heap.objs.size f cdv)) →
      ∃ t, QSs (cxOf (L2.CX P w) P w K mg base N qual (defScope st) f cdv A outer s H E) (EX cl E) io (defBody st) t ms) : FnOk P w K mg base (L2.CX P w) (k + 1) f fd ps (spT K true cl ps.length io (mFn io (N.length - ps.length) ms)) := by
  refine Fu.okX S (fun vs H Q E h => by obtain ⟨_, _, _, h, _⟩ := h; exact h) fun cdv A outer s H vs Q E hr h => ?_
  obtain ⟨t, b⟩ := body cdv A outer s H E hr
  exact ⟨t, b.ps, body_run (Ek := E) b.sim.z (fun _ _ z => z) hnd hio h⟩
end

/-! ### calls -/
abbrev MB := Env → R (List (Option T) × Env)
/-- arguments; an owned tree that is handed by its name (kinds: its slot) stays there until the call -/
def SimB (K : PySem.W.Frag) (E : Str → Hp → Prop) (gr : Bool) (ks : List (Option Nat)) (ta : TA) (m : MB) : Prop :=
  ∀ (c : C0) (H : Hp) (tv : List (Option V)) (td : Env) (σ : L2.St) (ρ : Env), tv.length = td.length → StR K c H (tv ++ σ) (td ++ ρ) → ∀ Q : List V → Hp → Prop,
    Then (m ρ) (fun r => ∀ vs H', (gr = true → Same H H') → vs.length = r.1.length → (∀ (j i : Nat), ks[j]? = some (some i) → ∃ v, vs[j]? = some v ∧ σ[i]? = some (some v)) → StR K c H' (vs.map some ++ (tv ++ σ)) (r.1 ++ (td ++ r.2)) → Q vs H') (fun x => ∀ H', KeepC c H' → E x H') → ta σ H Q
structure QB (X : Cx) (E : Str → Hp → Prop) (gr : Bool) (ks : List (Option Nat)) (es : List Expr) (ta : TA) (m : MB) : Prop where
  pa : PA X es ta
  sim : SimB X.K E gr ks ta m
def mbNil : MB := fun ρ => .ok ([], ρ)
def mbCons (m : MEx) (r : MB) : MB := fun ρ => (m ρ).bind fun x => (r x.2).bind fun y => .ok (some x.1 :: y.1, y.2)
def mbIo (i : Nat) (r : MB) : MB := fun ρ => match ρ[i]? with | some (some _) => (r ρ).bind fun y => .ok (none :: y.1, y.2) | _ => .bad
theorem StR.raiseO {K : PySem.W.Frag} {c : C0} {H : Hp} {xs : List (Option V)} {as : Env} {ys : List (Option V)} {bs : Env} {v : Option V} {t : Option T} (hl : xs.length = as.length) (h : StR K c H (xs ++ v :: ys) (as ++ t :: bs)) : StR K c H (v :: (xs ++ ys)) (t :: (as ++ bs)) := by
  obtain ⟨A, w⟩ := h
  obtain ⟨C, s, z⟩ := w.slots.raiseO hl
  exact ⟨C, w.remake (fun a => Nat.le_of_eq (z a)) s⟩
section
variable {X : Cx} {E : Str → Hp → Prop} {e : Expr} {es : List Expr} {te : TE} {t : TA} {m : MEx} {r : MB} {ks : List (Option Nat)} {g1 g2 : Bool} {pos : Pos}
theorem qb_nil : QB X E true [] [] tNil mbNil := ⟨pa_nil, fun c H tv td σ ρ hl st Q q => q [] H (fun _ => Same.refl H) rfl (fun _ _ z => by simp at z) st⟩
theorem qb_cons (h : QE X E g1 e te m) (hr : QB X E g2 ks es t r) (hs : starEach (e :: es) X.env = (false, eval e X.env) :: starEach es X.env := by rfl) : QB X E (g1 && g2) (none :: ks) (e :: es) (tCons te t) (mbCons m r) := by
  refine ⟨pa_cons h.pe hr.pa hs, fun c H tv td σ ρ hl st Q q => ?_⟩
  unfold mbCons at q
  rw [then_bind] at q
  refine h.sim c H tv td σ ρ hl st _ (q.imp ?_)
  intro x q1 v H1 sm1 st1
  rw [then_bind] at q1
  refine hr.sim c H1 (some v :: tv) (some x.1 :: td) σ x.2 (by simp [hl]) st1 _ (q1.imp ?_)
  intro y q2 vs H2 sm2 hvs hk st2
  refine q2 (v :: vs) H2 (fun e => by rw [Bool.and_eq_true] at e; exact (sm1 e.1).trans (sm2 e.2)) (by simp [hvs]) (fun j i z => ?_) ?_
  · cases j with
    | zero => simp at z
    | succ j => exact hk j i (by simpa using z)
  · exact StR.raiseO (xs := vs.map some) (as := y.1) (by simp [hvs]) st2
theorem qb_io (i : Nat) {x : Str} {p : Pos} (hr : QB X E g2 ks es t r) (hN : X.N[i]? = some x := by rfl) (hv : Vis X.env.scope x := by first | exact Or.inl rfl | exact Or.inr (Or.inl rfl) | exact Or.inr (Or.inr rfl)) (hd : (x == ("__debug__" : Str)) = false := by decide)
    (hcd : (x == ("__classdict__" : Str)) = false := by decide) (hs : starEach (.Name x p :: es) X.env = (false, eval (.Name x p) X.env) :: starEach es X.env := by rfl) : QB X E g2 (some i :: ks) (.Name x p :: es) (tCons (tVar i) t) (mbIo i r) := by
  refine ⟨pa_cons (pe_var hN hv hd hcd) hr.pa hs, fun c H tv td σ ρ hl st Q q => ?_⟩
  unfold mbIo at q
  split at q
  · rename_i t0 e0
    rw [then_bind] at q
    obtain ⟨A, w⟩ := st
    obtain ⟨v, A1, e3, _, _⟩ := w.see hl e0
    refine ⟨v, e3, ?_⟩
    have st' : StR X.K c H ((some v :: tv) ++ σ) ((none :: td) ++ ρ) := ⟨A, w.uniq, .skip w.slots, w.own, w.keep⟩
    refine hr.sim c H (some v :: tv) (none :: td) σ ρ (by simp [hl]) st' _ (q.imp ?_)
    intro y q2 vs H2 sm2 hvs hk st2
    refine q2 (v :: vs) H2 sm2 (by simp [hvs]) (fun j i' z => ?_) ?_
    · cases j with
      | zero =>
        have : i = i' := by simpa using z
        subst this
        exact ⟨v, rfl, e3⟩
      | succ j => exact hk j i' (by simpa using z)
    · exact StR.raiseO (xs := vs.map some) (as := y.1) (by simp [hvs]) st2
  · exact q.elim
end
/-- the owned trees come out of their slots, and go back -/
def fillIo : List (Option Nat) → List (Option T) → Env → Option (List T × Env)
  | [], [], ρ => some ([], ρ)
  | none :: ks, some t :: ts, ρ => (fillIo ks ts ρ).map fun r => (t :: r.1, r.2)
  | some i :: ks, none :: ts, ρ => match ρ[i]? with
    | some (some t) => (fillIo ks ts (ρ.set i none)).map fun r => (t :: r.1, r.2)
    | _ => none
  | _, _, _ => none
def putIo : List Nat → List T → Env → Option Env
  | [], [], ρ => some ρ
  | i :: is, t :: ts, ρ => putIo is ts (ρ.set i (some t))
  | _, _, _ => none
def R.nx {α : Type} : R α → R α
  | .exc _ => .bad
  | r => r
section
variable {K : PySem.W.Frag} {F F' : Addr → Prop} {H H' : Hp}
theorem Sl.fill {tv : List (Option V)} {td : Env} {σ : L2.St} (hl : tv.length = td.length) : ∀ {ks : List (Option Nat)} {vs : List V} {os : List (Option T)} {ρ ρ2 : Env} {ts : List T} {A : List Addr}, vs.length = os.length →
    (∀ (j i : Nat), ks[j]? = some (some i) → ∃ v, vs[j]? = some v ∧ σ[i]? = some (some v)) → Sl K F H (vs.map some ++ (tv ++ σ)) (os ++ (td ++ ρ)) A → fillIo ks os ρ = some (ts, ρ2) →
    ∃ A1 B, RpAll K F H vs ts A1 ∧ Sl K F H (tv ++ σ) (td ++ ρ2) B ∧ ∀ a, A1.count a + B.count a = A.count a
  | [], [], [], ρ, ρ2, ts, A, _, _, s, e => by
    cases e
    exact ⟨[], A, .nil, s, fun a => by simp⟩
  | none :: ks, v :: vs, some t :: os, ρ, ρ2, ts, A, hv, hk, s, e => by
    unfold fillIo at e
    obtain ⟨r, e1, e2⟩ := Option.map_eq_some_iff.mp e
    cases e2
    cases s with
    | cons x s =>
      rename_i A0 B0
      obtain ⟨A1, B, ra, s', hc⟩ := Sl.fill hl (by simpa using hv) (fun j i z => hk (j + 1) i (by simpa using z)) s e1
      exact ⟨A0 ++ A1, B, .cons x ra, s', fun a => by have := hc a; rw [List.count_append, List.count_append]; omega⟩
  | some i :: ks, v :: vs, none :: os, ρ, ρ2, ts, A, hv, hk, s, e => by
    unfold fillIo at e
    split at e
    · rename_i t e0
      obtain ⟨r, e1, e2⟩ := Option.map_eq_some_iff.mp e
      cases e2
      obtain ⟨v', h1, h2⟩ := hk 0 i rfl
      have ev : v = v' := by simpa using h1
      subst ev
      cases s with
      | skip s0 =>
        have s : Sl K F H (vs.map some ++ (tv ++ σ)) (os ++ (td ++ ρ)) A := s0
        have hv' : vs.length = os.length := by simpa using hv
        have hlen := s.len
        have hi : i < σ.length := (List.getElem?_eq_some_iff.mp h2).1
        obtain ⟨B0, hb, ar, get⟩ := s.around (i := vs.length + (tv.length + i)) (by simp only [List.length_append, List.length_map]; omega)
        have e3 : (os ++ (td ++ ρ))[vs.length + (tv.length + i)]? = some (some t) := by rw [app_at hv'.symm, app_at hl.symm, e0]
        obtain ⟨v2, A2, e4, x, hc⟩ := get t e3
        have e5 : (vs.map some ++ (tv ++ σ))[vs.length + (tv.length + i)]? = some (some v) := by rw [app_at (by simp), app_at rfl, h2]
        have : v2 = v := by rw [e4] at e5; cases e5; rfl
        subst this
        obtain ⟨C, s', z⟩ := ar.gone (some v2)
        rw [app_set (by simp), app_set rfl, set_self h2, app_set hv'.symm, app_set hl.symm] at s'
        obtain ⟨A1, B, ra, s2, hc2⟩ := Sl.fill hl hv' (fun j i z => hk (j + 1) i (by simpa using z)) s' e1
        exact ⟨A2 ++ A1, B, .cons x ra, s2, fun a => by have := hc a; have := hc2 a; have := z a; rw [List.count_append]; omega⟩
    · cases e
  | [], _ :: _, some _ :: _, _, _, _, _, hv, _, _, e => by cases e
  | [], _ :: _, none :: _, _, _, _, _, hv, _, _, e => by cases e
  | [], _ :: _, [], _, _, _, _, hv, _, _, e => by simp at hv
  | [], [], _ :: _, _, _, _, _, hv, _, _, e => by simp at hv
  | none :: _, [], [], _, _, _, _, _, hk, _, e => by cases e
  | some _ :: _, [], [], _, _, _, _, _, hk, _, e => by cases e
  | _ :: _, [], _ :: _, _, _, _, _, hv, _, _, e => by simp at hv
  | _ :: _, _ :: _, [], _, _, _, _, hv, _, _, e => by simp at hv
  | none :: _, _ :: _, none :: _, _, _, _, _, hv, _, _, e => by cases e
  | some _ :: _, _ :: _, some _ :: _, _, _, _, _, hv, _, _, e => by cases e
theorem Sl.putIo {tv : List (Option V)} {td : Env} {σ : L2.St} (hl : tv.length = td.length) : ∀ {is : List Nat} {us : List V} {os : List T} {ρ ρ2 : Env} {A B : List Addr}, RpAll K F H us os A → (∀ (j i : Nat), is[j]? = some i → ∃ v, us[j]? = some v ∧ σ[i]? = some (some v)) → us.length = is.length →
    Sl K F H (tv ++ σ) (td ++ ρ) B → L3.putIo is os ρ = some ρ2 → ∃ C, Sl K F H (tv ++ σ) (td ++ ρ2) C ∧ ∀ a, C.count a ≤ A.count a + B.count a
  | [], _, [], ρ, ρ2, A, B, ra, _, _, s, e => by
    cases e
    exact ⟨B, s, fun a => by omega⟩
  | i :: is, u :: us, o :: os, ρ, ρ2, _, B, ra, hk, hz, s, e => by
    cases ra with
    | cons x r =>
    rename_i A1 A2
    have e' : L3.putIo is os (ρ.set i (some o)) = some ρ2 := e
    obtain ⟨v, h1, h2⟩ := hk 0 i rfl
    have ev : u = v := by simpa using h1
    subst ev
    have hlen := s.len
    have hi : i < σ.length := (List.getElem?_eq_some_iff.mp h2).1
    obtain ⟨B0, hb, ar, _⟩ := s.around (i := tv.length + i) (by rw [List.length_append]; omega)
    obtain ⟨C, s', z⟩ := ar.put (Mono.sub fun _ _ x => x) (fun _ _ => rfl) x
    rw [app_set rfl, set_self h2, app_set hl.symm] at s'
    obtain ⟨C2, s2, z2⟩ := Sl.putIo hl r (fun j i z => hk (j + 1) i (by simpa using z)) (by simpa using hz) s' e'
    exact ⟨C2, s2, fun a => by have := z2 a; have := z a; have := hb a; rw [List.count_append]; omega⟩
  | _ :: _, [], _, _, _, _, _, _, _, hz, _, _ => by simp at hz
  | _ :: _, _ :: _, [], _, _, _, _, _, _, _, _, e => by cases e
  | [], _, _ :: _, _, _, _, _, _, _, _, _, e => by cases e
end
def posOf : List (Option Nat) → Nat → List Nat
  | [], _ => []
  | some _ :: r, n => n :: posOf r (n + 1)
  | none :: r, n => posOf r (n + 1)
theorem posOf_len : ∀ (ks : List (Option Nat)) (n : Nat), (posOf ks n).length = (ks.filterMap id).length
  | [], _ => rfl
  | some _ :: r, n => by show _ + 1 = _; rw [posOf_len r]; rfl
  | none :: r, n => posOf_len r (n + 1)
theorem posOf_at {σ : L2.St} {vs0 : List V} : ∀ {ks : List (Option Nat)} {n : Nat}, (∀ (j i : Nat), ks[j]? = some (some i) → ∃ v, vs0[n + j]? = some v ∧ σ[i]? = some (some v)) →
    (sel (posOf ks n) vs0).length = (ks.filterMap id).length ∧ ∀ (j i : Nat), (ks.filterMap id)[j]? = some i → ∃ v, (sel (posOf ks n) vs0)[j]? = some v ∧ σ[i]? = some (some v)
  | [], n, _ => ⟨rfl, fun j i z => by simp at z⟩
  | none :: r, n, h => posOf_at (ks := r) (n := n + 1) fun j i z => by
      have := h (j + 1) i (by simpa using z)
      rwa [show n + (j + 1) = n + 1 + j by omega] at this
  | some i0 :: r, n, h => by
    obtain ⟨v, h1, h2⟩ := h 0 i0 rfl
    obtain ⟨a, b⟩ := posOf_at (ks := r) (n := n + 1) fun j i z => by
      have := h (j + 1) i (by simpa using z)
      rwa [show n + (j + 1) = n + 1 + j by omega] at this
    have e : sel (posOf (some i0 :: r) n) vs0 = v :: sel (posOf r (n + 1)) vs0 := by
      show List.filterMap _ (n :: posOf r (n + 1)) = _
      rw [List.filterMap_cons, show vs0[n]? = some v by simpa using h1]
      rfl
    rw [e]
    refine ⟨by simp [a], fun j i z => ?_⟩
    cases j with
    | zero =>
      have : i0 = i := by simpa using z
      subst this
      exact ⟨v, rfl, h2⟩
    | succ j => exact b j i (by simpa using z)
def allData : List T → Bool
  | [] => true
  | .d _ :: r => allData r
  | _ => false
theorem RpAll.allData {K : PySem.W.Frag} {F : Addr → Prop} {H : Hp} : ∀ {vs : List V} {ts : List T} {A : List Addr}, RpAll K F H vs ts A → L3.allData ts = true → A = []
  | _, _, _, .nil, _ => rfl
  | _, .d _ :: _, _, .cons x r, e => by
    cases x with
    | d _ => exact r.allData e
  | _, .ol _ :: _, _, .cons _ _, e => by cases e
  | _, .ot _ :: _, _, .cons _ _, e => by cases e
  | _, .od _ _ :: _, _, .cons _ _, e => by cases e
  | _, .ob _ _ _ :: _, _, .cons _ _, e => by cases e
  | _, .rd _ :: _, _, .cons _ _, e => by cases e
theorem nx_red {α : Type} {rz : Bool} {r : R α} {P P' : α → Prop} {E E' : Str → Prop} (h : Then (if rz = true then r else r.nx) P E) (hp : ∀ a, P a → P' a) (he : ∀ x, E x → E' x) : Then r P' (fun x => rz = true ∧ E' x) := by
  cases rz with
  | true =>
    rw [if_pos rfl] at h
    exact h.mono hp fun x z => ⟨rfl, he x z⟩
  | false =>
    rw [if_neg (by decide)] at h
    cases r with
    | ok a => exact hp a h
    | exc x => exact h.elim
    | bad => exact h.elim
section
variable {X : Cx} {CX : CXT} {k : Nat} {f : Addr} {fd : FuncData} {ps : List Str} {Ek : XK} {cl : Str → Option Addr} {x : Str} {p pos : Pos} {e : Expr} {es : List Expr} {t : TA} {mb : MB} {ks : List (Option Nat)} {io : List Nat} {fm : List T → R (T × List T)} {rz g : Bool} {n : Nat}
theorem sim_call {K : PySem.W.Frag} (hio : io = posOf ks 0) (sb : SimB K (EX cl Ek) g ks t mb) {gz : Bool} (hg : gz = true → g = true ∧ io = []) : SimE K (EX cl Ek) gz (tCall (spT K rz cl n io fm) [] Ek t) (fun ρ => (mb ρ).bind fun r => (ofO (fillIo ks r.1 r.2)).bind fun s =>
    guard (!gz || allData s.1) ((if decide (s.1.length = n) then (if rz = true then fm s.1 else (fm s.1).nx) else .bad).bind fun z => (ofO (putIo (ks.filterMap id) z.2 s.2)).bind fun ρ' => .ok (z.1, ρ'))) := by
  intro c H tv td σ ρ hl st Q q
  rw [then_bind] at q
  refine sb c H tv td σ ρ hl st _ (q.imp ?_)
  intro r q1 vs H1 sm1 hvs hk st1
  rw [then_bind] at q1
  obtain ⟨s, es, q1⟩ := then_ofO.mp q1
  obtain ⟨gd, q1⟩ := then_guard.mp q1
  rw [then_bind] at q1
  have hn : s.1.length = n := by
    by_cases h : s.1.length = n
    · exact h
    · rw [if_neg (by simp [h])] at q1; exact q1.elim
  rw [if_pos (by simp [hn])] at q1
  obtain ⟨A, w⟩ := st1
  obtain ⟨A1, B, ra, sl, hc⟩ := w.slots.fill hl hvs hk es
  have hA1 : ∀ a, A1.count a ≤ A.count a := fun a => by have := hc a; omega
  have hB : ∀ a, B.count a ≤ A.count a := fun a => by have := hc a; omega
  have mem1 : ∀ a ∈ A1, a ∈ A := fun a ha => List.count_pos_iff.mp (Nat.lt_of_lt_of_le (List.count_pos_iff.mpr ha) (hA1 a))
  have memB : ∀ a ∈ B, a ∈ A := fun a ha => List.count_pos_iff.mp (Nat.lt_of_lt_of_le (List.count_pos_iff.mpr ha) (hB a))
  have apart : ∀ a ∈ B, a ∉ A1 := fun a ha z => by
    have h1 := List.count_pos_iff.mpr ha
    have h2 := List.count_pos_iff.mpr z
    have h3 := hc a
    have h4 := w.uniq a
    omega
  have thereB : ∀ a ∈ B, H1 a ≠ none := fun a ha e => by
    obtain ⟨u, z, _⟩ := sl.own a ha
    rw [e] at z; cases z
  show spT K rz cl n io fm (vs ++ []) H1 Q Ek
  rw [List.append_nil]
  refine ⟨s.1, Fok c A, A1, by rw [ra.len, hn], fun a => Nat.le_trans (hA1 a) (w.uniq a), ra.mono (.sub fun a _ z => ⟨z, fun y => z.2 (mem1 a y)⟩) fun _ _ => rfl, ?_⟩
  have kc : ∀ {H' : Hp}, KeepF H1 H' A1 → KeepC c H' := fun {H'} kf => ⟨fun a o e n => kf.keep a o (w.keep.keep a o e n) fun ha => by
    rcases w.own a (mem1 a ha) with z | z
    · exact n z
    · exact absurd (e.symm.trans z) (by intro y; cases y), fun a e => w.keep.there a (kf.there a e)⟩
  refine nx_red q1 (fun z q2 => ?_) (fun y q2 H' kf => q2 H' (kc kf))
  rw [then_bind] at q2
  obtain ⟨ρ', ep, q2⟩ := then_ofO.mp q2
  intro v H' A' u' own' kf same rr
  cases rr with
  | cons xv rio =>
    rename_i C0 C1
    have own2 : ∀ a ∈ C0 ++ C1, a ∈ c.A0 ∨ c.H0 a = none := fun a ha => by
      rcases own' a ha with z | z
      · exact w.own a (mem1 a z)
      · exact .inr (w.keep.there a z)
    have eqB : ∀ a ∈ B, H' a = H1 a := fun a ha => by
      obtain ⟨u, z, _⟩ := sl.own a ha
      rw [z, kf.keep a _ z (apart a ha)]
    have dis : ∀ a ∈ B, a ∉ C0 ++ C1 := fun a ha z => by
      rcases own' a z with y | y
      · exact apart a ha y
      · exact thereB a ha y
    have tot : ∀ a, (C0 ++ C1).count a + B.count a ≤ 1 := fun a => by
      by_cases ha : a ∈ B
      · rw [List.count_eq_zero.mpr (dis a ha)]; have := hB a; have := w.uniq a; omega
      · rw [List.count_eq_zero.mpr ha]; exact u' a
    let G : Addr → Prop := fun a => (c.F0 a ∨ c.H0 a = none ∨ a ∈ c.A0) ∧ a ∉ C0 ++ C1 ∧ a ∉ B
    have mG : Mono (Fok c A) G H1 H' := ⟨fun a vs e f => by
      have na : a ∉ A := f.2
      have e2 := kf.keep a _ e fun z => na (mem1 a z)
      refine ⟨e2, f.1, fun z => ?_, fun z => na (memB a z)⟩
      rcases own' a z with y | y
      · exact na (mem1 a y)
      · exact absurd (e.symm.trans y) (by intro y; cases y), fun a u e st => kf.keep a u e fun z => by
        obtain ⟨u, y, ns⟩ := ra.own a z
        rw [e] at y; cases y; exact ns st⟩
    have mR : Mono (fun a => (Fok c A a ∨ H1 a = none ∨ a ∈ A1) ∧ a ∉ C0 ++ C1) G H' H' := .sub fun a _ ⟨h1, h2⟩ => by
      rcases h1 with h1 | h1 | h1
      · exact ⟨h1.1, h2, fun z => h1.2 (memB a z)⟩
      · exact ⟨.inr (.inl (w.keep.there a h1)), h2, fun z => thereB a z h1⟩
      · refine ⟨?_, h2, fun z => apart a z h1⟩
        rcases w.own a (mem1 a h1) with y | y
        · exact .inr (.inr y)
        · exact .inr (.inl y)
    have sl2 : Sl K G H' (tv ++ σ) (td ++ s.2) B := sl.mono mG eqB
    obtain ⟨hlen, hat⟩ := posOf_at (σ := σ) (vs0 := vs) (ks := ks) (n := 0) fun j i z => by rw [Nat.zero_add]; exact hk j i z
    rw [← hio] at hlen hat
    obtain ⟨C2, s3, hc3⟩ := sl2.putIo hl (rio.mono mR fun _ _ => rfl) hat hlen ep
    have hfin : ∀ a, (C0 ++ C2).count a ≤ (C0 ++ C1).count a + B.count a := fun a => by rw [List.count_append, List.count_append]; have := hc3 a; omega
    refine q2 v H' (fun e => ?_) ⟨C0 ++ C2, fun a => Nat.le_trans (hfin a) (tot a), ?_, fun a ha => ?_, kc kf⟩
    · obtain ⟨g1, g2⟩ := hg e
      have ad : allData s.1 = true := by rw [e] at gd; simpa using gd
      exact (sm1 g1).trans (same g2 (ra.allData ad))
    · have m3 : Mono G (Fok c (C0 ++ C2)) H' H' := .sub fun a _ ⟨h1, h2, h3⟩ => ⟨h1, fun z => by
        have := hfin a
        have := List.count_pos_iff.mpr z
        rw [List.count_eq_zero.mpr h2, List.count_eq_zero.mpr h3] at *
        omega⟩
      exact (Sl.cons (xv.mono mR fun _ _ => rfl) s3).mono m3 fun _ _ => rfl
    · have h1 := hfin a
      have h2 := List.count_pos_iff.mpr ha
      by_cases hb : a ∈ B
      · exact w.own a (memB a hb)
      · rw [List.count_eq_zero.mpr hb] at h1
        exact own2 a (List.count_pos_iff.mp (by omega))
def mCallF (rz gz : Bool) (n : Nat) (fm : List T → R (T × List T)) (ks : List (Option Nat)) (mb : MB) : MEx := fun ρ => (mb ρ).bind fun r => (ofO (fillIo ks r.1 r.2)).bind fun s =>
    guard (!gz || allData s.1) ((if decide (s.1.length = n) then (if rz = true then fm s.1 else (fm s.1).nx) else .bad).bind fun z => (ofO (putIo (ks.filterMap id) z.2 s.2)).bind fun ρ' => .ok (z.1, ρ'))
theorem qe_call (Fn : FnOk X.prog X.w X.K X.mg X.base CX k f fd ps (spT X.K rz cl n io fm)) (hr : Room k X.A) (hm : X.mg x = some (.ref f)) (hk : PySem.W.keepIn X.K (.ref f) = true) (hb : Binds X.K fd ps []) (hx : Passes CX X Ek)
    (ha : QB X (EX cl Ek) g ks (e :: es) t mb) (hio : io = posOf ks 0 := by rfl) (hg : Gl X x := by rfl) (hdb : (x == ("__debug__" : Str)) = false := by decide) (he : starEach (e :: es) X.env = (false, eval e X.env) :: starEach es X.env := by rfl) (hpl : (backTo pos (starEach es X.env)).any (·.1) = false := by rfl) :
    QE X (EX cl Ek) false (.Call (.Name x p) (e :: es) [] pos) (tCall (spT X.K rz cl n io fm) [] Ek t) (mCallF rz false n fm ks mb) := ⟨pe_call Fn hr hg hm hk hb .nil hx ha.pa hdb he hpl, sim_call hio ha.sim fun z => by cases z⟩
theorem qe_callG (Fn : FnOk X.prog X.w X.K X.mg X.base CX k f fd ps (spT X.K rz cl n io fm)) (hr : Room k X.A) (hm : X.mg x = some (.ref f)) (hk : PySem.W.keepIn X.K (.ref f) = true) (hb : Binds X.K fd ps []) (hx : Passes CX X Ek)
    (ha : QB X (EX cl Ek) true ks (e :: es) t mb) (hio : io = posOf ks 0 := by rfl) (hi0 : io = [] := by rfl) (hg : Gl X x := by rfl) (hdb : (x == ("__debug__" : Str)) = false := by decide) (he : starEach (e :: es) X.env = (false, eval e X.env) :: starEach es X.env := by rfl) (hpl : (backTo pos (starEach es X.env)).any (·.1) = false := by rfl) :
    QE X (EX cl Ek) true (.Call (.Name x p) (e :: es) [] pos) (tCall (spT X.K rz cl n io fm) [] Ek t) (mCallF rz true n fm ks mb) := ⟨pe_call Fn hr hg hm hk hb .nil hx ha.pa hdb he hpl, sim_call hio ha.sim fun _ => ⟨rfl, hi0⟩⟩
end
end L3
/-! L3g -/
/-! L3g: loops and comprehensions. -/
namespace L3
open PySem PySem.Spec PyProof.Rows L2

/-! ### the loop of a for -/
def mLoop (g : MG) (body : MS) : List T → Env → R Out
  | [], ρ => .ok (.next ρ)
  | x :: xs, ρ => (ofO (g x ρ)).bind fun ρ1 => (body ρ1).bind fun o => match o with
    | .next ρ2 => mLoop g body xs ρ2
    | .cont ρ2 => mLoop g body xs ρ2
    | .brk ρ2 => .ok (.next ρ2)
    | .ret t ρ2 => .ok (.ret t ρ2)
section
variable {K : PySem.W.Frag} {c : C0} {H : Hp}
/-- below the top the source lies: it goes when the loop is left -/
theorem StR.drop2 {o o' : Option V} {t t' : Option T} {sl : List (Option V)} {ρ : Env} (h : StR K c H (o :: o' :: sl) (t :: t' :: ρ)) : StR K c H (o :: sl) (t :: ρ) := by
  obtain ⟨A, w⟩ := h
  obtain ⟨u, s, ow, k⟩ := w
  cases s with
  | skip s =>
    cases s with
    | skip s => exact ⟨_, u, .skip s, ow, k⟩
    | cons x s =>
      rename_i A1 B
      have w : StW K c H (o :: some _ :: sl) (none :: some _ :: ρ) (A1 ++ B) := ⟨u, .skip (.cons x s), ow, k⟩
      exact ⟨B, w.remake (fun a => by rw [List.count_append]; omega) (.skip s)⟩
  | cons y s =>
    rename_i A0 B0
    cases s with
    | skip s => exact ⟨_, u, .cons y s, ow, k⟩
    | cons x s =>
      rename_i A1 B
      have w : StW K c H (some _ :: some _ :: sl) (some _ :: some _ :: ρ) (A0 ++ (A1 ++ B)) := ⟨u, .cons y (.cons x s), ow, k⟩
      exact ⟨A0 ++ B, w.remake (fun a => by simp only [List.count_append]; omega) (.cons y s)⟩
end
/-- how a source is walked: what stands on top of the state (xv, xt) keeps G and gives the items -/
structure Src (K : PySem.W.Frag) (J : It) (xv : List (Option V)) (xt : Env) (items : List T) : Prop where
  len : xv.length = xt.length
  goes : ∀ (c : C0) (H : Hp) (sl : List (Option V)) (ρ : Env) (i : Nat), i < items.length → StR K c H (xv ++ sl) (xt ++ ρ) → J.go i H
  stops : ∀ (c : C0) (H : Hp) (sl : List (Option V)) (ρ : Env), StR K c H (xv ++ sl) (xt ++ ρ) → J.stop items.length H
  yields : ∀ (c : C0) (H : Hp) (sl : List (Option V)) (ρ : Env) (i : Nat) (x : V) (H' : Hp) (t : T), items[i]? = some t → StR K c H (xv ++ sl) (xt ++ ρ) → J.yld i H x H' → Same H H' ∧ StR K c H' (some x :: (xv ++ sl)) (some t :: (xt ++ ρ))
theorem StR.dropN {K : PySem.W.Frag} {c : C0} {H : Hp} : ∀ {xs : List (Option V)} {as : Env} {sl : List (Option V)} {ρ : Env}, xs.length = as.length → StR K c H (xs ++ sl) (as ++ ρ) → StR K c H sl ρ
  | [], [], _, _, _, h => h
  | _ :: xs, _ :: as, _, _, e, h => StR.dropN (by simpa using e) h.drop
  | [], _ :: _, _, _, e, _ => by simp at e
  | _ :: _, [], _, _, e, _ => by simp at e
theorem StR.dropN1 {K : PySem.W.Frag} {c : C0} {H : Hp} {o : Option V} {t : Option T} : ∀ {xs : List (Option V)} {as : Env} {sl : List (Option V)} {ρ : Env}, xs.length = as.length → StR K c H (o :: (xs ++ sl)) (t :: (as ++ ρ)) → StR K c H (o :: sl) (t :: ρ)
  | [], [], _, _, _, h => h
  | _ :: xs, _ :: as, _, _, e, h => StR.dropN1 (by simpa using e) h.drop2
  | [], _ :: _, _, _, e, _ => by simp at e
  | _ :: _, [], _, _, e, _ => by simp at e
section
variable {E : Str → Hp → Prop} {io : List Nat}
theorem loop_run {K : PySem.W.Frag} {J : It} {xv : List (Option V)} {xt : Env} {items : List T} (S : Src K J xv xt items) {g : TG} {mg : MG} {tb : TS} {mb : MS} (sg : SimG K (inIo io) g mg) (sb : SimS K E io tb mb) {c : C0} {H : Hp} {tv : List (Option V)} {td : Env} {σ : L2.St} {ρ : Env}
    (hl : tv.length = td.length) (st : StR K c H (xv ++ (tv ++ σ)) (xt ++ (td ++ ρ))) {D : Ends} (q : Then (mLoop mg mb items ρ) (OutTo K c tv td io σ D) (fun x => ∀ H', KeepC c H' → E x H')) :
    ∃ W : Nat → Nat → L2.St → Hp → Prop, (∃ m, W 0 m σ H) ∧ ∀ i m σ H, W i m σ H →
      (J.stop i H ∧ D.nx σ H) ∨ (J.go i H ∧ ∃ N : L2.St → Hp → Prop, (∀ σ' H', N σ' H' → ∃ m', m' < m ∧ W (i + 1) m' σ' H') ∧ ∀ x H', J.yld i H x H' → g x σ H' fun σ2 H2 => tb { D with nx := N, ct := N, bk := D.nx } σ2 H2) := by
  refine ⟨fun i m σ' H' => m = items.length - i ∧ i ≤ items.length ∧ SameIo io σ σ' ∧ ∃ ρ', StR K c H' (xv ++ (tv ++ σ')) (xt ++ (td ++ ρ')) ∧ Then (mLoop mg mb (items.drop i) ρ') (OutTo K c tv td io σ D) (fun x => ∀ H', KeepC c H' → E x H'),
    ⟨items.length, by simp, Nat.zero_le _, .refl, ρ, st, by simpa using q⟩, ?_⟩
  rintro i m σ1 H1 ⟨rfl, hi, s1, ρ1, st1, q1⟩
  by_cases hlt : i < items.length
  · refine .inr ⟨S.goes c H1 _ _ i hlt st1, fun σ' H' => SameIo io σ σ' ∧ ∃ ρ', StR K c H' (xv ++ (tv ++ σ')) (xt ++ (td ++ ρ')) ∧ Then (mLoop mg mb (items.drop (i + 1)) ρ') (OutTo K c tv td io σ D) (fun x => ∀ H', KeepC c H' → E x H'), fun σ' H' p => ⟨items.length - (i + 1), by omega, rfl, hlt, p.1, p.2⟩, fun x H' y => ?_⟩
    have eI : items[i]? = some items[i] := List.getElem?_eq_getElem hlt
    have hd : items.drop i = items[i] :: items.drop (i + 1) := List.drop_eq_getElem_cons hlt
    rw [hd] at q1
    obtain ⟨sm, st2⟩ := S.yields c H1 _ _ i x H' _ eI st1 y
    have q2 := then_bind.mp q1
    obtain ⟨ρ2, e2, q2⟩ := then_ofO.mp q2
    refine sg c H' (xv ++ tv) (xt ++ td) σ1 ρ1 ρ2 x items[i] (by simp [S.len, hl]) (by simpa [List.append_assoc] using st2) e2 _ fun σ2 H2 s2 st3 => ?_
    have q3 := then_bind.mp q2
    have s12 : SameIo io σ σ2 := s1.trans s2.toIo
    refine sb c H2 (xv ++ tv) (xt ++ td) σ2 ρ2 (by simp [S.len, hl]) st3 _ (q3.imp fun o q4 => ?_)
    cases o with
    | next ρ3 => exact fun σ' H' s' st' => ⟨s12.trans s', ρ3, by simpa [List.append_assoc] using st', q4⟩
    | cont ρ3 => exact fun σ' H' s' st' => ⟨s12.trans s', ρ3, by simpa [List.append_assoc] using st', q4⟩
    | brk ρ3 => exact fun σ' H' s' st' => q4 σ' H' (s12.trans s') (StR.dropN S.len (by simpa [List.append_assoc] using st'))
    | ret t ρ3 => exact fun v σ' H' s' st' => q4 v σ' H' (s12.trans s') (StR.dropN1 S.len (by simpa [List.append_assoc] using st'))
  · have e : i = items.length := by omega
    subst e
    rw [List.drop_length] at q1
    exact .inl ⟨S.stops c H1 _ _ st1, q1 σ1 H1 s1 (StR.dropN S.len st1)⟩
end
/-! ### sources -/
abbrev MI := Env → R (List T × Env)
/-- wi walks what mi tells; xs: what it leaves on top -/
def SimI (K : PySem.W.Frag) (E : Str → Hp → Prop) (wi : TI) (mi : MI) : Prop :=
  ∀ (c : C0) (H : Hp) (tv : List (Option V)) (td : Env) (σ : L2.St) (ρ : Env), tv.length = td.length → StR K c H (tv ++ σ) (td ++ ρ) → ∀ Rr : It → Hp → Prop,
    Then (mi ρ) (fun r => ∀ J H' xv xt, Src K J xv xt r.1 → StR K c H' (xv ++ (tv ++ σ)) (xt ++ (td ++ r.2)) → Rr J H') (fun x => ∀ H', KeepC c H' → E x H') → wi σ H Rr
structure QI (X : Cx) (E : Str → Hp → Prop) (tg : Expr) (e : Expr) (wi : TI) (mi : MI) : Prop where
  pi : PI X tg e wi
  sim : SimI X.K E wi mi
def mFor (mi : MI) (g : MG) (body : MS) : MS := fun ρ => (mi ρ).bind fun r => mLoop g body r.1 r.2
section
variable {X : Cx} {E : Str → Hp → Prop} {io : List Nat} {pos : Pos}
theorem qs_for {tg iter : Expr} {body : List Stmt} {wi : TI} {mi : MI} {g : TG} {mg : MG} {tb : TS} {mb : MS} (hc : X.calm = true) (hp : PassesOwn (model X.prog X.w) X.A X.env X.xe) (hi : QI X E tg iter wi mi) (hg : QG X (inIo io) tg g mg) (hb : QSs X E io body tb mb)
    (hs : ∀ x, foldedSetIterable iter X.env x = pure x := by intro _; rfl) : QS X E io (.For tg iter body [] pos) (tFor wi g tb) (mFor mi mg mb) := by
  refine ⟨ps_for hp hc hi.pi hg.pg hb.ps hs, fun c H tv td σ ρ hl st D q => ?_⟩
  unfold mFor at q
  rw [then_bind] at q
  refine hi.sim c H tv td σ ρ hl st _ (q.imp ?_)
  intro r q1 J H' xv xt S st1
  exact loop_run S hg.sim hb.sim hl st1 q1
/-! a list, a tuple -/
def items? : T → Option (List T)
  | .d (.list ds) => some (ds.map T.d)
  | _ => none
def itemsT? : T → Option (List T)
  | .d (.tuple ds) => some (ds.map T.d)
  | _ => none
def miL (m : MEx) : MI := fun ρ => (m ρ).bind fun r => (ofO (items? r.1)).bind fun ts => .ok (ts, r.2)
def miT (m : MEx) : MI := fun ρ => (m ρ).bind fun r => (ofO (itemsT? r.1)).bind fun ts => .ok (ts, r.2)
theorem StR.look {K : PySem.W.Frag} {c : C0} {H : Hp} {sl : List (Option V)} {ρ : Env} {v : V} {x : PyData} (h : StR K c H (some v :: sl) (some (.d x) :: ρ)) : ∃ A, StW K c H (some v :: sl) (some (.d x) :: ρ) A ∧ Fz K (Fok c A) H v x := by
  obtain ⟨A, w⟩ := h
  exact ⟨A, w, w.topD.1⟩
theorem src_list {K : PySem.W.Frag} {a : Addr} {ds : List PyData} : Src K (Itl K a) [some (.ref a)] [some (.d (.list ds))] (ds.map T.d) where
  len := rfl
  goes := by
    intro c H sl ρ i hi st
    obtain ⟨A, w, f⟩ := StR.look st
    cases f with
    | @lst _ vs _ h _ f =>
      have hl := f.len
      have hi2 : i < vs.length := by rw [hl]; simpa using hi
      exact ⟨vs, vs[i], .of h, List.getElem?_eq_getElem hi2⟩
  stops := by
    intro c H sl ρ st
    obtain ⟨A, w, f⟩ := StR.look st
    cases f with
    | lst h _ f => exact ⟨_, .of h, by rw [List.length_map, f.len]; exact Nat.le_refl _⟩
  yields := by
    intro c H sl ρ i x H' t ht st y
    obtain ⟨rfl, y⟩ := y
    obtain ⟨A, w, f⟩ := StR.look st
    refine ⟨Same.refl _, A, ?_⟩
    rw [List.getElem?_map] at ht
    obtain ⟨z, e1, rfl⟩ := Option.map_eq_some_iff.mp ht
    cases f with
    | lst h _ f =>
      obtain ⟨v, e2, fz⟩ := f.get e1
      have := y _ (.of h)
      rw [e2] at this
      cases this
      exact w.pushD fz
theorem sim_iL {K : PySem.W.Frag} {te : TE} {m : MEx} {g : Bool} (s : SimE K E g te m) : SimI K E (iList K te) (miL m) := by
  intro c H tv td σ ρ hl st Rr q
  unfold miL at q
  rw [then_bind] at q
  refine s c H tv td σ ρ hl st _ (q.imp ?_)
  rintro ⟨t, ρ1⟩ q1 v H1 _ st1
  obtain ⟨ts, e, q2⟩ := then_ofO.mp (then_bind.mp q1)
  unfold items? at e
  dsimp only at e
  split at e
  · rename_i ds
    cases e
    obtain ⟨A, w, f⟩ := StR.look st1
    cases f with
    | lst h h2 f => exact ⟨_, rfl, ⟨_, .of h⟩, q2 _ H1 [some _] [some _] src_list st1⟩
  · cases e
theorem qi_list {tg e : Expr} {te : TE} {m : MEx} {g : Bool} (h : QE X E g e te m) : QI X E tg e (iList X.K te) (miL m) := ⟨pi_list h.pe, sim_iL h.sim⟩
/-! range -/
def rangeItems (lo hi : Int) : List T := (List.range (hi - lo).toNat).map fun i => .d (.int (lo + (i : Nat)))
def small62 (i : Int) : Bool := decide (-(2 ^ 62) ≤ i ∧ i < 2 ^ 62)
def miR1 (m : MA) : MI := fun ρ => (m ρ).bind fun r => match r.1 with | [.d (.int j)] => guard (small62 j) (.ok (rangeItems 0 j, r.2)) | _ => .bad
def miR2 (m : MA) : MI := fun ρ => (m ρ).bind fun r => match r.1 with | [.d (.int i), .d (.int j)] => guard (small62 i && small62 j) (.ok (rangeItems i j, r.2)) | _ => .bad
theorem src_range {K : PySem.W.Frag} {lo hi : Int} : Src K (Itr lo (hi - lo).toNat) [] [] (rangeItems lo hi) where
  len := rfl
  goes := fun c H sl ρ i hi st => by simpa [rangeItems, Itr] using hi
  stops := fun c H sl ρ st => by
    show (hi - lo).toNat ≤ (rangeItems lo hi).length
    unfold rangeItems
    rw [List.length_map, List.length_range]
    exact Nat.le_refl _
  yields := by
    intro c H sl ρ i x H' t ht st y
    obtain ⟨rfl, rfl⟩ := y
    refine ⟨Same.refl _, ?_⟩
    unfold rangeItems at ht
    rw [List.getElem?_map] at ht
    obtain ⟨z, e1, rfl⟩ := Option.map_eq_some_iff.mp ht
    have : z = i := by
      obtain ⟨h1, h2⟩ := List.getElem?_eq_some_iff.mp e1
      simpa using h2.symm
    subst this
    exact StR.pushC st fun _ _ => .int _
theorem StR.top1 {K : PySem.W.Frag} {c : C0} {H : Hp} {sl : List (Option V)} {ρ : Env} {v : V} {i : Int} (h : StR K c H (some v :: sl) (some (.d (.int i)) :: ρ)) : v = .int i ∧ StR K c H sl ρ := by
  obtain ⟨A, w⟩ := h
  obtain ⟨f, w'⟩ := w.topD
  cases f
  exact ⟨rfl, A, w'⟩
theorem sim_iR1 {K : PySem.W.Frag} {ta : TA} {m : MA} {g : Bool} (s : SimA K E g ta m) : SimI K E (iRng1 ta) (miR1 m) := by
  intro c H tv td σ ρ hl st Rr q
  unfold miR1 at q
  rw [then_bind] at q
  refine s c H tv td σ ρ hl st _ (q.imp ?_)
  rintro ⟨ts, ρ1⟩ q1 vs H1 _ hvs st1
  dsimp only at q1 hvs st1
  split at q1
  · rename_i j
    obtain ⟨gd, q2⟩ := then_guard.mp q1
    match vs, hvs, st1 with
    | [v], _, st1 =>
      obtain ⟨rfl, st2⟩ := StR.top1 st1
      have hz := of_decide_eq_true gd
      refine ⟨j, rfl, hz.1, hz.2, q2 _ H1 [] [] ?_ st2⟩
      have := src_range (K := K) (lo := 0) (hi := j)
      rwa [Int.sub_zero] at this
  · exact q1.elim
theorem sim_iR2 {K : PySem.W.Frag} {ta : TA} {m : MA} {g : Bool} (s : SimA K E g ta m) : SimI K E (iRng2 ta) (miR2 m) := by
  intro c H tv td σ ρ hl st Rr q
  unfold miR2 at q
  rw [then_bind] at q
  refine s c H tv td σ ρ hl st _ (q.imp ?_)
  rintro ⟨ts, ρ1⟩ q1 vs H1 _ hvs st1
  dsimp only at q1 hvs st1
  split at q1
  · rename_i i j
    obtain ⟨gd, q2⟩ := then_guard.mp q1
    rw [Bool.and_eq_true] at gd
    match vs, hvs, st1 with
    | [v, u], _, st1 =>
      obtain ⟨rfl, st2⟩ := StR.top1 st1
      obtain ⟨rfl, st3⟩ := StR.top1 st2
      have h1 := of_decide_eq_true gd.1
      have h2 := of_decide_eq_true gd.2
      exact ⟨i, j, rfl, ⟨h1.1, h1.2, h2.1, h2.2⟩, q2 _ H1 [] [] src_range st3⟩
  · exact q1.elim
theorem qi_range1 {tg a : Expr} {ta : TA} {m : MA} {g : Bool} {p : Pos} (hm : X.mg "range" = none) (ha : QA X E g [a] ta m) (hg : Gl X "range" := by rfl) (hs : starEach [a] X.env = [(false, eval a X.env)] := by rfl) : QI X E tg (.Call (.Name "range" p) [a] [] pos) (iRng1 ta) (miR1 m) := ⟨pi_range1 hg hm ha.pa hs, sim_iR1 ha.sim⟩
theorem qi_range2 {tg a b : Expr} {ta : TA} {m : MA} {g : Bool} {p : Pos} (hm : X.mg "range" = none) (ha : QA X E g [a, b] ta m) (hg : Gl X "range" := by rfl) (hs : starEach [a, b] X.env = [(false, eval a X.env), (false, eval b X.env)] := by rfl) (hs2 : starEach [b] X.env = [(false, eval b X.env)] := by rfl) : QI X E tg (.Call (.Name "range" p) [a, b] [] pos) (iRng2 ta) (miR2 m) := ⟨pi_range2 hg hm ha.pa hs hs2, sim_iR2 ha.sim⟩
end
/-! ### while -/
def mWhileN (mt : MT) (mb : MS) : Nat → Env → R Out
  | 0, _ => .bad
  | n + 1, ρ => (mt ρ).bind fun r => if r.1 = true then (mb r.2).bind (fun o => match o with
    | .next ρ2 => mWhileN mt mb n ρ2
    | .cont ρ2 => mWhileN mt mb n ρ2
    | .brk ρ2 => .ok (.next ρ2)
    | .ret t ρ2 => .ok (.ret t ρ2)) else .ok (.next r.2)
open Classical in
noncomputable def mWhile (mt : MT) (mb : MS) : MS := fun ρ => if h : ∃ n, mWhileN mt mb n ρ ≠ .bad then mWhileN mt mb (Classical.choose h) ρ else .bad
theorem mWhileN_succ {mt : MT} {mb : MS} : ∀ {n : Nat} {ρ : Env}, mWhileN mt mb n ρ ≠ .bad → mWhileN mt mb (n + 1) ρ = mWhileN mt mb n ρ
  | 0, ρ, h => (h rfl).elim
  | n + 1, ρ, h => by
    have go : ∀ ρ2, mWhileN mt mb n ρ2 ≠ .bad → mWhileN mt mb (n + 1) ρ2 = mWhileN mt mb n ρ2 := fun ρ2 => mWhileN_succ
    show (mt ρ).bind _ = (mt ρ).bind _
    have h' : (mt ρ).bind (fun r => if r.1 = true then (mb r.2).bind (fun o => match o with
      | .next ρ2 => mWhileN mt mb n ρ2
      | .cont ρ2 => mWhileN mt mb n ρ2
      | .brk ρ2 => .ok (.next ρ2)
      | .ret t ρ2 => .ok (.ret t ρ2)) else .ok (.next r.2)) ≠ .bad := h
    cases e : mt ρ with
    | exc x => rfl
    | bad => rfl
    | ok r =>
      rw [e] at h'
      dsimp only [R.bind] at h' ⊢
      by_cases hr : r.1 = true
      · rw [if_pos hr] at h'
        rw [if_pos hr, if_pos hr]
        cases e2 : mb r.2 with
        | exc x => rfl
        | bad => rfl
        | ok o =>
          rw [e2] at h'
          cases o with
          | next ρ2 => exact go ρ2 h'
          | cont ρ2 => exact go ρ2 h'
          | brk ρ2 => rfl
          | ret t ρ2 => rfl
      · rw [if_neg hr, if_neg hr]
theorem mWhileN_le {mt : MT} {mb : MS} {n m : Nat} {ρ : Env} (h : mWhileN mt mb n ρ ≠ .bad) (l : n ≤ m) : mWhileN mt mb m ρ = mWhileN mt mb n ρ := by
  induction m with
  | zero => have : n = 0 := by omega
            subst this; rfl
  | succ m ih =>
    by_cases e : n = m + 1
    · rw [e]
    · have e1 := ih (by omega)
      rw [mWhileN_succ (by rw [e1]; exact h), e1]
/-- the fuel is anything that is enough -/
theorem then_while {mt : MT} {mb : MS} {n : Nat} {ρ : Env} {P : Out → Prop} {E : Str → Prop} (h : Then (mWhileN mt mb n ρ) P E) : Then (mWhile mt mb ρ) P E := by
  have hn : mWhileN mt mb n ρ ≠ .bad := fun e => by rw [e] at h; exact h
  have hx : ∃ n, mWhileN mt mb n ρ ≠ .bad := ⟨n, hn⟩
  unfold mWhile
  rw [dif_pos hx]
  have hc := Classical.choose_spec hx
  have e : mWhileN mt mb (Classical.choose hx) ρ = mWhileN mt mb n ρ := by
    rcases Nat.le_total n (Classical.choose hx) with l | l
    · exact mWhileN_le hn l
    · exact (mWhileN_le hc l).symm
  rw [e]
  exact h
section
variable {X : Cx} {E : Str → Hp → Prop} {io : List Nat} {pos : Pos}
theorem sim_while {K : PySem.W.Frag} {tc : TT} {mt : MT} {tb : TS} {mb : MS} (sc : SimT K E tc mt) (sb : SimS K E io tb mb) : SimS K E io (tWhile tc tb) (mWhile mt mb) := by
  intro c H tv td σ ρ hl st D q
  have q0 : ∃ n, Then (mWhileN mt mb n ρ) (OutTo K c tv td io σ D) (fun x => ∀ H', KeepC c H' → E x H') := by
    unfold mWhile at q
    split at q
    · exact ⟨_, q⟩
    · exact q.elim
  obtain ⟨n, q0⟩ := q0
  refine ⟨fun m σ' H' => SameIo io σ σ' ∧ ∃ ρ', StR K c H' (tv ++ σ') (td ++ ρ') ∧ Then (mWhileN mt mb m ρ') (OutTo K c tv td io σ D) (fun x => ∀ H', KeepC c H' → E x H'), ⟨n, .refl, ρ, st, q0⟩, ?_⟩
  rintro m σ1 H1 ⟨s1, ρ1, st1, q1⟩
  cases m with
  | zero => exact q1.elim
  | succ m =>
    have q1' := then_bind.mp q1
    refine sc c H1 tv td σ1 ρ1 hl st1 _ (q1'.imp ?_)
    rintro ⟨b, ρ2⟩ q2 H2 st2
    cases b with
    | false =>
      rw [if_neg (show ¬ (false = true) by decide)]
      exact q2 σ1 H2 s1 st2
    | true =>
      rw [if_pos rfl]
      refine ⟨fun σ' H' => SameIo io σ σ' ∧ ∃ ρ', StR K c H' (tv ++ σ') (td ++ ρ') ∧ Then (mWhileN mt mb m ρ') (OutTo K c tv td io σ D) (fun x => ∀ H', KeepC c H' → E x H'), fun σ' H' p => ⟨m, Nat.lt_succ_self m, p⟩, ?_⟩
      refine sb c H2 tv td σ1 ρ2 hl st2 _ ((then_bind.mp q2).imp fun o q3 => ?_)
      cases o with
      | next ρ3 => exact fun σ' H' s' st' => ⟨s1.trans s', ρ3, st', q3⟩
      | cont ρ3 => exact fun σ' H' s' st' => ⟨s1.trans s', ρ3, st', q3⟩
      | brk ρ3 => exact fun σ' H' s' st' => q3 σ' H' (s1.trans s') st'
      | ret t ρ3 => exact fun v σ' H' s' st' => q3 v σ' H' (s1.trans s') st'
theorem qs_while {c' : Expr} {body : List Stmt} {tc : TT} {mt : MT} {tb : TS} {mb : MS} (hp : PassesOwn (model X.prog X.w) X.A X.env X.xe) (hc : QT X E c' tc mt) (hb : QSs X E io body tb mb) : QS X E io (.While c' body [] pos) (tWhile tc tb) (mWhile mt mb) := ⟨ps_while hp hc.pt hb.ps, sim_while hc.sim hb.sim⟩
end
end L3
/-! L3h -/
/-! L3h: comprehensions; lists changed where they lie. -/
namespace L3
open PySem PySem.Spec PyProof.Rows L2

/-! ### comprehensions -/
def wipeE (ρ : Env) : List Nat → Env
  | [] => ρ
  | v :: vs => (wipeE ρ vs).set v none
section
variable {K : PySem.W.Frag} {c : C0} {H : Hp}
theorem StR.gone {tv : List (Option V)} {td : Env} {σ : L2.St} {ρ : Env} {i : Nat} (hl : tv.length = td.length) (h : StR K c H (tv ++ σ) (td ++ ρ)) (o : Option V) : StR K c H (tv ++ σ.set i o) (td ++ ρ.set i none) := by
  obtain ⟨A, w⟩ := h
  have hlen := w.slots.len
  by_cases hi : i < σ.length
  · obtain ⟨B, hb, ar, _⟩ := w.slots.around (i := tv.length + i) (by rw [List.length_append]; omega)
    obtain ⟨C, s, z⟩ := ar.gone o
    rw [app_set rfl, app_set hl.symm] at s
    exact ⟨C, w.remake (fun a => by rw [z a]; exact hb a) s⟩
  · have hi2 : ¬ i < ρ.length := by
      rw [List.length_append, List.length_append] at hlen; omega
    rw [List.set_eq_of_length_le (by omega), List.set_eq_of_length_le (by omega)]
    exact ⟨A, w⟩
theorem StR.wiped {tv : List (Option V)} {td : Env} {σ : L2.St} {ρ : Env} (hl : tv.length = td.length) (h : StR K c H (tv ++ σ) (td ++ ρ)) : ∀ vs : List Nat, StR K c H (tv ++ wipe σ vs) (td ++ wipeE ρ vs)
  | [] => h
  | v :: vs => (StR.wiped hl h vs).gone hl none
/-- the slots' values do not matter where nothing is told of them -/
theorem StR.any {tv : List (Option V)} {td : Env} {σ σ' : L2.St} {ρ : Env} (hl : tv.length = td.length) (h : StR K c H (tv ++ σ) (td ++ ρ)) {vs : List Nat} (hz : σ'.length = σ.length) (hs : ∀ (i : Nat), i ∉ vs → σ'[i]? = σ[i]?) (hn : ∀ (i : Nat), i ∈ vs → ∀ (t : T), ρ[i]? ≠ some (some t)) : StR K c H (tv ++ σ') (td ++ ρ) := by
  obtain ⟨A, w⟩ := h
  refine ⟨A, w.uniq, ?_, w.own, w.keep⟩
  have key : ∀ {σ σ' : L2.St} {ρ : Env} {F : Addr → Prop} {B : List Addr}, σ'.length = σ.length → (∀ (i : Nat) (t : T), ρ[i]? = some (some t) → σ'[i]? = σ[i]?) → Sl K F H σ ρ B → Sl K F H σ' ρ B := by
    intro σ
    induction σ with
    | nil =>
      intro σ' ρ F B hz _ s
      have : σ' = [] := List.eq_nil_of_length_eq_zero (by simpa using hz)
      subst this
      exact s
    | cons o σ ih =>
      intro σ' ρ F B hz hs s
      cases σ' with
      | nil => simp at hz
      | cons o' σ' =>
        cases s with
        | skip s => exact .skip (ih (by simpa using hz) (fun i t e => by simpa using hs (i + 1) t (by simpa using e)) s)
        | cons x s =>
          have := hs 0 _ rfl
          rename_i v0 t0 ρ0 A0 B0
          have e : o' = some v0 := by simpa using this
          subst e
          exact .cons x (ih (by simpa using hz) (fun i t e => by simpa using hs (i + 1) t (by simpa using e)) s)
  refine key (σ := tv ++ σ) (by simp [hz]) (fun i t e => ?_) w.slots
  by_cases hi : i < tv.length
  · rw [List.getElem?_append_left hi, List.getElem?_append_left hi]
  · obtain ⟨j, rfl⟩ : ∃ j, i = tv.length + j := ⟨i - tv.length, by omega⟩
    rw [app_at rfl, app_at rfl]
    rw [app_at hl.symm] at e
    exact hs j fun z => hn j z t e
theorem wipe_get {σ : L2.St} : ∀ {vs : List Nat} {i : Nat}, i ∉ vs → (wipe σ vs)[i]? = σ[i]?
  | [], _, _ => rfl
  | v :: vs, i, h => by
    show ((wipe σ vs).set v none)[i]? = _
    rw [List.getElem?_set_ne (fun e => h (by rw [e]; exact List.mem_cons_self)), wipe_get fun z => h (List.mem_cons_of_mem _ z)]
theorem wipeE_none {ρ : Env} : ∀ {vs : List Nat} {i : Nat}, i ∈ vs → ∀ t, (wipeE ρ vs)[i]? ≠ some (some t)
  | [], _, h, _ => by simp at h
  | v :: vs, i, h, t => by
    intro e
    have e : ((wipeE ρ vs).set v none)[i]? = some (some t) := e
    by_cases hv : v = i
    · subst hv
      by_cases hl : v < (wipeE ρ vs).length
      · rw [List.getElem?_set_self hl] at e; cases e
      · rw [List.getElem?_eq_none (by simpa using hl)] at e; cases e
    · rw [List.getElem?_set_ne hv] at e
      rcases List.mem_cons.mp h with z | z
      · exact hv z.symm
      · exact wipeE_none z t e
theorem wipe_eq {σ σ' : L2.St} (hl : σ'.length = σ.length) : ∀ {vs : List Nat}, (∀ i, i ∉ vs → σ'[i]? = σ[i]?) → wipe σ' vs = wipe σ vs := by
  intro vs h
  apply List.ext_getElem?
  intro i
  by_cases hi : i ∈ vs
  · have hn : ∀ (τ : L2.St), (wipe τ vs)[i]? = if i < τ.length then some none else none := by
      intro τ
      clear h
      induction vs with
      | nil => simp at hi
      | cons v vs ih =>
        show ((wipe τ vs).set v none)[i]? = _
        by_cases hv : v = i
        · subst hv
          by_cases hz : v < τ.length
          · rw [List.getElem?_set_self (by rw [wipe_length]; exact hz), if_pos hz]
          · rw [List.getElem?_eq_none (by rw [List.length_set, wipe_length]; omega), if_neg hz]
        · rw [List.getElem?_set_ne hv]
          exact ih ((List.mem_cons.mp hi).resolve_left fun e => hv e.symm)
    rw [hn, hn, hl]
  · rw [wipe_get hi, wipe_get hi, h i hi]
end
abbrev notOwn (vs : List Nat) : Nat → Bool := fun i => !vs.contains i
def mtYes : MT := fun ρ => .ok (true, ρ)
def mLcLoop (g : MG) (mt : MT) (me : MEx) (vs : List Nat) : List T → List T → Env → R (List T × Env)
  | [], acc, ρ => .ok (acc, ρ)
  | x :: xs, acc, ρ => (ofO (g x (wipeE ρ vs))).bind fun ρ1 => (mt ρ1).bind fun r => if r.1 = true then guard (decide (acc.length < sLine)) ((me r.2).bind fun y => mLcLoop g mt me vs xs (acc ++ [y.1]) y.2) else mLcLoop g mt me vs xs acc r.2
def mLc (mi : MI) (g : MG) (mt : MT) (me : MEx) (vs : List Nat) : MEx := fun ρ => (mi ρ).bind fun r => (mLcLoop g mt me vs r.1 [] r.2).bind fun z => .ok (.ol z.1, wipeE z.2 vs)
theorem RpAll.snoc {K : PySem.W.Frag} {F : Addr → Prop} {H : Hp} : ∀ {vs : List V} {ts : List T} {A B : List Addr} {v : V} {t : T}, RpAll K F H vs ts A → Rp K F H v t B → ∃ C, RpAll K F H (vs ++ [v]) (ts ++ [t]) C ∧ ∀ a, C.count a = A.count a + B.count a
  | _, _, _, B, _, _, .nil, x => ⟨B ++ [], .cons x .nil, fun a => by simp⟩
  | _, _, _, _, _, _, .cons (A := A1) y r, x => by
    obtain ⟨C, r', z⟩ := r.snoc x
    exact ⟨A1 ++ C, .cons y r', fun a => by rw [List.count_append, List.count_append, z a]; omega⟩
/-- a list on top of the state takes the next thing -/
theorem StR.grown {K : PySem.W.Frag} {c : C0} {H : Hp} {L : Addr} {ts : List T} {v : V} {t : T} {sl : List (Option V)} {ρ : Env} (h : StR K c H (some v :: some (.ref L) :: sl) (some t :: some (.ol ts) :: ρ)) :
    ∃ acc, H L = some (.lst acc) ∧ acc.length = ts.length ∧ StR K c (upd H L (.lst (acc ++ [v]))) (some (.ref L) :: sl) (some (.ol (ts ++ [t])) :: ρ) := by
  obtain ⟨A, w⟩ := h
  obtain ⟨A1, B1, eA, x, s⟩ := w.top
  cases s with
  | cons y s =>
    rename_i A2 B2
    cases y with
    | @ol _ acc _ A3 hL r =>
      refine ⟨acc, hL, r.len, ?_⟩
      -- every footprint but L itself is as it was
      have cnt : ∀ a, A.count a = A1.count a + ((L :: A3).count a + B2.count a) := fun a => by rw [eA, List.count_append, List.count_append]
      have hLA : L ∈ A := by rw [eA]; simp
      have nL : ∀ C : List Addr, (∀ a, C.count a + (if L = a then 1 else 0) ≤ A.count a) → ∀ a ∈ C, a ≠ L := fun C hC a ha e => by
        subst e
        have h1 := hC a
        have h2 := w.uniq a
        have h3 := List.count_pos_iff.mpr ha
        rw [if_pos rfl] at h1
        omega
      have cc : ∀ a, (L :: A3).count a = A3.count a + (if L = a then 1 else 0) := fun a => by
        rw [List.count_cons]
        by_cases e : L = a
        · simp [e]
        · simp [e]
      have n1 := nL A1 fun a => by have := cnt a; rw [cc a] at this; omega
      have n3 := nL A3 fun a => by have := cnt a; rw [cc a] at this; omega
      have n2 := nL B2 fun a => by have := cnt a; rw [cc a] at this; omega
      have mo : Mono (Fok c A) (Fok c A) H (upd H L (.lst (acc ++ [v]))) := ⟨fun a vs e f => ⟨by rw [upd_ne (fun z => f.2 (by rw [z]; exact hLA))]; exact e, f⟩, fun a u e st => by
        rw [upd_ne (fun z => by rw [z, hL] at e; cases e; exact st)]
        exact e⟩
      have eqs : ∀ {C : List Addr}, (∀ a ∈ C, a ≠ L) → ∀ a ∈ C, (upd H L (.lst (acc ++ [v]))) a = H a := fun h a ha => upd_ne (h a ha)
      obtain ⟨C, r', z⟩ := (r.mono mo (eqs n3)).snoc (x.mono mo (eqs n1))
      have tot : ∀ a, ((L :: C) ++ B2).count a = A.count a := fun a => by
        rw [List.count_append, cnt a, cc a, List.count_cons]
        have := z a
        by_cases e : L = a
        · simp [e]; omega
        · simp [e]; omega
      refine ⟨(L :: C) ++ B2, fun a => by rw [tot a]; exact w.uniq a, ?_, fun a ha => w.own a (List.count_pos_iff.mp (by rw [← tot a]; exact List.count_pos_iff.mpr ha)), ⟨fun a o e n => ?_, fun a e => ?_⟩⟩
      · have m2 : Mono (Fok c A) (Fok c ((L :: C) ++ B2)) (upd H L (.lst (acc ++ [v]))) (upd H L (.lst (acc ++ [v]))) := .sub fun a _ => Fok.sub (fun a => Nat.le_of_eq (tot a)) a
        exact (Sl.cons (Rp.ol upd_same r') (s.mono mo (eqs n2))).mono m2 fun _ _ => rfl
      · rw [upd_ne]
        · exact w.keep.keep a o e n
        · intro z
          subst z
          rcases w.own a hLA with y | y
          · exact n y
          · rw [e] at y; cases y
      · by_cases z : a = L
        · subst z
          rw [upd_same] at e; cases e
        · rw [upd_ne z] at e
          exact w.keep.there a e
section
variable {X : Cx} {E : Str → Hp → Prop} {pos : Pos}
theorem sim_lc {K : PySem.W.Frag} {wi : TI} {mi : MI} {g : TG} {mg : MG} {tt : TT} {mt : MT} {te : TE} {me : MEx} {vs : List Nat} {g1 : Bool} (si : SimI K E wi mi) (sg : SimG K (notOwn vs) g mg) (st' : SimT K E tt mt) (se : SimE K E g1 te me) : SimE K E false (tLc wi g tt te vs) (mLc mi mg mt me vs) := by
  intro c H tv td σ ρ hl st Q q
  unfold mLc at q
  rw [then_bind] at q
  refine si c H tv td σ ρ hl st _ (q.imp ?_)
  rintro ⟨items, ρ0⟩ q0 J H0 xv xt S st0
  intro L hL
  have q1 := then_bind.mp q0
  -- the state while it runs: the new list on top, then the source
  let Pv : Nat → Hp → Prop := fun i H' => ∃ acc ρ', StR K c H' (some (.ref L) :: (xv ++ (tv ++ wipe σ vs))) (some (.ol acc) :: (xt ++ (td ++ wipeE ρ' vs))) ∧
    Then (mLcLoop mg mt me vs (items.drop i) acc ρ') (fun z => ∀ v H', (false = true → Same H H') → StR K c H' (some v :: (tv ++ σ)) (some (.ol z.1) :: (td ++ wipeE z.2 vs)) → Q v H') (fun x => ∀ H', KeepC c H' → E x H')
  refine ⟨fun i m H' => m = items.length - i ∧ i ≤ items.length ∧ Pv i H', ⟨items.length, by simp, Nat.zero_le _, [], ρ0, ?_, ?_⟩, ?_⟩
  · have s2 : StR K c H0 ((xv ++ tv) ++ wipe σ vs) ((xt ++ td) ++ wipeE ρ0 vs) := StR.wiped (by simp [S.len, hl]) (by simpa [List.append_assoc] using st0) vs
    obtain ⟨A, w⟩ := s2
    have sm := same_upd (o := .lst []) hL
    have m0 : Mono (Fok c A) (Fok c (L :: A)) H0 H0 := Fok.fresh hL
    have sl2 := (w.slots.mono m0 fun _ _ => rfl).mono (.same sm) fun a ha => upd_ne (fun z => w.not_mem_of_none hL (by rw [← z]; exact ha))
    have := Sl.cons (Rp.ol (K := K) (F := Fok c (L :: A)) (H := upd H0 L (.lst [])) (a := L) upd_same .nil) sl2
    refine ⟨L :: A, fun a => ?_, by simpa [List.append_assoc] using this, fun a ha => ?_, w.keep.grow sm⟩
    · rw [List.count_cons]
      have h2 := w.uniq a
      by_cases e : L = a
      · subst e
        have : A.count L = 0 := List.count_eq_zero.mpr (w.not_mem_of_none hL)
        simp [this]
      · have e' : (L == a) = false := by simpa using e
        simp [e']; omega
    · rcases List.mem_cons.mp ha with z | z
      · subst z
        exact .inr (w.keep.there _ hL)
      · exact w.own a z
  · exact q1
  · rintro i m H1 ⟨rfl, hi, acc, ρ1, st1, q1⟩
    by_cases hlt : i < items.length
    · refine .inr ⟨S.goes c H1 _ _ i hlt st1.drop, Pv (i + 1), fun H' p => ⟨items.length - (i + 1), by omega, rfl, hlt, p⟩, fun x H' y => ?_⟩
      have eI : items[i]? = some items[i] := List.getElem?_eq_getElem hlt
      rw [List.drop_eq_getElem_cons hlt] at q1
      -- the source below the new list
      have st1r : StR K c H1 (xv ++ (some (.ref L) :: (tv ++ wipe σ vs))) (xt ++ (some (.ol acc) :: (td ++ wipeE ρ1 vs))) := by
        obtain ⟨A, w⟩ := st1
        obtain ⟨C, s, z⟩ := Sl.sink S.len w.slots
        exact ⟨C, w.remake (fun a => Nat.le_of_eq (z a)) s⟩
      obtain ⟨sm, st2⟩ := S.yields c H1 _ _ i x H' _ eI st1r y
      obtain ⟨ρ2, e2, q2⟩ := then_ofO.mp (then_bind.mp q1)
      refine sg c H' (xv ++ (some (.ref L) :: tv)) (xt ++ (some (.ol acc) :: td)) (wipe σ vs) _ ρ2 x items[i] (by simp [S.len, hl]) (by simpa [List.append_assoc] using st2) e2 _ fun σ2 H2 s2 st3 => ?_
      have ew : wipe σ2 vs = wipe σ vs := by
        have h1 : wipe σ2 vs = wipe (wipe σ vs) vs := wipe_eq s2.len fun i hi => s2.same i (by show (!vs.contains i) = true; simp [hi])
        have h2 : wipe (wipe σ vs) vs = wipe σ vs := wipe_eq (wipe_length σ vs) fun i hi => wipe_get hi
        rw [h1, h2]
      refine ⟨ew, ?_⟩
      refine st' c H2 (xv ++ (some (.ref L) :: tv)) (xt ++ (some (.ol acc) :: td)) σ2 ρ2 (by simp [S.len, hl]) st3 _ ((then_bind.mp q2).imp ?_)
      rintro ⟨b, ρ3⟩ q3 H3 st4
      -- back: the new list on top, slots wiped
      have back : ∀ {H'' : Hp} {ρ'' : Env} {acc' : List T}, StR K c H'' (xv ++ (some (.ref L) :: (tv ++ σ2))) (xt ++ (some (.ol acc') :: (td ++ ρ''))) → StR K c H'' (some (.ref L) :: (xv ++ (tv ++ wipe σ vs))) (some (.ol acc') :: (xt ++ (td ++ wipeE ρ'' vs))) := by
        intro H'' ρ'' acc' h
        have h2 := StR.raiseO S.len h
        have h3 := StR.wiped (tv := some (.ref L) :: (xv ++ tv)) (td := some (.ol acc') :: (xt ++ td)) (by simp [S.len, hl]) (by simpa [List.append_assoc] using h2) vs
        rw [ew] at h3
        simpa [List.append_assoc] using h3
      cases b with
      | false =>
        rw [if_neg (show ¬ (false = true) by decide)]
        exact ⟨acc, ρ3, back (by simpa [List.append_assoc] using st4), q3⟩
      | true =>
        rw [if_pos rfl]
        obtain ⟨gd, q4⟩ := then_guard.mp q3
        refine se c H3 (xv ++ (some (.ref L) :: tv)) (xt ++ (some (.ol acc) :: td)) σ2 ρ3 (by simp [S.len, hl]) st4 _ ((then_bind.mp q4).imp ?_)
        rintro ⟨t, ρ4⟩ q5 v H4 _ st5
        have st6 : StR K c H4 (some (.ref L) :: (some v :: (xv ++ (tv ++ σ2)))) (some (.ol acc) :: (some t :: (xt ++ (td ++ ρ4)))) := StR.raiseO (xs := some v :: xv) (as := some t :: xt) (by simp [S.len]) (by simpa [List.append_assoc] using st5)
        have st7 : StR K c H4 (some v :: (some (.ref L) :: (xv ++ (tv ++ σ2)))) (some t :: (some (.ol acc) :: (xt ++ (td ++ ρ4)))) := StR.raiseO (xs := [some (.ref L)]) (as := [some (.ol acc)]) rfl st6
        obtain ⟨vacc, hv, hlen, st8⟩ := st7.grown
        refine ⟨vacc, hv, by rw [hlen, ← sLine_eq]; exact of_decide_eq_true gd, acc ++ [t], ρ4, ?_, q5⟩
        have h3 := StR.wiped (tv := some (.ref L) :: (xv ++ tv)) (td := some (.ol (acc ++ [t])) :: (xt ++ td)) (by simp [S.len, hl]) (by simpa [List.append_assoc] using st8) vs
        rw [ew] at h3
        simpa [List.append_assoc] using h3
    · have e : i = items.length := by omega
      subst e
      rw [List.drop_length] at q1
      refine .inl ⟨S.stops c H1 _ _ st1.drop, q1 _ H1 (fun z => by cases z) ?_⟩
      have h2 := StR.dropN1 S.len st1
      exact StR.any (tv := some (.ref L) :: tv) (td := some (.ol acc) :: td) (vs := vs) (by simp [hl]) h2 (wipe_length σ vs).symm (fun i hi => (wipe_get hi).symm) fun i hi t => wipeE_none hi t
where
  Sl.sink {K : PySem.W.Frag} {F : Addr → Prop} {H : Hp} {xs : List (Option V)} {as : Env} {ys : List (Option V)} {bs : Env} {v : Option V} {t : Option T} {A : List Addr} (hl : xs.length = as.length) (h : Sl K F H (v :: (xs ++ ys)) (t :: (as ++ bs)) A) : ∃ C, Sl K F H (xs ++ v :: ys) (as ++ t :: bs) C ∧ ∀ a, C.count a = A.count a := by
    induction xs generalizing as A with
    | nil =>
      cases as with
      | nil => exact ⟨A, h, fun _ => rfl⟩
      | cons _ _ => simp at hl
    | cons o xs ih =>
      cases as with
      | nil => simp at hl
      | cons a as =>
        have hl' : xs.length = as.length := by simpa using hl
        cases h with
        | skip s =>
          cases s with
          | skip s =>
            obtain ⟨C, s', z⟩ := ih hl' (.skip s)
            exact ⟨C, .skip s', z⟩
          | cons x s =>
            rename_i A1 B1
            obtain ⟨C, s', z⟩ := ih hl' (.skip s)
            exact ⟨_, .cons x s', fun a => by rw [List.count_append, List.count_append, z a]⟩
        | cons y s =>
          rename_i A0 B0
          cases s with
          | skip s =>
            obtain ⟨C, s', z⟩ := ih hl' (.cons y s)
            exact ⟨C, .skip s', z⟩
          | cons x s =>
            rename_i A1 B1
            obtain ⟨C, s', z⟩ := ih hl' (.cons y s)
            exact ⟨_, .cons x s', fun a => by have := z a; simp only [List.count_append] at this ⊢; omega⟩
end
end L3
/-! L3i -/
/-! L3i: lists changed where they lie. -/
namespace L3
open PySem PySem.Spec PyProof.Rows L2

/-! ### places in a tree -/
def T.at? : List Int → T → Option T
  | [], t => some t
  | j :: js, .ol ts => (atI ts j).bind (T.at? js)
  | j :: js, .ot ts => (atI ts j).bind (T.at? js)
  | _ :: _, _ => none
def T.put? : List Int → T → T → Option T
  | [], n, _ => some n
  | j :: js, n, .ol ts => (ixN ts.length j).bind fun k => (ts[k]?).bind fun t => (T.put? js n t).map fun t' => .ol (ts.set k t')
  | j :: js, n, .ot ts => (ixN ts.length j).bind fun k => (ts[k]?).bind fun t => (T.put? js n t).map fun t' => .ot (ts.set k t')
  | _ :: _, _, _ => none
inductive Loc (H : Hp) : V → List Int → V → Prop
  | here (v : V) : Loc H v [] v
  | lst {a : Addr} {vs : List V} {j : Int} {js : List Int} {v u : V} : H a = some (.lst vs) → atI vs j = some v → Loc H v js u → Loc H (.ref a) (j :: js) u
  | tup {a : Addr} {vs : List V} {j : Int} {js : List Int} {v u : V} : H a = some (.tup vs) → atI vs j = some v → Loc H v js u → Loc H (.ref a) (j :: js) u
theorem Loc.uniq {H : Hp} : ∀ {v : V} {p : List Int} {u u' : V}, Loc H v p u → Loc H v p u' → u = u'
  | _, _, _, _, .here _, .here _ => rfl
  | _, _, _, _, .lst h1 h2 h3, .lst g1 g2 g3 => by
    rw [h1] at g1; cases g1
    rw [h2] at g2; cases g2
    exact h3.uniq g3
  | _, _, _, _, .tup h1 h2 h3, .tup g1 g2 g3 => by
    rw [h1] at g1; cases g1
    rw [h2] at g2; cases g2
    exact h3.uniq g3
  | _, _, _, _, .lst h1 _ _, .tup g1 _ _ => by rw [h1] at g1; cases g1
  | _, _, _, _, .tup h1 _ _, .lst g1 _ _ => by rw [h1] at g1; cases g1
theorem Loc.grow {H H' : Hp} (s : Same H H') : ∀ {v : V} {p : List Int} {u : V}, Loc H v p u → Loc H' v p u
  | _, _, _, .here v => .here v
  | _, _, _, .lst h1 h2 h3 => .lst (s _ _ h1) h2 (h3.grow s)
  | _, _, _, .tup h1 h2 h3 => .tup (s _ _ h1) h2 (h3.grow s)
theorem Loc.snoc {H : Hp} : ∀ {v : V} {p : List Int} {u w : V} {j : Int}, Loc H v p u → Loc H u [j] w → Loc H v (p ++ [j]) w
  | _, _, _, _, _, .here v, k => k
  | _, _, _, _, _, .lst h1 h2 h3, k => .lst h1 h2 (h3.snoc k)
  | _, _, _, _, _, .tup h1 h2 h3, k => .tup h1 h2 (h3.snoc k)
theorem at_snoc {j : Int} : ∀ {p : List Int} {t0 t : T}, T.at? (p ++ [j]) t0 = some t → ∃ t1, T.at? p t0 = some t1 ∧ T.at? [j] t1 = some t
  | [], t0, t, h => ⟨t0, rfl, h⟩
  | i :: p, .ol ts, t, h => by
    obtain ⟨t2, e1, e2⟩ := Option.bind_eq_some_iff.mp (show (atI ts i).bind (T.at? (p ++ [j])) = some t from h)
    obtain ⟨t1, e3, e4⟩ := at_snoc e2
    exact ⟨t1, by show (atI ts i).bind _ = _; rw [e1]; exact e3, e4⟩
  | i :: p, .ot ts, t, h => by
    obtain ⟨t2, e1, e2⟩ := Option.bind_eq_some_iff.mp (show (atI ts i).bind (T.at? (p ++ [j])) = some t from h)
    obtain ⟨t1, e3, e4⟩ := at_snoc e2
    exact ⟨t1, by show (atI ts i).bind _ = _; rw [e1]; exact e3, e4⟩
  | _ :: _, .d _, _, h => by cases h
  | _ :: _, .od _ _, _, h => by cases h
  | _ :: _, .ob _ _ _, _, h => by cases h
  | _ :: _, .rd _, _, h => by cases h
section
variable {K : PySem.W.Frag} {F F' : Addr → Prop} {H H' : Hp}
structure Put1 (K : PySem.W.Frag) (F : Addr → Prop) (H : Hp) (k : Nat) (vs : List V) (ts : List T) (B : List Addr) : Prop where
  put : ∀ {F' : Addr → Prop} {H' : Hp}, Mono F F' H H' → (∀ a ∈ B, H' a = H a) → ∀ {v' : V} {t' : T} {A2 : List Addr}, Rp K F' H' v' t' A2 → ∃ C, RpAll K F' H' (vs.set k v') (ts.set k t') C ∧ ∀ a, C.count a = A2.count a + B.count a
theorem RpAll.around : ∀ {vs : List V} {ts : List T} {A : List Addr}, RpAll K F H vs ts A → ∀ {k : Nat} {t : T}, ts[k]? = some t → ∃ (v : V) (A1 B : List Addr), vs[k]? = some v ∧ Rp K F H v t A1 ∧ (∀ a, A.count a = A1.count a + B.count a) ∧ Put1 K F H k vs ts B
  | _, _, _, .nil, k, t, h => by simp at h
  | _, _, _, .cons (v := v) (A := A1) (B := B1) x r, 0, t, h => by
    simp at h; subst h
    exact ⟨v, A1, B1, rfl, x, fun a => by rw [List.count_append], ⟨fun m k v' t' A2 y => ⟨A2 ++ B1, .cons y (r.mono m k), fun a => by rw [List.count_append]⟩⟩⟩
  | _, _, _, .cons (A := A0) (B := B0) x r, k + 1, t, h => by
    obtain ⟨v, A1, B, e, y, hc, p⟩ := r.around (k := k) (t := t) (by simpa using h)
    refine ⟨v, A1, A0 ++ B, by simpa using e, y, fun a => by rw [List.count_append, List.count_append, hc a]; omega, ⟨fun m kk v' t' A2 z => ?_⟩⟩
    obtain ⟨C, s, w⟩ := p.put m (fun a ha => kk a (List.mem_append_right _ ha)) z
    exact ⟨A0 ++ C, .cons (x.mono m fun a ha => kk a (List.mem_append_left _ ha)) s, fun a => by rw [List.count_append, List.count_append, w a]; omega⟩
theorem atI_ix {α : Type} {xs : List α} {j : Int} {x : α} (h : atI xs j = some x) : ∃ k, ixN xs.length j = some k ∧ xs[k]? = some x := by
  obtain ⟨k, e1, e2⟩ := Option.bind_eq_some_iff.mp (show (ixN xs.length j).bind (fun k => xs[k]?) = some x from h)
  exact ⟨k, e1, e2⟩
/-- a part of a tree: where it lies, what is around it -/
theorem Rp.loc : ∀ {p : List Int} {v0 : V} {t0 t : T} {A0 : List Addr}, Rp K F H v0 t0 A0 → T.at? p t0 = some t → ∃ (v : V) (A1 B : List Addr), Loc H v0 p v ∧ Rp K F H v t A1 ∧ (∀ a, A0.count a = A1.count a + B.count a) ∧
    ∀ {F' : Addr → Prop} {H' : Hp}, Mono F F' H H' → (∀ a ∈ B, H' a = H a) → ∀ {t' : T} {A2 : List Addr}, Rp K F' H' v t' A2 → ∃ t0' C, T.put? p t' t0 = some t0' ∧ Rp K F' H' v0 t0' C ∧ ∀ a, C.count a = A2.count a + B.count a
  | [], v0, t0, t, A0, h, e => by
    cases e
    exact ⟨v0, A0, [], .here v0, h, fun a => by simp, fun m k t' A2 x => ⟨t', A2, rfl, x, fun a => by simp⟩⟩
  | j :: js, _, .ol ts, t, _, .ol (a := a0) (vs := vs) (A := A1) h r, e => by
    obtain ⟨t1, e1, e2⟩ := Option.bind_eq_some_iff.mp (show (atI ts j).bind (T.at? js) = some t from e)
    obtain ⟨k, ek, ev⟩ := atI_ix e1
    obtain ⟨v1, A2, B2, g1, g2, g3, g4⟩ := r.around ev
    obtain ⟨v, A3, B3, l, x, hc, pt⟩ := Rp.loc g2 e2
    have lv : atI vs j = some v1 := by
      show (ixN vs.length j).bind (fun k => vs[k]?) = _
      rw [r.len, ek]; exact g1
    refine ⟨v, A3, a0 :: (B3 ++ B2), .lst h lv l, x, fun a => by rw [List.count_cons, List.count_cons, List.count_append, g3 a, hc a]; omega, fun {F' H'} m kk t' A4 y => ?_⟩
    have k2 : ∀ a ∈ B2, H' a = H a := fun a ha => kk a (List.mem_cons_of_mem _ (List.mem_append_right _ ha))
    have k3 : ∀ a ∈ B3, H' a = H a := fun a ha => kk a (List.mem_cons_of_mem _ (List.mem_append_left _ ha))
    obtain ⟨t1', C, q1, q2, q3⟩ := pt m k3 y
    obtain ⟨C2, s, q4⟩ := g4.put m k2 q2
    have es : vs.set k v1 = vs := set_self g1
    rw [es] at s
    refine ⟨.ol (ts.set k t1'), a0 :: C2, ?_, .ol ((kk a0 List.mem_cons_self).trans h) s, fun a => by rw [List.count_cons, List.count_cons, List.count_append, q4 a, q3 a]; omega⟩
    show (ixN ts.length j).bind _ = _
    rw [ek]
    show (ts[k]?).bind _ = _
    rw [ev]
    show (T.put? js t' t1).map _ = _
    rw [q1]
    rfl
  | j :: js, _, .ot ts, t, _, .ot (a := a0) (vs := vs) (A := A1) h r, e => by
    obtain ⟨t1, e1, e2⟩ := Option.bind_eq_some_iff.mp (show (atI ts j).bind (T.at? js) = some t from e)
    obtain ⟨k, ek, ev⟩ := atI_ix e1
    obtain ⟨v1, A2, B2, g1, g2, g3, g4⟩ := r.around ev
    obtain ⟨v, A3, B3, l, x, hc, pt⟩ := Rp.loc g2 e2
    have lv : atI vs j = some v1 := by
      show (ixN vs.length j).bind (fun k => vs[k]?) = _
      rw [r.len, ek]; exact g1
    refine ⟨v, A3, B3 ++ B2, .tup h lv l, x, fun a => by rw [List.count_append, g3 a, hc a]; omega, fun {F' H'} m kk t' A4 y => ?_⟩
    have k2 : ∀ a ∈ B2, H' a = H a := fun a ha => kk a (List.mem_append_right _ ha)
    have k3 : ∀ a ∈ B3, H' a = H a := fun a ha => kk a (List.mem_append_left _ ha)
    obtain ⟨t1', C, q1, q2, q3⟩ := pt m k3 y
    obtain ⟨C2, s, q4⟩ := g4.put m k2 q2
    have es : vs.set k v1 = vs := set_self g1
    rw [es] at s
    refine ⟨.ot (ts.set k t1'), C2, ?_, .ot (m.still _ _ h trivial) s, fun a => by rw [q4 a, q3 a, List.count_append]; omega⟩
    show (ixN ts.length j).bind _ = _
    rw [ek]
    show (ts[k]?).bind _ = _
    rw [ev]
    show (T.put? js t' t1).map _ = _
    rw [q1]
    rfl
  | _ :: _, _, .d _, _, _, _, e => by cases e
  | _ :: _, _, .od _ _, _, _, _, e => by cases e
  | _ :: _, _, .ob _ _ _, _, _, _, e => by cases e
  | _ :: _, _, .rd _, _, _, _, e => by cases e
end

/-! ### containers -/
def T.int? : T → Option Int
  | .d (.int j) => some j
  | _ => none
theorem int?_eq {t : T} {j : Int} (h : t.int? = some j) : t = .d (.int j) := by
  unfold T.int? at h
  split at h
  · cases h; rfl
  · cases h
abbrev ML := Env → Option (List Int)
def SimL (K : PySem.W.Frag) (i : Nat) (te : TE) (mp : ML) : Prop :=
  ∀ (c : C0) (H : Hp) (tv : List (Option V)) (td : Env) (σ : L2.St) (ρ : Env) (A : List Addr) (p : List Int) (t0 t : T), tv.length = td.length → StW K c H (tv ++ σ) (td ++ ρ) A → mp ρ = some p → ρ[i]? = some (some t0) → T.at? p t0 = some t → ∀ Q : VK,
    (∀ v0 v, σ[i]? = some (some v0) → Loc H v0 p v → Q v H) → te σ H Q
structure QL (X : Cx) (i : Nat) (e : Expr) (te : TE) (mp : ML) : Prop where
  pe : PE X e te
  sim : SimL X.K i te mp
def lHere : ML := fun _ => some []
def lIx (mp : ML) (mi : MP) : ML := fun ρ => (mp ρ).bind fun p => ((mi ρ).bind T.int?).bind fun j => some (p ++ [j])
section
variable {X : Cx} {E : Str → Hp → Prop} {a b : Expr} {ta tb : TE} {pos : Pos}
theorem ql_name (i : Nat) {x : Str} {pos : Pos} (hN : X.N[i]? = some x := by rfl) (hv : Vis X.env.scope x := by first | exact Or.inl rfl | exact Or.inr (Or.inl rfl) | exact Or.inr (Or.inr rfl)) (hd : (x == ("__debug__" : Str)) = false := by decide)
    (hcd : (x == ("__classdict__" : Str)) = false := by decide) : QL X i (.Name x pos) (tVar i) lHere := ⟨pe_var hN hv hd hcd, fun c H tv td σ ρ A p t0 t hl w e1 e2 e3 Q q => by
  cases e1
  obtain ⟨v, A1, e4, _, _⟩ := w.see hl e2
  exact ⟨v, e4, q v v e4 (.here v)⟩⟩
theorem ql_ix {i : Nat} {mp : ML} {mi : MP} (ha : QL X i a ta mp) (hb : QP X b tb mi) (hs : PlainIx b := by exact fun _ _ => rfl) : QL X i (.Subscript a b pos) (tOp (rIx X.K) ta tb) (lIx mp mi) := by
  refine ⟨pe_ix ix_seq ha.pe hb.pe hs, fun c H tv td σ ρ A p t0 t hl w e1 e2 e3 Q q => ?_⟩
  unfold lIx at e1
  obtain ⟨p0, e4, e5⟩ := Option.bind_eq_some_iff.mp e1
  obtain ⟨j, e6', e7⟩ := Option.bind_eq_some_iff.mp e5
  obtain ⟨tj, e6, e60⟩ := Option.bind_eq_some_iff.mp e6'
  · cases e7
    cases int?_eq e60
    obtain ⟨t1, e8, e9⟩ := at_snoc e3
    obtain ⟨v0, A0, ev0, r0, _⟩ := w.see hl e2
    refine ha.sim c H tv td σ ρ A p0 t0 t1 hl w e4 e2 e8 _ fun v0' v1 ev0' l1 => ?_
    rw [ev0] at ev0'; cases ev0'
    obtain ⟨v1', A1, B1, l1', r1, _, _⟩ := r0.loc e8
    have := l1.uniq l1'
    subst this
    obtain ⟨v2, A2, B2, l2, _, _, _⟩ := r1.loc e9
    refine hb.sim c H tv td σ ρ A _ hl w e6 _ fun u A3 r3 _ => ?_
    have eu := r3.i
    cases l2 with
    | lst h1 h2 h3 =>
      cases h3
      exact .inl ⟨_, _, j, v2, rfl, eu, .of h1, h2, q v0 v2 ev0 (l1.snoc (.lst h1 h2 (.here _)))⟩
    | tup h1 h2 h3 =>
      cases h3
      exact .inr (.inl ⟨_, _, j, v2, rfl, eu, .of h1, h2, q v0 v2 ev0 (l1.snoc (.tup h1 h2 (.here _)))⟩)
end

/-! ### a list's methods that change it -/
def UpdV (K : PySem.W.Frag) (rM : V → List V → Hp → VK → Prop) (op : List T → List T → Option (T × List T)) : Prop :=
  ∀ (F : Addr → Prop) (H : Hp) (a : Addr) (vs ys : List V) (ts us : List T) (A1 A2 : List Addr) (r : T × List T), H a = some (.lst vs) → RpAll K F H vs ts A1 → RpAll K F H ys us A2 → op ts us = some r → ∀ Q : VK,
    (∀ res vs' C1 C2, Rp K F H res r.1 C1 → RpAll K F H vs' r.2 C2 → (∀ b, C1.count b + C2.count b ≤ A1.count b + A2.count b) → Q res (upd H a (.lst vs'))) → rM (.ref a) ys H Q
def lstAt (p : List Int) (o : Option (Option T)) : Option (List T) := match o with
  | some (some t) => (match T.at? p t with | some (.ol ts) => some ts | _ => none)
  | _ => none
def putAt (i : Nat) (p : List Int) (ts : List T) (ρ : Env) : Option Env := match ρ[i]? with
  | some (some t) => (T.put? p (.ol ts) t).map fun t' => ρ.set i (some t')
  | _ => none
def mMeth (i : Nat) (mp : ML) (op : List T → List T → Option (T × List T)) (ma : MA) : MEx := fun ρ => (ofO (mp ρ)).bind fun p => (ofO (lstAt p ρ[i]?)).bind fun _ => (ma ρ).bind fun r => (ofO (lstAt p r.2[i]?)).bind fun ts => (ofO (op ts r.1)).bind fun z => (ofO (putAt i p z.2 r.2)).bind fun ρ' => .ok (z.1, ρ')
theorem lstAt_some {p : List Int} {o : Option (Option T)} {ts : List T} (h : lstAt p o = some ts) : ∃ t, o = some (some t) ∧ T.at? p t = some (.ol ts) := by
  unfold lstAt at h
  split at h
  · rename_i t
    split at h
    · rename_i e
      cases h
      exact ⟨t, rfl, e⟩
    · cases h
  · cases h
/-- the heart: a list that lies in slot i at p is written -/
theorem StW.write {K : PySem.W.Frag} {c : C0} {H : Hp} {tv : List (Option V)} {td : Env} {σ : L2.St} {ρ : Env} {A Aa B : List Addr} (hl : tv.length = td.length) (u : ∀ a, A.count a ≤ 1) (ow : ∀ a ∈ A, a ∈ c.A0 ∨ c.H0 a = none) (k : KeepC c H) (hc : ∀ a, Aa.count a + B.count a ≤ A.count a)
    (s : Sl K (Fok c A) H (tv ++ σ) (td ++ ρ) B) {i : Nat} {p : List Int} {t0 : T} {ts : List T} (e0 : ρ[i]? = some (some t0)) (e1 : T.at? p t0 = some (.ol ts)) :
    ∃ (v0 : V) (a : Addr) (vs : List V) (A1 : List Addr), σ[i]? = some (some v0) ∧ Loc H v0 p (.ref a) ∧ H a = some (.lst vs) ∧ RpAll K (Fok c A) H vs ts A1 ∧
      ∀ (res : V) (tr : T) (vs' : List V) (ts' : List T) (C1 C2 : List Addr) (ρ' : Env), Rp K (Fok c A) H res tr C1 → RpAll K (Fok c A) H vs' ts' C2 → (∀ b, C1.count b + C2.count b ≤ A1.count b + Aa.count b) → putAt i p ts' ρ = some ρ' →
        StR K c (upd H a (.lst vs')) (some res :: (tv ++ σ)) (some tr :: (td ++ ρ')) := by
  have hlen := s.len
  have hi : i < ρ.length := (List.getElem?_eq_some_iff.mp e0).1
  obtain ⟨B1, hb, ar, get⟩ := s.around (i := tv.length + i) (by rw [hlen, List.length_append]; omega)
  obtain ⟨v0, A0, e3, x, hc1⟩ := get t0 (by rw [app_at hl.symm, e0])
  rw [app_at rfl] at e3
  obtain ⟨v, Al, Bl, l, xl, hc2, pt⟩ := x.loc e1
  cases xl with
  | @ol a vs _ A1 ha ra =>
    refine ⟨v0, a, vs, A1, e3, l, ha, ra, fun res tr vs' ts' C1 C2 ρ' xr xs hC ep => ?_⟩
    have cc : ∀ b, (a :: A1).count b = A1.count b + (if a = b then 1 else 0) := fun b => by
      rw [List.count_cons]
      by_cases e : a = b
      · simp [e]
      · simp [e]
    have tot : ∀ b, A1.count b + (if a = b then 1 else 0) + Bl.count b + B1.count b + Aa.count b ≤ A.count b := fun b => by
      have h1 := hc b
      have h2 := hc1 b
      have h3 := hc2 b
      have h4 := cc b
      omega
    have aA : a ∈ A := List.count_pos_iff.mp (by have := tot a; rw [if_pos rfl] at this; omega)
    have ne : ∀ {C : List Addr}, (∀ b, C.count b + (if a = b then 1 else 0) ≤ A.count b) → ∀ b ∈ C, b ≠ a := fun {C} h b hb e => by
      subst e
      have h1 := h b
      have h2 := u b
      have h3 := List.count_pos_iff.mpr hb
      rw [if_pos rfl] at h1
      omega
    let H2 := upd H a (.lst vs')
    have mo : Mono (Fok c A) (Fok c A) H H2 := ⟨fun b ws e f => ⟨by show upd H a _ b = _; rw [upd_ne (fun z => f.2 (by rw [z]; exact aA))]; exact e, f⟩, fun b uu e st => by
      show upd H a _ b = _
      rw [upd_ne (fun z => by rw [z, ha] at e; cases e; exact st)]
      exact e⟩
    have eqs : ∀ {C : List Addr}, (∀ b ∈ C, b ≠ a) → ∀ b ∈ C, H2 b = H b := fun h b hb => upd_ne (h b hb)
    have nC1 : ∀ b ∈ C1, b ≠ a := ne fun b => by have := hC b; have := tot b; omega
    have nC2 : ∀ b ∈ C2, b ≠ a := ne fun b => by have := hC b; have := tot b; omega
    have nBl : ∀ b ∈ Bl, b ≠ a := ne fun b => by have := tot b; omega
    have nB1 : ∀ b ∈ B1, b ≠ a := ne fun b => by have := tot b; omega
    obtain ⟨t0', C3, q1, q2, q3⟩ := pt mo (eqs nBl) (t' := .ol ts') (A2 := a :: C2) (.ol upd_same (xs.mono mo (eqs nC2)))
    obtain ⟨C4, s4, q4⟩ := ar.put mo (eqs nB1) q2
    rw [app_set rfl, set_self e3, app_set hl.symm] at s4
    have er : ρ' = ρ.set i (some t0') := by
      unfold putAt at ep
      rw [e0] at ep
      dsimp only at ep
      rw [q1] at ep
      cases ep
      rfl
    subst er
    have fin : ∀ b, (C1 ++ C4).count b ≤ A.count b := fun b => by
      have h1 := q4 b
      have h2 := q3 b
      have h3 := hC b
      have h4 := tot b
      rw [List.count_append]
      rw [List.count_cons] at h2
      by_cases e : a = b
      · simp [e] at h2 h4; omega
      · simp [e] at h2 h4; omega
    refine ⟨C1 ++ C4, fun b => Nat.le_trans (fin b) (u b), ?_, fun b hb => ow b (List.count_pos_iff.mp (Nat.lt_of_lt_of_le (List.count_pos_iff.mpr hb) (fin b))), ⟨fun b o e n => ?_, fun b e => ?_⟩⟩
    · exact (Sl.cons (xr.mono mo (eqs nC1)) s4).mono (.sub fun b _ => Fok.sub fin b) fun _ _ => rfl
    · rw [upd_ne]
      · exact k.keep b o e n
      · intro z
        subst z
        rcases ow b aA with y | y
        · exact n y
        · rw [e] at y; cases y
    · by_cases z : b = a
      · subst z
        rw [upd_same] at e; cases e
      · rw [upd_ne z] at e
        exact k.there b e
section
variable {X : Cx} {E : Str → Hp → Prop} {o e : Expr} {es : List Expr} {to : TE} {t : TA} {name : Str} {apos cpos : Pos} {id : String} {rM : V → List V → Hp → VK → Prop} {op : List T → List T → Option (T × List T)} {g : Bool}
theorem ty_list {K : PySem.W.Frag} {a : Addr} {vs : List V} {H : Hp} (h : H a = some (.lst vs)) : tyV K "list" (.ref a) H := .inl ⟨rfl, vs, .of h⟩
theorem sim_meth {K : PySem.W.Frag} {i : Nat} {mp : ML} {ma : MA} (hv : UpdV K rM op) (sl : SimL K i to mp) (sa : SimA K E g t ma) (hg : g = true ∨ ∀ ρ p, mp ρ = some p → p = []) : SimE K E false (tBM K "list" rM to t) (mMeth i mp op ma) := by
  intro c H tv td σ ρ hl st Q q
  unfold mMeth at q
  obtain ⟨p, ep, q⟩ := then_ofO.mp (then_bind.mp q)
  obtain ⟨ts0, el, q⟩ := then_ofO.mp (then_bind.mp q)
  obtain ⟨t0, e0, e1⟩ := lstAt_some el
  have q1 := then_bind.mp q
  obtain ⟨A, w⟩ := st
  refine sl c H tv td σ ρ A p t0 _ hl w ep e0 e1 _ fun v0 v ev0 lv => ?_
  obtain ⟨v0', a0, vs0, A10, ev0', l0, ha0, _, _⟩ := StW.write (Aa := []) hl w.uniq w.own w.keep (fun a => by simp) w.slots e0 e1
  rw [ev0] at ev0'; cases ev0'
  have ev := lv.uniq l0
  subst ev
  refine ⟨ty_list ha0, ?_⟩
  refine sa c H tv td σ ρ hl ⟨A, w⟩ _ (q1.imp ?_)
  intro r q2 ys H1 sm hys st1
  obtain ⟨ts, er, q3⟩ := then_ofO.mp (then_bind.mp q2)
  obtain ⟨t1, e2, e3⟩ := lstAt_some er
  obtain ⟨z, ez, q4⟩ := then_ofO.mp (then_bind.mp q3)
  obtain ⟨ρ', eρ, q5⟩ := then_ofO.mp (then_bind.mp q4)
  obtain ⟨A', w1⟩ := st1
  obtain ⟨Aa, B, eA, ra, s⟩ := w1.slots.front hys
  obtain ⟨v1, a, vs, A1, ev1, l1, ha, rl, fin⟩ := StW.write (Aa := Aa) hl w1.uniq w1.own w1.keep (fun a => by rw [eA, List.count_append]; exact Nat.le_refl _) s e2 e3
  rw [ev0] at ev1; cases ev1
  have ea : a0 = a := by
    rcases hg with hg | hg
    · have := (lv.grow (sm hg)).uniq l1
      cases this; rfl
    · have := hg ρ p ep
      subst this
      cases l1; cases lv; rfl
  subst ea
  refine hv _ H1 a0 vs ys ts r.1 A1 Aa z ha rl ra ez Q fun res vs' C1 C2 x1 x2 hC => ?_
  exact q5 _ _ (fun y => by cases y) (fin res z.1 vs' z.2 C1 C2 ρ' x1 x2 hC eρ)
theorem lHere_nil {ρ : Env} {p : List Int} (h : lHere ρ = some p) : p = [] := by cases h; rfl
theorem qe_meth {i : Nat} {mp : ML} {ma : MA} (slot : Slot "list" name id) (hty : typeOf (.builtin id) = pure (.type "method_descriptor")) (hm : MtR X id rM) (hv : UpdV X.K rM op) (ho : QL X i o to mp) (ha : QA X E g (e :: es) t ma) (hg : g = true ∨ ∀ ρ p, mp ρ = some p → p = [])
    (hbase : attributeBase o name X.env (eval o X.env) = eval o X.env := by rfl)
    (hfew : ((backTo cpos (starEach (e :: es) X.env)).all (fun x => !x.1) && (backToKw cpos (keywordEach [] X.env)).all (fun x => x.1.isSome)
      && decide ((e :: es).length + ([] : List Keyword).length + (if ([] : List Keyword).isEmpty then 0 else 1) < 30)) = true := by rfl)
    (hline : (apos.endLine == cpos.line) = true := by rfl) (hs : starEach (e :: es) X.env = (false, eval e X.env) :: starEach es X.env := by rfl) (hplain : (backTo cpos (starEach es X.env)).any (·.1) = false := by rfl) :
    QE X E false (.Call (.Attribute o name apos) (e :: es) [] cpos) (tBM X.K "list" rM to t) (mMeth i mp op ma) := ⟨pe_bm PySem.F.plainAttrs_list slot hty hm ho.pe ha.pa hbase hfew hline hs hplain, sim_meth hv ho.sim ha.sim hg⟩
end
/-! append, extend, insert -/
def opAppend : List T → List T → Option (T × List T) := fun ts us => match us with
  | [u] => if decide (ts.length < sLine) = true then some (.d .none, ts ++ [u]) else none
  | _ => none
theorem append_v {K : PySem.W.Frag} : UpdV K rAppend opAppend := by
  intro F H a vs ys ts us A1 A2 r ha r1 r2 e Q q
  unfold opAppend at e
  split at e
  · split at e
    · rename_i u hz
      cases e
      cases r2 with
      | cons x rn =>
        rename_i v vs0 Ax Bx
        cases rn
        have hz' := of_decide_eq_true hz
        obtain ⟨C, r', z⟩ := r1.snoc x
        exact ⟨a, vs, v, rfl, rfl, ha, by rw [r1.len, ← sLine_eq]; exact hz', q .non _ [] C (.d .non) r' fun b => by rw [z b, List.count_append]; simp⟩
    · cases e
  · cases e
def T.kids : T → Option (List T)
  | .d (.list ds) => some (ds.map T.d)
  | .ol ts => some ts
  | _ => none
theorem RpAll.append {K : PySem.W.Frag} {F : Addr → Prop} {H : Hp} : ∀ {vs ws : List V} {ts us : List T} {A B : List Addr}, RpAll K F H vs ts A → RpAll K F H ws us B → ∃ C, RpAll K F H (vs ++ ws) (ts ++ us) C ∧ ∀ a, C.count a = A.count a + B.count a
  | _, _, _, _, _, B, .nil, x => ⟨B, x, fun a => by simp⟩
  | _, _, _, _, _, _, .cons (A := A1) y r, x => by
    obtain ⟨C, r', z⟩ := r.append x
    exact ⟨A1 ++ C, .cons y r', fun a => by rw [List.count_append, List.count_append, z a]; omega⟩
theorem Rp.kids {K : PySem.W.Frag} {F : Addr → Prop} {H : Hp} {v : V} {t : T} {A : List Addr} {us : List T} (h : Rp K F H v t A) (e : t.kids = some us) : ∃ b ws B, v = .ref b ∧ H b = some (.lst ws) ∧ RpAll K F H ws us B ∧ ∀ a, B.count a ≤ A.count a := by
  unfold T.kids at e
  split at e
  · cases e
    cases h with
    | d h =>
      cases h with
      | lst h1 _ f => exact ⟨_, _, [], rfl, h1, RpAll.ofFz f, fun a => by simp⟩
  · cases e
    cases h with
    | ol h1 r => exact ⟨_, _, _, rfl, h1, r, fun a => by rw [List.count_cons]; omega⟩
  · cases e
def opExtend : List T → List T → Option (T × List T) := fun ts us => match us with
  | [u] => (match u.kids with | some ks => if decide (ts.length + ks.length ≤ sLine) = true then some (.d .none, ts ++ ks) else none | none => none)
  | _ => none
theorem extend_v {K : PySem.W.Frag} : UpdV K rExtend opExtend := by
  intro F H a vs ys ts us A1 A2 r ha r1 r2 e Q q
  unfold opExtend at e
  split at e
  · rename_i u
    cases ek : u.kids with
    | none => rw [ek] at e; cases e
    | some ks =>
      rw [ek] at e
      dsimp only at e
      split at e
      · rename_i hz
        cases e
        cases r2 with
        | cons x rn =>
          rename_i v vs0 Ax Bx
          cases rn
          have hz' := of_decide_eq_true hz
          obtain ⟨b, ws, B, rfl, hb, rk, hB⟩ := x.kids ek
          obtain ⟨C, r', z⟩ := r1.append rk
          exact ⟨a, b, vs, ws, rfl, rfl, ha, hb, by rw [r1.len, rk.len, ← sLine_eq]; exact hz', q .non _ [] C (.d .non) r' fun a => by have := hB a; rw [z a, List.count_append]; simp; omega⟩
      · cases e
  · cases e

/-! ### a list's item stored -/
def mgItem (i : Nat) (mp : ML) (mi : MP) : MG := fun t ρ => (mp ρ).bind fun p => ((mi ρ).bind T.int?).bind fun j => (lstAt p ρ[i]?).bind fun ts => (ixN ts.length j).bind fun k => putAt i p (ts.set k t) ρ
section
variable {X : Cx} {a b : Expr} {ta tb : TE} {pos : Pos} {pr : Nat → Bool}
theorem RpAll.setk {K : PySem.W.Frag} {F : Addr → Prop} {H : Hp} {vs : List V} {ts : List T} {A B : List Addr} {v : V} {t : T} (r : RpAll K F H vs ts A) (k : Nat) (hk : k < ts.length) (x : Rp K F H v t B) : ∃ C, RpAll K F H (vs.set k v) (ts.set k t) C ∧ ∀ a, C.count a ≤ A.count a + B.count a := by
  obtain ⟨v1, A1, B1, _, _, hc, p⟩ := r.around (List.getElem?_eq_getElem hk)
  obtain ⟨C, s, z⟩ := p.put (Mono.sub fun _ _ x => x) (fun _ _ => rfl) x
  exact ⟨C, s, fun a => by have := z a; have := hc a; omega⟩
theorem qg_item {i : Nat} {mp : ML} {mi : MP} (ho : QL X i a ta mp) (hi : QP X b tb mi) (ha : ∀ v, assign (.Subscript a b pos) X.env v = (do
      let ov ← holding [v] (eval a X.env)
      let iv ← holding [v, ov] (eval b X.env)
      standAt pos
      holding [v, ov, iv] (setItem ov iv v)
      release [v, ov, iv] []) := by intro _; rfl) : QG X pr (.Subscript a b pos) (gSub ta tb rSetL) (mgItem i mp mi) := by
  refine ⟨pg_sub ho.pe hi.pe set_list ha, fun c H tv td σ ρ ρ' v t hl st e Q q => ?_⟩
  unfold mgItem at e
  obtain ⟨p, e1, e⟩ := Option.bind_eq_some_iff.mp e
  obtain ⟨j, e2', e⟩ := Option.bind_eq_some_iff.mp e
  obtain ⟨tj, e2, e20⟩ := Option.bind_eq_some_iff.mp e2'
  cases int?_eq e20
  obtain ⟨ts, e3, e⟩ := Option.bind_eq_some_iff.mp e
  · obtain ⟨k, e4, e5⟩ := Option.bind_eq_some_iff.mp e
    obtain ⟨t0, e6, e7⟩ := lstAt_some e3
    obtain ⟨A, w⟩ := st
    have w' : StW X.K c H ((some v :: tv) ++ σ) ((some t :: td) ++ ρ) A := w
    refine ho.sim c H (some v :: tv) (some t :: td) σ ρ A p t0 _ (by simp [hl]) w' e1 e6 e7 _ fun v0 vo ev0 lo => ?_
    refine hi.sim c H (some v :: tv) (some t :: td) σ ρ A _ (by simp [hl]) w' e2 _ fun u Au ru _ => ?_
    have eu := ru.i
    obtain ⟨Aa, B, eA, x, s⟩ := w.top
    obtain ⟨v1, a1, vs, A1, ev1, l1, ha1, rl, fin⟩ := StW.write (Aa := Aa) hl w.uniq w.own w.keep (fun a => by rw [eA, List.count_append]; exact Nat.le_refl _) s e6 e7
    rw [ev0] at ev1; cases ev1
    have := lo.uniq l1
    subst this
    have hk : k < ts.length := (ixN_seq e4).2.1
    refine ⟨a1, vs, j, k, rfl, eu, ha1, by rw [rl.len]; exact e4, ?_⟩
    obtain ⟨C, s', z⟩ := rl.setk k hk x
    exact q σ _ .refl (fin .non (.d .none) _ _ [] C ρ' (.d .non) s' (fun b => by have := z b; simp; omega) e5).drop
end
end L3
/-! L3j -/
/-! L3j: what is built in; more sources; constants. -/
namespace L3
open PySem PySem.Spec PyProof.Rows L2

/-! ### len, abs, int, str, list, tuple, max, min -/
def T.size : T → Option Nat
  | .d (.list ds) => some ds.length
  | .d (.tuple ds) => some ds.length
  | .d (.str s) => if decide (s.length ≤ sLine) = true then some s.length else none
  | .ol ts => some ts.length
  | .ot ts => some ts.length
  | .rd ds => some ds.length
  | _ => none
def opLen : List T → R RV
  | [t] => (ofO t.size).bind fun n => .ok (.v (.d (.int n)))
  | _ => .bad
abbrev rLen (K : PySem.W.Frag) : List V → Hp → VK → Prop := fun xs H Q => ∃ x n, xs = [x] ∧ LenV K x H n ∧ Q (.int n) H
theorem one_of {K : PySem.W.Frag} {F : Addr → Prop} {H : Hp} {vs : List V} {t : T} {A : List Addr} (h : RpAll K F H vs [t] A) : ∃ v B, vs = [v] ∧ Rp K F H v t B ∧ ∀ a, B.count a ≤ A.count a := by
  cases h with
  | cons x r =>
    cases r
    exact ⟨_, _, rfl, x, fun a => by rw [List.count_append]; omega⟩
theorem two_of {K : PySem.W.Frag} {F : Addr → Prop} {H : Hp} {vs : List V} {t t2 : T} {A : List Addr} (h : RpAll K F H vs [t, t2] A) : ∃ v u B C, vs = [v, u] ∧ Rp K F H v t B ∧ Rp K F H u t2 C := by
  cases h with
  | cons x r =>
    cases r with
    | cons y r =>
      cases r
      exact ⟨_, _, _, _, rfl, x, y⟩
theorem Rp.size {K : PySem.W.Frag} {F : Addr → Prop} {H : Hp} {v : V} {t : T} {A : List Addr} {n : Nat} (h : Rp K F H v t A) (e : t.size = some n) : LenV K v H n := by
  unfold T.size at e
  split at e
  · cases e
    cases h with | d h => cases h with | lst h _ f => exact .inl ⟨_, .of h, f.len.symm⟩
  · cases e
    cases h with | d h => cases h with | tup h f => exact .inr ⟨_, h, f.len.symm⟩
  · split at e
    · rename_i hz
      cases e
      cases h with | d h => cases h; exact ⟨by rw [← sLine_eq]; exact of_decide_eq_true hz, rfl⟩
    · cases e
  · cases e
    cases h with | ol h f => exact .inl ⟨_, .of h, f.len.symm⟩
  · cases e
    cases h with | ot h f => exact .inr ⟨_, .of h, f.len.symm⟩
  · cases e
    cases h with | rd h f => exact .inl ⟨_, h.sq, f.len.symm⟩
  · cases e
theorem opLen_v {K : PySem.W.Frag} : CallV K (rLen K) opLen := by
  intro F H vs ts A r Q q
  unfold opLen at q
  split at q
  · obtain ⟨n, e, q⟩ := then_ofO.mp (then_bind.mp q)
    obtain ⟨v, B, rfl, x, _⟩ := one_of r
    exact ⟨v, n, rfl, x.size e, rv_d q (.int _)⟩
  · exact q.elim
theorem opLen_nox : NoXL opLen := by
  intro x c
  unfold opLen
  split
  · exact bind_noexc (fun _ => ofO_noexc _) (by intro _ _ z; cases z) c
  · intro z; cases z
def opAbs : List T → R RV
  | [.d (.int i)] => .ok (.v (.d (.int (if i < 0 then -i else i))))
  | _ => .bad
abbrev rAbs : List V → Hp → VK → Prop := fun xs H Q => ∃ i, xs = [.int i] ∧ Q (.int (if i < 0 then -i else i)) H
theorem opAbs_v {K : PySem.W.Frag} : CallV K rAbs opAbs := by
  intro F H vs ts A r Q q
  unfold opAbs at q
  split at q
  · obtain ⟨v, B, rfl, x, _⟩ := one_of r
    cases x.i
    exact ⟨_, rfl, rv_d q (.int _)⟩
  · exact q.elim
theorem opAbs_nox : NoXL opAbs := by
  intro x c
  unfold opAbs
  split <;> (intro z; cases z)
def opInt1 : List T → R RV
  | [.d (.int i)] => .ok (.v (.d (.int i)))
  | [.d (.bool b)] => .ok (.v (.d (.int (if b then 1 else 0))))
  | _ => .bad
abbrev rInt1 : List V → Hp → VK → Prop := fun xs H Q => (∃ i, xs = [.int i] ∧ Q (.int i) H) ∨ ∃ k, xs = [.bl k] ∧ Q (.int (if k then 1 else 0)) H
theorem opInt1_v {K : PySem.W.Frag} : CallV K rInt1 opInt1 := by
  intro F H vs ts A r Q q
  unfold opInt1 at q
  split at q
  · obtain ⟨v, B, rfl, x, _⟩ := one_of r
    cases x.i
    exact .inl ⟨_, rfl, rv_d q (.int _)⟩
  · obtain ⟨v, B, rfl, x, _⟩ := one_of r
    cases x.b
    exact .inr ⟨_, rfl, rv_d q (.int _)⟩
  · exact q.elim
theorem opInt1_nox : NoXL opInt1 := by
  intro x c
  unfold opInt1
  split <;> (intro z; cases z)
def opStrI : List T → R RV
  | [.d (.int i)] => guard (decide (i.natAbs.log2 < 1920)) (.ok (.v (.d (.str (toString i)))))
  | _ => .bad
abbrev rStrI : List V → Hp → VK → Prop := fun xs H Q => ∃ i, xs = [.int i] ∧ i.natAbs.log2 < 1920 ∧ Q (.str (toString i)) H
theorem opStrI_v {K : PySem.W.Frag} : CallV K rStrI opStrI := by
  intro F H vs ts A r Q q
  unfold opStrI at q
  split at q
  · obtain ⟨v, B, rfl, x, _⟩ := one_of r
    obtain ⟨g, q⟩ := then_guard.mp q
    cases x.i
    exact ⟨_, rfl, of_decide_eq_true g, rv_d q (.str _)⟩
  · exact q.elim
theorem opStrI_nox : NoXL opStrI := by
  intro x c
  unfold opStrI
  split
  · exact guard_noexc (by intro _ z; cases z) c
  · intro z; cases z
/-- the data of a list or a tuple -/
def T.seq? : T → Option (List PyData)
  | .d (.list ds) => some ds
  | .d (.tuple ds) => some ds
  | .ol ts => T.allD ts
  | .rd ds => some ds
  | _ => none
theorem Rp.seq? {K : PySem.W.Frag} {F : Addr → Prop} {H : Hp} {v : V} {t : T} {A : List Addr} {ds : List PyData} (h : Rp K F H v t A) (e : t.seq? = some ds) : ∃ a vs, v = .ref a ∧ (SqL K H a vs ∨ SqT K H a vs) ∧ FzAll K F H vs ds := by
  unfold T.seq? at e
  split at e
  · cases e
    cases h with | d h => cases h with | lst h _ f => exact ⟨_, _, rfl, .inl (.of h), f⟩
  · cases e
    cases h with | d h => cases h with | tup h f => exact ⟨_, _, rfl, .inr h, f⟩
  · cases h with | ol h r => exact ⟨_, _, rfl, .inl (.of h), (r.data e).1⟩
  · cases e
    cases h with | rd h f => exact ⟨_, _, rfl, .inl h.sq, f⟩
  · cases e
def opListOf : List T → R RV
  | [t] => (ofO t.seq?).bind fun ds => .ok (.nl ds)
  | _ => .bad
abbrev rListOf (K : PySem.W.Frag) : List V → Hp → VK → Prop := fun xs H Q => ∃ p ys, xs = [.ref p] ∧ (SqL K H p ys ∨ SqT K H p ys) ∧ ∀ l, H l = none → Q (.ref l) (upd H l (.lst ys))
theorem opListOf_v {K : PySem.W.Frag} : CallV K (rListOf K) opListOf := by
  intro F H vs ts A r Q q
  unfold opListOf at q
  split at q
  · obtain ⟨ds, e, q⟩ := then_ofO.mp (then_bind.mp q)
    obtain ⟨v, B, rfl, x, _⟩ := one_of r
    obtain ⟨a, ws, rfl, h, f⟩ := x.seq? e
    exact ⟨a, ws, rfl, h, fun l hl => q l ws hl f⟩
  · exact q.elim
theorem opListOf_nox : NoXL opListOf := by
  intro x c
  unfold opListOf
  split
  · exact bind_noexc (fun _ => ofO_noexc _) (by intro _ _ z; cases z) c
  · intro z; cases z
def opTupleOf : List T → R RV
  | [.d (.tuple ds)] => .ok (.v (.d (.tuple ds)))
  | [t] => (ofO t.lst?).bind fun ds => .ok (.nt ds)
  | _ => .bad
abbrev rTupleOf (K : PySem.W.Frag) : List V → Hp → VK → Prop := fun xs H Q => ∃ p ys, xs = [.ref p] ∧ ((SqL K H p ys ∧ ∀ l, H l = none → Q (.ref l) (upd H l (.tup ys))) ∨ (SqT K H p ys ∧ Q (.ref p) H))
theorem opTupleOf_v {K : PySem.W.Frag} : CallV K (rTupleOf K) opTupleOf := by
  intro F H vs ts A r Q q
  unfold opTupleOf at q
  split at q
  · obtain ⟨v, B, rfl, x, hB⟩ := one_of r
    obtain ⟨a, ws, rfl, h, f⟩ := x.t
    exact ⟨a, ws, rfl, .inr ⟨h, q _ _ x hB⟩⟩
  · obtain ⟨ds, e, q⟩ := then_ofO.mp (then_bind.mp q)
    obtain ⟨v, B, rfl, x, _⟩ := one_of r
    obtain ⟨a, ws, rfl, h, f⟩ := x.lst? e
    exact ⟨a, ws, rfl, .inl ⟨.of h, fun l hl => q l ws hl f⟩⟩
  · exact q.elim
theorem opTupleOf_nox : NoXL opTupleOf := by
  intro x c
  unfold opTupleOf
  split
  · intro z; cases z
  · exact bind_noexc (fun _ => ofO_noexc _) (by intro _ _ z; cases z) c
  · intro z; cases z
def opMax2 : List T → R RV
  | [.d (.int i), .d (.int j)] => .ok (.v (.d (.int (if j > i then j else i))))
  | _ => .bad
def opMin2 : List T → R RV
  | [.d (.int i), .d (.int j)] => .ok (.v (.d (.int (if j < i then j else i))))
  | _ => .bad
abbrev rMax2 : List V → Hp → VK → Prop := fun xs H Q => ∃ i j, xs = [.int i, .int j] ∧ Q (.int (if j > i then j else i)) H
abbrev rMin2 : List V → Hp → VK → Prop := fun xs H Q => ∃ i j, xs = [.int i, .int j] ∧ Q (.int (if j < i then j else i)) H
theorem opMax2_v {K : PySem.W.Frag} : CallV K rMax2 opMax2 := by
  intro F H vs ts A r Q q
  unfold opMax2 at q
  split at q
  · obtain ⟨v, u, B, C, rfl, x, y⟩ := two_of r
    cases x.i; cases y.i
    exact ⟨_, _, rfl, rv_d q (.int _)⟩
  · exact q.elim
theorem opMin2_v {K : PySem.W.Frag} : CallV K rMin2 opMin2 := by
  intro F H vs ts A r Q q
  unfold opMin2 at q
  split at q
  · obtain ⟨v, u, B, C, rfl, x, y⟩ := two_of r
    cases x.i; cases y.i
    exact ⟨_, _, rfl, rv_d q (.int _)⟩
  · exact q.elim
theorem opMax2_nox : NoXL opMax2 := by
  intro x c
  unfold opMax2
  split <;> (intro z; cases z)
theorem opMin2_nox : NoXL opMin2 := by
  intro x c
  unfold opMin2
  split <;> (intro z; cases z)
/-! negation of an int -/
def opNeg : T → R RV
  | .d (.int i) => .ok (.v (.d (.int (-i))))
  | _ => .bad
theorem opNeg_v {K : PySem.W.Frag} : UnV K (rU fun i => .int (-i)) opNeg := by
  intro F H v x A hx Q q
  unfold opNeg at q
  split at q
  · exact ⟨_, hx.i, rv_d q (.int _)⟩
  · exact q.elim
theorem opNeg_nox : NoX1 opNeg := by
  intro x c
  unfold opNeg
  split <;> (intro z; cases z)
section
variable {X : Cx} {E : Str → Hp → Prop} {a e : Expr} {ta te : TE} {ma : MP} {pos : Pos} {io : List Nat}
theorem qp_neg (ha : QP X a ta ma) : QP X (.UnaryOp .USub a pos) (tUn (rU fun i => .int (-i)) ta) (pUn opNeg ma) := ⟨pe_un un_neg ha.pe, sim_pun opNeg_v ha.sim⟩

/-! ### isinstance -/
def T.ty : T → Option String
  | .d .none => some "NoneType"
  | .d (.bool _) => some "bool"
  | .d (.int _) => some "int"
  | .d (.str _) => some "str"
  | .d (.list _) => some "list"
  | .d (.tuple _) => some "tuple"
  | .ol _ => some "list"
  | .ot _ => some "tuple"
  | _ => none
def isaT (n : String) (t : T) : Option Bool := t.ty.bind fun m => kitB m n
def pIsa (n : String) (m : MP) : MP := fun ρ => ((m ρ).bind (isaT n)).map fun b => .d (.bool b)
theorem sqT_tyx {K : PySem.W.Frag} {H : Hp} {a : Addr} {vs : List V} (h : SqT K H a vs) : TyX K H (.ref a) (.type "tuple") := by
  rcases h with (h | ⟨o, h⟩) | ⟨o, its, n, h, c, _⟩
  · exact .base (.tup h)
  · exact .fTuple h
  · exact .kTuple h c
theorem Rp.ty {K : PySem.W.Frag} {F : Addr → Prop} {H : Hp} {v : V} {t : T} {A : List Addr} {n : String} (h : Rp K F H v t A) (e : t.ty = some n) : TyX K H v (.type n) := by
  unfold T.ty at e
  split at e
  · cases e; cases h with | d h => cases h; exact .base .non
  · cases e; cases h with | d h => cases h; exact .base (.bl _)
  · cases e; cases h with | d h => cases h; exact .base (.int _)
  · cases e; cases h with | d h => cases h; exact .base (.str _)
  · cases e; cases h with | d h => cases h with | lst h _ _ => exact .base (.lst h)
  · cases e; cases h with | d h => cases h with | tup h _ => exact sqT_tyx h
  · cases e; cases h with | ol h _ => exact .base (.lst h)
  · cases e; cases h with | ot h _ => exact .base (.tup h)
  · cases e
theorem qp_isi {n : String} {x : Str} {p p2 : Pos} (he : QP X e te ma) (hm : X.mg "isinstance" = none) (hm2 : X.mg x = none) (hv : bootBuiltins x = some (.type n)) (hg : Gl X "isinstance" := by rfl) (hg2 : Gl X x := by rfl) (hn : x ≠ "__name__" := by decide) (hd : (x == ("__debug__" : Str)) = false := by decide)
    (hs : starEach [e, .Name x p2] X.env = (false, eval e X.env) :: starEach [.Name x p2] X.env := by rfl) (hpl : (backTo pos (starEach [.Name x p2] X.env)).any (·.1) = false := by rfl)
    (hs2 : starEach [.Name x p2] X.env = (false, eval (.Name x p2) X.env) :: starEach [] X.env := by rfl) : QP X (.Call (.Name "isinstance" p) [e, .Name x p2] [] pos) (tCB (rIsi X.K) (tCons te (tCons (tC (.ty n)) tNil))) (pIsa n ma) := by
  refine ⟨pe_callB call_isi hg hm (by decide +kernel) (pa_cons he.pe (pa_cons (pe_bltn hg2 hm2 hv rfl hn hd) pa_nil hs2) hs) (by decide) (by decide) hs hpl, fun c H tv td σ ρ A t hl w e1 Q q => ?_⟩
  unfold pIsa at e1
  obtain ⟨b, e2, e3⟩ := Option.map_eq_some_iff.mp e1
  obtain ⟨t0, e4, e5⟩ := Option.bind_eq_some_iff.mp e2
  obtain ⟨m, e6, e7⟩ := Option.bind_eq_some_iff.mp e5
  subst e3
  refine he.sim c H tv td σ ρ A t0 hl w e4 _ fun v A1 r _ => ?_
  exact ⟨v, .ty n, _, _, b, rfl, .ty n, r.ty e6, kit_ty e7, q _ [] (.d (.bl b)) fun _ z => by simp at z⟩

/-! ### tuples, pairs of lists, numbered lists walked -/
theorem src_tup {K : PySem.W.Frag} {a : Addr} {ds : List PyData} : Src K (Itt K a) [some (.ref a)] [some (.d (.tuple ds))] (ds.map T.d) where
  len := rfl
  goes := by
    intro c H sl ρ i hi st
    obtain ⟨A, w, f⟩ := StR.look st
    cases f with
    | @tup _ vs _ h f =>
      have hl := f.len
      have hi2 : i < vs.length := by rw [hl]; simpa using hi
      exact ⟨vs, vs[i], h, List.getElem?_eq_getElem hi2⟩
  stops := by
    intro c H sl ρ st
    obtain ⟨A, w, f⟩ := StR.look st
    cases f with
    | tup h f => exact ⟨_, h, by rw [List.length_map, f.len]; exact Nat.le_refl _⟩
  yields := by
    intro c H sl ρ i x H' t ht st y
    obtain ⟨rfl, y⟩ := y
    obtain ⟨A, w, f⟩ := StR.look st
    refine ⟨Same.refl _, A, ?_⟩
    rw [List.getElem?_map] at ht
    obtain ⟨z, e1, rfl⟩ := Option.map_eq_some_iff.mp ht
    cases f with
    | tup h f =>
      obtain ⟨v, e2, fz⟩ := f.get e1
      have := y _ h
      rw [e2] at this
      cases this
      exact w.pushD fz
theorem sim_iT {K : PySem.W.Frag} {te : TE} {m : MEx} {g : Bool} (s : SimE K E g te m) : SimI K E (iTup K te) (miT m) := by
  intro c H tv td σ ρ hl st Rr q
  unfold miT at q
  rw [then_bind] at q
  refine s c H tv td σ ρ hl st _ (q.imp ?_)
  rintro ⟨t, ρ1⟩ q1 v H1 _ st1
  obtain ⟨ts, e, q2⟩ := then_ofO.mp (then_bind.mp q1)
  unfold itemsT? at e
  dsimp only at e
  split at e
  · rename_i ds
    cases e
    obtain ⟨A, w, f⟩ := StR.look st1
    cases f with
    | tup h f => exact ⟨_, rfl, ⟨_, h⟩, q2 _ H1 [some _] [some _] src_tup st1⟩
  · cases e
theorem qi_tup {tg e : Expr} {te : TE} {m : MEx} {g : Bool} (h : QE X E g e te m) : QI X E tg e (iTup X.K te) (miT m) := ⟨pi_tup h.pe, sim_iT h.sim⟩
/-- a new pair of data -/
theorem StW.pair {K : PySem.W.Frag} {c : C0} {H : Hp} {sl : List (Option V)} {ρ : Env} {A : List Addr} {p : Addr} {x y : V} {d e : PyData} (w : StW K c H sl ρ A) (hp : H p = none) (fx : Fz K (Fok c A) H x d) (fy : Fz K (Fok c A) H y e) :
    StW K c (upd H p (.tup [x, y])) (some (.ref p) :: sl) (some (.d (.tuple [d, e])) :: ρ) A := by
  have sm := same_upd (o := .tup [x, y]) hp
  exact (w.grow sm).pushD (.tup (.of upd_same) (.cons (fx.mono (.same sm)) (.cons (fy.mono (.same sm)) .nil)))
def zipItems (ds es : List PyData) : List T := (ds.zip es).map fun p => .d (.tuple [p.1, p.2])
def miZ (m : MA) : MI := fun ρ => (m ρ).bind fun r => match r.1 with | [.d (.list ds), .d (.list es)] => .ok (zipItems ds es, r.2) | _ => .bad
theorem src_zip {K : PySem.W.Frag} {a b : Addr} {ds es : List PyData} : Src K (Itz K a b) [some (.ref a), some (.ref b)] [some (.d (.list ds)), some (.d (.list es))] (zipItems ds es) where
  len := rfl
  goes := by
    intro c H sl ρ i hi st
    obtain ⟨A, w⟩ := st
    obtain ⟨f, w2⟩ := StW.topD w
    obtain ⟨f2, _⟩ := StW.topD w2
    have hi' : i < ds.length ∧ i < es.length := by
      unfold zipItems at hi
      rw [List.length_map, List.length_zip] at hi
      omega
    cases f with
    | @lst _ vs _ h _ f =>
      cases f2 with
      | @lst _ ws _ h2 _ f2 =>
        have h3 : i < vs.length := by rw [f.len]; exact hi'.1
        have h4 : i < ws.length := by rw [f2.len]; exact hi'.2
        exact ⟨vs, ws, vs[i], ws[i], .of h, .of h2, List.getElem?_eq_getElem h3, List.getElem?_eq_getElem h4⟩
  stops := by
    intro c H sl ρ st
    obtain ⟨A, w⟩ := st
    obtain ⟨f, w2⟩ := StW.topD w
    obtain ⟨f2, _⟩ := StW.topD w2
    cases f with
    | lst h _ f =>
      cases f2 with
      | lst h2 _ f2 =>
        refine ⟨_, _, .of h, .of h2, ?_⟩
        unfold zipItems
        rw [List.length_map, List.length_zip, f.len, f2.len]
        omega
  yields := by
    intro c H sl ρ i v H' t ht st y
    obtain ⟨p, x, z, rfl, hp, rfl, hx, hz⟩ := y
    obtain ⟨A, w⟩ := st
    obtain ⟨f, w2⟩ := StW.topD w
    obtain ⟨f2, _⟩ := StW.topD w2
    refine ⟨same_upd hp, A, ?_⟩
    unfold zipItems at ht
    rw [List.getElem?_map] at ht
    obtain ⟨⟨d, e⟩, e1, rfl⟩ := Option.map_eq_some_iff.mp ht
    obtain ⟨g1, g2⟩ := List.getElem?_zip_eq_some.mp e1
    cases f with
    | lst h _ f =>
      cases f2 with
      | lst h2 _ f2 =>
        obtain ⟨v1, e2, fx⟩ := f.get g1
        obtain ⟨v2, e3, fy⟩ := f2.get g2
        have n1 := hx _ (.of h)
        have n2 := hz _ (.of h2)
        rw [e2] at n1
        rw [e3] at n2
        cases n1
        cases n2
        exact w.pair hp fx fy
theorem sim_iZ {K : PySem.W.Frag} {ta : TA} {m : MA} {g : Bool} (s : SimA K E g ta m) : SimI K E (iZip K ta) (miZ m) := by
  intro c H tv td σ ρ hl st Rr q
  unfold miZ at q
  rw [then_bind] at q
  refine s c H tv td σ ρ hl st _ (q.imp ?_)
  rintro ⟨ts, ρ1⟩ q1 vs H1 _ hvs st1
  dsimp only at q1 hvs st1
  split at q1
  · rename_i ds es
    match vs, hvs, st1 with
    | [v, u], _, st1 =>
      obtain ⟨A, w⟩ := st1
      obtain ⟨f, w2⟩ := StW.topD w
      obtain ⟨f2, _⟩ := StW.topD w2
      cases f with
      | lst h _ f =>
        cases f2 with
        | lst h2 _ f2 => exact ⟨_, _, _, _, rfl, .of h, .of h2, q1 _ H1 [some _, some _] [some _, some _] src_zip ⟨A, w⟩⟩
  · exact q1.elim
theorem qi_zip {e e2 : Expr} {ta : TA} {m : MA} {g : Bool} {p tpos : Pos} {elts : List Expr} {kk : Nat} (hm : X.mg "zip" = none) (ha : QA X E g [e, e2] ta m) (hg : Gl X "zip" := by rfl)
    (hs : starEach [e, e2] X.env = (false, eval e X.env) :: starEach [e2] X.env := by rfl) (hpl : (backTo pos (starEach [e2] X.env)).any (·.1) = false := by rfl) :
    QI X E (.Tuple elts kk tpos) (.Call (.Name "zip" p) [e, e2] [] pos) (iZip X.K ta) (miZ m) := ⟨pi_zip hg hm ha.pa hs hpl, sim_iZ ha.sim⟩
def enumItems (ds : List PyData) : List T := (List.range ds.length).map fun i => .d (.tuple [.int (i : Nat), ds.getD i .none])
def miN (m : MA) : MI := fun ρ => (m ρ).bind fun r => match r.1 with | [.d (.list ds)] => .ok (enumItems ds, r.2) | _ => .bad
theorem src_enum {K : PySem.W.Frag} {a : Addr} {ds : List PyData} : Src K (Ite K a) [some (.ref a)] [some (.d (.list ds))] (enumItems ds) where
  len := rfl
  goes := by
    intro c H sl ρ i hi st
    obtain ⟨A, w, f⟩ := StR.look st
    cases f with
    | @lst _ vs _ h _ f =>
      have hl := f.len
      have hi2 : i < vs.length := by rw [hl]; simpa [enumItems] using hi
      exact ⟨vs, vs[i], .of h, List.getElem?_eq_getElem hi2⟩
  stops := by
    intro c H sl ρ st
    obtain ⟨A, w, f⟩ := StR.look st
    cases f with
    | lst h _ f => exact ⟨_, .of h, by unfold enumItems; rw [List.length_map, List.length_range, f.len]; exact Nat.le_refl _⟩
  yields := by
    intro c H sl ρ i v H' t ht st y
    obtain ⟨p, x, rfl, hp, rfl, hx⟩ := y
    obtain ⟨A, w, f⟩ := StR.look st
    refine ⟨same_upd hp, A, ?_⟩
    unfold enumItems at ht
    rw [List.getElem?_map] at ht
    obtain ⟨j, e1, rfl⟩ := Option.map_eq_some_iff.mp ht
    obtain ⟨h1, h2⟩ := List.getElem?_eq_some_iff.mp e1
    have ej : i = j := by simpa using h2
    subst ej
    have h3 : i < ds.length := by simpa using h1
    cases f with
    | lst h _ f =>
      have g1 : ds[i]? = some (ds.getD i .none) := by
        rw [List.getD_eq_getElem?_getD, List.getElem?_eq_getElem h3]; rfl
      obtain ⟨v1, e2, fx⟩ := f.get g1
      have n1 := hx _ (.of h)
      rw [e2] at n1
      cases n1
      exact w.pair hp (.int _) fx
theorem sim_iN {K : PySem.W.Frag} {ta : TA} {m : MA} {g : Bool} (s : SimA K E g ta m) : SimI K E (iEnum K ta) (miN m) := by
  intro c H tv td σ ρ hl st Rr q
  unfold miN at q
  rw [then_bind] at q
  refine s c H tv td σ ρ hl st _ (q.imp ?_)
  rintro ⟨ts, ρ1⟩ q1 vs H1 _ hvs st1
  dsimp only at q1 hvs st1
  split at q1
  · rename_i ds
    match vs, hvs, st1 with
    | [v], _, st1 =>
      obtain ⟨A, w⟩ := st1
      obtain ⟨f, _⟩ := StW.topD w
      cases f with
      | lst h _ f => exact ⟨_, _, rfl, .of h, q1 _ H1 [some _] [some _] src_enum ⟨A, w⟩⟩
  · exact q1.elim
theorem qi_enum {e : Expr} {ta : TA} {m : MA} {g : Bool} {p tpos : Pos} {elts : List Expr} {kk : Nat} (hm : X.mg "enumerate" = none) (ha : QA X E g [e] ta m) (hg : Gl X "enumerate" := by rfl)
    (hs : starEach [e] X.env = [(false, eval e X.env)] := by rfl) : QI X E (.Tuple elts kk tpos) (.Call (.Name "enumerate" p) [e] [] pos) (iEnum X.K ta) (miN m) := ⟨pi_enum hg hm ha.pa hs, sim_iN ha.sim⟩

/-! ### slices -/
def cutG {α : Type} (xs : List α) (lo hi : Option Int) : List α := (xs.drop (HT.sIx xs.length 0 lo)).take (HT.sIx xs.length xs.length hi - HT.sIx xs.length 0 lo)
def isWhole (n : Nat) (lo hi : Option Int) : Bool := decide (HT.sIx n 0 lo = 0 ∧ HT.sIx n n hi = n)
theorem FzAll.drop {K : PySem.W.Frag} {F : Addr → Prop} {H : Hp} : ∀ {vs : List V} {xs : List PyData} (n : Nat), FzAll K F H vs xs → FzAll K F H (vs.drop n) (xs.drop n)
  | _, _, 0, h => h
  | _, _, _ + 1, .nil => .nil
  | _, _, n + 1, .cons _ r => r.drop n
theorem FzAll.take {K : PySem.W.Frag} {F : Addr → Prop} {H : Hp} : ∀ {vs : List V} {xs : List PyData} (n : Nat), FzAll K F H vs xs → FzAll K F H (vs.take n) (xs.take n)
  | _, _, 0, _ => .nil
  | _, _, _ + 1, .nil => .nil
  | _, _, n + 1, .cons a r => .cons a (r.take n)
theorem FzAll.cut {K : PySem.W.Frag} {F : Addr → Prop} {H : Hp} {vs : List V} {xs : List PyData} (h : FzAll K F H vs xs) (lo hi : Option Int) : FzAll K F H (cutV vs lo hi) (cutG xs lo hi) := by
  unfold cutV cutG
  rw [h.len]
  exact (h.drop _).take _
abbrev MO := Env → Option (Option Int)
def SimO (K : PySem.W.Frag) (to : TO) (m : MO) : Prop :=
  ∀ (c : C0) (H : Hp) (tv : List (Option V)) (td : Env) (σ : L2.St) (ρ : Env) (A : List Addr) (o : Option Int), tv.length = td.length → StW K c H (tv ++ σ) (td ++ ρ) A → m ρ = some o → ∀ Q : Option Int → Hp → Prop, Q o H → to σ H Q
structure QO (X : Cx) (e : Option Expr) (to : TO) (m : MO) : Prop where
  po : PO X e to
  sim : SimO X.K to m
def oNone : MO := fun _ => some none
def oSome (m : MP) : MO := fun ρ => ((m ρ).bind T.int?).map some
theorem qo_none : QO X none tNoPart oNone := ⟨po_none, fun c H tv td σ ρ A o _ _ e Q q => by cases e; exact q⟩
theorem qo_some (h : QP X e te ma) : QO X (some e) (tPart te) (oSome ma) := ⟨po_some h.pe, fun c H tv td σ ρ A o hl w e Q q => by
  obtain ⟨j, e1, e2⟩ := Option.map_eq_some_iff.mp e
  obtain ⟨t, e3, e4⟩ := Option.bind_eq_some_iff.mp e1
  cases e2
  cases int?_eq e4
  exact h.sim c H tv td σ ρ A _ hl w e3 _ fun v A1 r _ => ⟨j, r.i, q⟩⟩
def opSlL (t : T) (lo hi : Option Int) : Option RV := match t with
  | .d (.list ds) => some (.nl (cutG ds lo hi))
  | .rd ds => some (.nl (cutG ds lo hi))
  | .ol ts => (T.allD ts).map fun ds => .nl (cutG ds lo hi)
  | _ => none
def opSlT (t : T) (lo hi : Option Int) : Option RV := match t with
  | .d (.tuple ds) => if isWhole ds.length lo hi = false then some (.nt (cutG ds lo hi)) else none
  | _ => none
def mSl (op : T → Option Int → Option Int → Option RV) (m : MP) (ml mh : MO) : MEx := fun ρ => (ofO (m ρ)).bind fun t => (ofO (ml ρ)).bind fun lo => (ofO (mh ρ)).bind fun hi => (ofO (op t lo hi)).bind fun z => .ok (z.toT, ρ)
theorem sim_sl {K : PySem.W.Frag} {r : V → Option Int → Option Int → Hp → VK → Prop} {op : T → Option Int → Option Int → Option RV} {tl th : TO} {ml mh : MO} (hv : ∀ (F : Addr → Prop) (H : Hp) (v : V) (t : T) (A : List Addr) (lo hi : Option Int) (z : RV) (Q : VK), Rp K F H v t A → op t lo hi = some z → RVto K F H [] Q z → r v lo hi H Q)
    (s : SimP K te ma) (sl : SimO K tl ml) (sh : SimO K th mh) : SimE K E true (tSl r te tl th) (mSl op ma ml mh) := by
  intro c H tv td σ ρ hl st Q q
  unfold mSl at q
  obtain ⟨t, e1, q⟩ := then_ofO.mp (then_bind.mp q)
  obtain ⟨lo, e2, q⟩ := then_ofO.mp (then_bind.mp q)
  obtain ⟨hi, e3, q⟩ := then_ofO.mp (then_bind.mp q)
  obtain ⟨z, e4, q⟩ := then_ofO.mp (then_bind.mp q)
  obtain ⟨A, w⟩ := st
  refine s c H tv td σ ρ A t hl w e1 _ fun v A1 rv _ => ?_
  refine sl c H tv td σ ρ A lo hl w e2 _ ?_
  refine sh c H tv td σ ρ A hi hl w e3 _ ?_
  refine hv _ H v t A1 lo hi z Q rv e4 ?_
  exact StW.result (A1 := []) (B := A) (fun a => by simp) w.uniq w.own w.keep w.slots fun v' H' sm' => q v' H' fun _ => sm'
theorem qe_slL {p2 : Pos} {lo hi : Option Expr} {tl th : TO} {ml mh : MO} (h : QP X e te ma) (hl : QO X lo tl ml) (hh : QO X hi th mh) : QE X E true (.Subscript e (.Slice lo hi none p2) pos) (tSl (rSlL X.K) te tl th) (mSl opSlL ma ml mh) := by
  refine ⟨pe_slice sl_list h.pe hl.po hh.po, sim_sl (fun F H v t A lo hi z Q r e q => ?_) h.sim hl.sim hh.sim⟩
  unfold opSlL at e
  split at e
  · cases e
    obtain ⟨a, vs, rfl, h1, f⟩ := r.lst? (ds := _) rfl
    exact ⟨a, vs, rfl, .of h1, fun p hp => q p _ hp (f.cut lo hi)⟩
  · cases e
    cases r with
    | rd h1 f => exact ⟨_, _, rfl, h1.sq, fun p hp => q p _ hp (f.cut lo hi)⟩
  · obtain ⟨ds, e1, e2⟩ := Option.map_eq_some_iff.mp e
    cases e2
    obtain ⟨a, vs, rfl, h1, f⟩ := r.lst? (ds := ds) e1
    exact ⟨a, vs, rfl, .of h1, fun p hp => q p _ hp (f.cut lo hi)⟩
  · cases e
theorem qe_slT {p2 : Pos} {lo hi : Option Expr} {tl th : TO} {ml mh : MO} (h : QP X e te ma) (hl : QO X lo tl ml) (hh : QO X hi th mh) : QE X E true (.Subscript e (.Slice lo hi none p2) pos) (tSl (rSlT X.K) te tl th) (mSl opSlT ma ml mh) := by
  refine ⟨pe_slice sl_tup h.pe hl.po hh.po, sim_sl (fun F H v t A lo hi z Q r e q => ?_) h.sim hl.sim hh.sim⟩
  unfold opSlT at e
  split at e
  · split at e
    · rename_i hw
      cases e
      obtain ⟨a, vs, rfl, h1, f⟩ := r.t
      refine ⟨a, vs, rfl, h1, fun z => ?_, fun p hp => q p _ hp (f.cut lo hi)⟩
      rw [f.len] at z
      exact of_decide_eq_false hw z
    · cases e
  · cases e

/-! ### constants of the module -/
theorem qp_glob {x : Str} {v : V} {u : Value} {d : PyData} (hm : X.mg x = some u) (r : RelV v u) (f : ∀ F H, Fz X.K F H v d) (hg : Gl X x := by rfl) (hd : (x == ("__debug__" : Str)) = false := by decide) : QP X (.Name x pos) (tC v) (pC d) :=
  ⟨pe_glob hg hm r hd, fun c H tv td σ ρ A t _ _ e Q q => by cases e; exact q v [] (.d (f _ _)) fun _ z => by simp at z⟩
end
end L3
/-! L3k -/
/-! L3k: comprehensions as terms; op=; insert; what is read of a list that nobody writes; the end. -/
namespace L3
open PySem PySem.Spec PyProof.Rows L2

/-! ### the script, read -/
def mRd (i : Nat) : MEx := fun ρ => match ρ[i]? with
  | some (some (.rd ds)) => .ok (.rd ds, ρ)
  | _ => .bad
theorem sim_rd {K : PySem.W.Frag} {E : Str → Hp → Prop} (i : Nat) : SimE K E true (tVar i) (mRd i) := by
  intro c H tv td σ ρ hl st Q q
  obtain ⟨A, w⟩ := st
  unfold mRd at q
  split at q
  · rename_i ds e0
    obtain ⟨v, A1, e3, x, hc⟩ := w.see hl e0
    refine ⟨v, e3, q v H (fun _ => Same.refl H) ?_⟩
    cases x with
    | rd h r => exact ⟨[] ++ A, w.uniq, .cons (.rd h r) w.slots, w.own, w.keep⟩
  · exact q.elim
section
variable {X : Cx} {E : Str → Hp → Prop} {pos : Pos}
theorem qe_rd (i : Nat) {x : Str} {pos : Pos} (hN : X.N[i]? = some x := by rfl) (hv : Vis X.env.scope x := by first | exact Or.inl rfl | exact Or.inr (Or.inl rfl) | exact Or.inr (Or.inr rfl)) (hd : (x == ("__debug__" : Str)) = false := by decide)
    (hcd : (x == ("__classdict__" : Str)) = false := by decide) : QE X E true (.Name x pos) (tVar i) (mRd i) := ⟨pe_var hN hv hd hcd, sim_rd i⟩

/-! ### comprehensions -/
structure QTs (X : Cx) (E : Str → Hp → Prop) (es : List Expr) (tt : TT) (m : MT) : Prop where
  pts : PTs X es tt
  sim : SimT X.K E tt m
theorem qts_nil : QTs X E [] tYes mtYes := ⟨pts_nil, fun c H tv td σ ρ hl st Q q => q H st⟩
theorem qts_one {c : Expr} {t : TT} {m : MT} (h : QT X E c t m) : QTs X E [c] t m := ⟨pts_one h.pt, h.sim⟩
theorem qe_lc {elt tg iter : Expr} {ifs : List Expr} {scope : Scope} {own : List (Str × Nat)} {wi : TI} {mi : MI} {g : TG} {mg : MG} {tt : TT} {mt : MT} {te : TE} {me : MEx} {g1 : Bool} {vs : List Nat} (hvs : own.map (·.2) = vs) (hc : X.calm = true) (hN : X.N.Nodup) (hi : QI X E tg iter wi mi) (ok : BlkOk X.N X.env.scope scope own)
    (hg : ∀ (s : Shared) (H : Hp) (C : Addr) (cl : List (Str × Addr)) (fp : List Addr), QG (X.blk s H scope (compEnvC scope cl C X.env) fp) (notOwn vs) tg g mg) (ht : ∀ (s : Shared) (H : Hp) (C : Addr) (cl : List (Str × Addr)) (fp : List Addr), QTs (X.blk s H scope (compEnvC scope cl C X.env) fp) E ifs tt mt)
    (he : ∀ (s : Shared) (H : Hp) (C : Addr) (cl : List (Str × Addr)) (fp : List Addr), QE (X.blk s H scope (compEnvC scope cl C X.env) fp) E g1 elt te me) (hs : ∀ x, foldedSetIterable iter X.env x = pure x := by intro _; rfl) (s0 : Shared) (H0 : Hp) :
    QE X E false (.ListComp elt [⟨tg, iter, ifs, 0⟩] scope pos) (tLc wi g tt te vs) (mLc mi mg mt me vs) := by
  subst hvs
  exact ⟨pe_lc hc hN hi.pi ok (fun s H C cl fp => (hg s H C cl fp).pg) (fun s H C cl fp => (ht s H C cl fp).pts) (fun s H C cl fp => (he s H C cl fp).pe) hs,
    sim_lc hi.sim (hg s0 H0 0 [] []).sim (ht s0 H0 0 [] []).sim (he s0 H0 0 [] []).sim⟩
theorem qs_setLc {io : List Nat} {i : Nat} {y : Str} {py spos : Pos} {elt tg iter : Expr} {ifs : List Expr} {scope : Scope} {own : List (Str × Nat)} {wi : TI} {mi : MI} {g : TG} {mg : MG} {tt : TT} {mt : MT} {te : TE} {me : MEx} {g1 : Bool} {vs : List Nat} (hvs : own.map (·.2) = vs) (hc : X.calm = true) (hN : X.N.Nodup) (hy : X.N[i]? = some y) (hyl : X.env.scope.names.lookup y = some .local)
    (hsw : swapsWith (.ListComp elt [⟨tg, iter, ifs, 0⟩] scope pos) (some (.Name y py)) spos.line X.env = pure true) (hi : QI X E tg iter wi mi) (ok : BlkOk X.N X.env.scope scope own)
    (hg : ∀ (s : Shared) (H : Hp) (C : Addr) (cl : List (Str × Addr)) (fp : List Addr), QG (X.blk s H scope (compEnvC scope cl C X.env) fp) (notOwn vs) tg g mg) (ht : ∀ (s : Shared) (H : Hp) (C : Addr) (cl : List (Str × Addr)) (fp : List Addr), QTs (X.blk s H scope (compEnvC scope cl C X.env) fp) E ifs tt mt)
    (he : ∀ (s : Shared) (H : Hp) (C : Addr) (cl : List (Str × Addr)) (fp : List Addr), QE (X.blk s H scope (compEnvC scope cl C X.env) fp) E g1 elt te me) (s0 : Shared) (H0 : Hp) (hio : inIo io i = false := by rfl) (hs : ∀ x, foldedSetIterable iter X.env x = pure x := by intro _; rfl) :
    QS X E io (.Assign [.Name y py] (.ListComp elt [⟨tg, iter, ifs, 0⟩] scope pos) spos) (tAsg (tLc wi g tt te vs) (gName i)) (mAsg (mLc mi mg mt me vs) (mgName i)) := by
  subst hvs
  exact ⟨ps_setLc hc hN hy hyl hsw hi.pi ok (fun s H C cl fp => (hg s H C cl fp).pg) (fun s H C cl fp => (ht s H C cl fp).pts) (fun s H C cl fp => (he s H C cl fp).pe) hs,
    sim_asg (sim_lc hi.sim (hg s0 H0 0 [] []).sim (ht s0 H0 0 [] []).sim (he s0 H0 0 [] []).sim) (sim_gname hio)⟩

/-! ### name op= e, ints -/
def opIp (f : Int → Int → Int) : T → T → R RV
  | .d (.int i), .d (.int j) => .ok (.v (.d (.int (f i j))))
  | _, _ => .bad
def mAug (i : Nat) (f : Int → Int → Int) (m : MP) : MS := fun ρ => match ρ[i]?, m ρ with
  | some (some (.d (.int x))), some (.d (.int y)) => .ok (.next (ρ.set i (some (.d (.int (f x y))))))
  | _, _ => .bad
theorem qs_aug {io : List Nat} {i : Nat} {x : Str} {e : Expr} {te : TE} {m : MP} {op : Operator} {f : Int → Int → Int} {pos' : Pos} (hN : X.N.Nodup) (he : QP X e te m) (ho : PIp X op (ipI f)) (hi : X.N[i]? = some x := by rfl) (hx : L2.Loc X.env.scope x := by first | exact Or.inl rfl | exact Or.inr rfl) (hio : inIo io i = false := by rfl)
    (hf : X.fn x = true ∨ X.env.scope.names.lookup x = some .local := by first | exact .inl rfl | exact .inr rfl | assumption) : QS X E io (.AugAssign (.Name x pos') op e pos) (tAug i te (ipI f)) (mAug i f m) := by
  refine ⟨ps_aug hN hi hx he.pe ho hf, fun c H tv td σ ρ hl st D q => ?_⟩
  unfold mAug at q
  split at q
  · rename_i a b e1 e2
    obtain ⟨A, w⟩ := st
    obtain ⟨v, A1, e3, x1, _⟩ := w.see hl e1
    have ev := Rp.i x1
    subst ev
    refine ⟨_, e3, ?_⟩
    refine he.sim c H tv td σ ρ A _ hl w e2 _ fun u A2 x2 _ => ?_
    have eu := Rp.i x2
    subst eu
    refine ⟨_, _, rfl, rfl, ?_⟩
    refine q _ H (SameP.set hio).toIo ?_
    have st2 : StR X.K c H (some (V.int (f a b)) :: (tv ++ σ)) (some (T.d (.int (f a b))) :: (td ++ ρ)) := StR.pushC ⟨A, w⟩ fun _ _ => .int _
    exact st2.store hl
  · exact q.elim

/-! ### insert -/
def opInsert : List T → List T → Option (T × List T) := fun ts us => match us with
  | [.d (.int i), u] => if decide (ts.length < sLine ∧ 0 ≤ i ∧ i < 2 ^ 63) = true then some (.d .none, ts.take i.toNat ++ [u] ++ ts.drop i.toNat) else none
  | _ => none
abbrev rInsert : V → List V → Hp → VK → Prop := fun x vs H Q => ∃ (l : Addr) (xs : List V) (i : Int) (y : V), x = .ref l ∧ vs = [.int i, y] ∧ H l = some (.lst xs) ∧ xs.length < sizeLine ∧ 0 ≤ i ∧ i < 2 ^ 63 ∧
    Q .non (upd H l (.lst (xs.take i.toNat ++ [y] ++ xs.drop i.toNat)))
theorem RpAll.split {K : PySem.W.Frag} {F : Addr → Prop} {H : Hp} : ∀ {vs : List V} {ts : List T} {A : List Addr} (n : Nat), RpAll K F H vs ts A → ∃ B C, RpAll K F H (vs.take n) (ts.take n) B ∧ RpAll K F H (vs.drop n) (ts.drop n) C ∧ ∀ a, B.count a + C.count a = A.count a
  | _, _, A, 0, h => ⟨[], A, .nil, h, fun a => by simp⟩
  | _, _, _, _ + 1, .nil => ⟨[], [], .nil, .nil, fun a => by simp⟩
  | _, _, _, n + 1, .cons (A := A1) x r => by
    obtain ⟨B, C, h1, h2, h3⟩ := r.split n
    exact ⟨A1 ++ B, C, .cons x h1, h2, fun a => by have := h3 a; rw [List.count_append, List.count_append]; omega⟩
theorem insert_v {K : PySem.W.Frag} : UpdV K rInsert opInsert := by
  intro F H a vs ys ts us A1 A2 r ha r1 r2 e Q q
  unfold opInsert at e
  split at e
  · split at e
    · rename_i i u hz
      cases e
      have hz' := of_decide_eq_true hz
      cases r2 with
      | cons x0 rn =>
        have e0 := Rp.i x0
        subst e0
        cases x0 with
        | d x0 =>
          cases rn with
          | cons x rn =>
            rename_i v vs0 Ax Bx
            cases rn
            obtain ⟨B, C, h1, h2, h3⟩ := r1.split i.toNat
            obtain ⟨D, h4, h5⟩ := h1.snoc x
            obtain ⟨G, h6, h7⟩ := h4.append h2
            refine ⟨a, vs, i, v, rfl, rfl, ha, by rw [r1.len, ← sLine_eq]; exact hz'.1, hz'.2.1, hz'.2.2, q .non _ [] G (.d .non) h6 fun b => ?_⟩
            have := h3 b
            have := h5 b
            have := h7 b
            simp only [List.count_append, List.count_nil]
            omega
    · cases e
  · cases e
end

/-! ### the law's promise from its mirror -/
theorem only_rd {K : PySem.W.Frag} {H : Hp} {a : Addr} {vs : List V} (h : Only H) (s : SqL K H a vs) : RdL K H a vs := by
  rcases s with (s | ⟨o, s⟩) | s
  · rcases h a with z | ⟨o, xs, z⟩ <;> (rw [s] at z; cases z)
  · exact .inl ⟨o, s⟩
  · exact .inr s
theorem ints_fz {K : PySem.W.Frag} {F : Addr → Prop} {H : Hp} : ∀ ns : List Int, FzAll K F H (ns.map V.int) (ns.map PyData.int)
  | [] => .nil
  | _ :: r => .cons (.int _) (ints_fz r)
abbrev scr (ns : List Int) : T := .rd (ns.map PyData.int)
theorem law_sp {K : PySem.W.Frag} {rz : Bool} {cl : Str → Option Addr} {m : List T → R (T × List T)} {H : Hp} {a : Addr} {ns : List Int} (hO : Only H) (hS : SqL K H a (ns.map V.int)) (h : Then (m [scr ns]) (fun r => r.1 = .d (.bool true)) (fun _ => False)) :
    spT K rz cl 1 [] m [.ref a] H (fun v _ => v = .bl true) (fun _ _ _ => False) := by
  refine ⟨[scr ns], fun _ => True, [], rfl, fun _ => by simp, .cons (A := []) (B := []) (.rd (only_rd hO hS) (ints_fz ns)) .nil, ?_⟩
  refine h.mono (fun r e => ?_) fun _ z => z.elim
  intro v H' A' _ _ _ _ rr
  cases rr with
  | cons x _ =>
    rw [e] at x
    exact Rp.b x
end L3
/-! L3l -/
/-! L3l: names for the printer; a pair stored; a temporary for a tree that is written; reversed; range with a step. -/
namespace L3
open PySem PySem.Spec PyProof.Rows L2

theorem bt_len : bootBuiltins "len" = some (.builtin "len") := by decide +kernel
theorem bt_abs : bootBuiltins "abs" = some (.builtin "abs") := by decide +kernel
theorem bt_max : bootBuiltins "max" = some (.builtin "max") := by decide +kernel
theorem bt_min : bootBuiltins "min" = some (.builtin "min") := by decide +kernel
theorem bt_sorted : bootBuiltins "sorted" = some (.builtin "sorted") := by decide +kernel
theorem bt_int : bootBuiltins "int" = some (.type "int") := by decide +kernel
theorem bt_bool : bootBuiltins "bool" = some (.type "bool") := by decide +kernel
theorem bt_str : bootBuiltins "str" = some (.type "str") := by decide +kernel
theorem bt_list : bootBuiltins "list" = some (.type "list") := by decide +kernel
theorem bt_tuple : bootBuiltins "tuple" = some (.type "tuple") := by decide +kernel

section
variable {K : PySem.W.Frag}
theorem opSub_v : OpV K (rI (fun _ _ => True) fun i j => .int (i - j)) opSub := opI2_v (fun _ _ _ => trivial) fun _ _ _ _ => .int _
theorem opMulI_v : OpV K (rI (fun i j => mulOk i j = true) fun i j => .int (i * j)) opMulI := opI2_v (fun _ _ h => h) fun _ _ _ _ => .int _
theorem opMod_v : OpV K (rI (fun i j => modOk i j = true) fun i j => .int (i.fmod j)) opMod := opI2_v (fun _ _ h => h) fun _ _ _ _ => .int _
theorem opFdiv_v : OpV K (rI (fun i j => divOk i j = true) fun i j => .int (i.fdiv j)) opFdiv := opI2_v (fun _ _ h => h) fun _ _ _ _ => .int _
theorem opPow_v : OpV K (rI (fun i j => powOk i j = true) fun i j => .int (i ^ j.toNat)) opPow := opI2_v (fun _ _ h => h) fun _ _ _ _ => .int _
theorem opLt_v : OpV K (rI (fun _ _ => True) fun i j => .bl (decide (i < j))) opLt := opI2_v (fun _ _ _ => trivial) fun _ _ _ _ => .bl _
theorem opLe_v : OpV K (rI (fun _ _ => True) fun i j => .bl (decide (i ≤ j))) opLe := opI2_v (fun _ _ _ => trivial) fun _ _ _ _ => .bl _
theorem opGt_v : OpV K (rI (fun _ _ => True) fun i j => .bl (decide (j < i))) opGt := opI2_v (fun _ _ _ => trivial) fun _ _ _ _ => .bl _
theorem opGe_v : OpV K (rI (fun _ _ => True) fun i j => .bl (decide (j ≤ i))) opGe := opI2_v (fun _ _ _ => trivial) fun _ _ _ _ => .bl _
end
section
variable {X : Cx}
theorem call_lenA : CallR X (.builtin "len") (rLen X.K) := call_len
theorem call_absA : CallR X (.builtin "abs") rAbs := call_abs
theorem call_int1A : CallR X (.type "int") rInt1 := call_int1
theorem call_max2A (hc : X.calm = true) : CallR X (.builtin "max") rMax2 := call_max2 hc
theorem call_min2A (hc : X.calm = true) : CallR X (.builtin "min") rMin2 := call_min2 hc
theorem call_listOf : CallR X (.type "list") (rListOf X.K) := call_list_of
theorem call_tupleOf : CallR X (.type "tuple") (rTupleOf X.K) := call_tuple_of
theorem call_strI : CallR X (.type "str") rStrI := call_str_int

theorem qp_globT {x : Str} {d : PyData} {pos : Pos} (h : ∃ (u : Value) (v : V), X.mg x = some u ∧ RelV v u ∧ ∀ F H, Fz X.K F H v d) (hg : Gl X x := by rfl) (hd : (x == ("__debug__" : Str)) = false := by decide) : ∃ v, QP X (.Name x pos) (tC v) (pC d) :=
  let ⟨_, v, hm, r, f⟩ := h; ⟨v, qp_glob hm r f hg hd⟩

/-! ### a, b = x, y -/
def mPar (i j : Nat) (m : MA) : MS := fun ρ => (m ρ).bind fun r => match r.1 with
  | [t, u] => .ok (.next ((r.2.set i (some t)).set j (some u)))
  | _ => .bad
variable {E : Str → Hp → Prop} {pos : Pos}
theorem qs_par {io : List Nat} {i j : Nat} {x y : Str} {a b : Expr} {ta : TA} {m : MA} {g : Bool} {px py pt : Pos} {kt k2 pt2} (hc : X.calm = true) (hN : X.N.Nodup) (ha : QA X E g [a, b] ta m) (hi : X.N[i]? = some x := by rfl) (hj : X.N[j]? = some y := by rfl) (hij : i ≠ j := by decide)
    (hx : X.env.scope.names.lookup x = some .local := by rfl) (hy : X.env.scope.names.lookup y = some .local := by rfl)
    (hw : swappedStores [.Tuple [.Name x px, .Name y py] kt pt] (.Tuple [a, b] k2 pt2) X.env = pure (some [x, y]) := by rfl)
    (hio : inIo io i = false := by rfl) (hjo : inIo io j = false := by rfl)
    (hs : swapsWithSole [.Tuple [.Name x px, .Name y py] kt pt] (.Tuple [a, b] k2 pt2) pos.line X.env = pure false := by rfl) :
    QS X E io (.Assign [.Tuple [.Name x px, .Name y py] kt pt] (.Tuple [a, b] k2 pt2) pos) (tPar i j ta) (mPar i j m) := by
  refine ⟨ps_par hc hN hi hj hij hx hy ha.pa hw hs, fun c H tv td σ ρ hl st D q => ?_⟩
  unfold mPar at q
  rw [then_bind] at q
  refine ha.sim c H tv td σ ρ hl st _ (q.imp ?_)
  rintro ⟨ts, ρ1⟩ q1 vs H1 _ hvs st1
  dsimp only at q1 hvs st1
  split at q1
  · rename_i t u
    match vs, hvs, st1 with
    | [v, w], _, st1 =>
      have st2 : StR X.K c H1 ((some w :: tv) ++ σ.set i (some v)) ((some u :: td) ++ ρ1.set i (some t)) := StR.store (tv := some w :: tv) (td := some u :: td) (by simp [hl]) st1
      have st3 := StR.store (i := j) hl st2
      exact ⟨v, w, rfl, q1 _ H1 ((SameP.set hio).trans (SameP.set hjo)).toIo st3⟩
  · exact q1.elim

/-! ### trees that are handed as temporaries: what is written into them is not asked for -/
def dropIo (m : List T → R (T × List T)) : List T → R (T × List T) := fun ts => (m ts).bind fun r => .ok (r.1, [])
theorem spT_drop {K : PySem.W.Frag} {rz : Bool} {cl : Str → Option Addr} {n : Nat} {io : List Nat} {m : List T → R (T × List T)} {vs : List V} {H : Hp} {Q : VK} {Ek : XK} (h : spT K rz cl n [] (dropIo m) vs H Q Ek) : spT K rz cl n io m vs H Q Ek := by
  obtain ⟨ts, F, A, h1, h2, h3, h4⟩ := h
  refine ⟨ts, F, A, h1, h2, h3, ?_⟩
  unfold dropIo at h4
  rw [then_bind] at h4
  refine h4.imp fun r q v H' A' u ow kf same rr => ?_
  cases rr with
  | cons x rest =>
    rename_i A1 A2
    have hle : ∀ a, A1.count a ≤ (A1 ++ A2).count a := fun a => by rw [List.count_append]; omega
    refine q v H' A1 (fun a => Nat.le_trans (hle a) (u a)) (fun a ha => ow a (List.mem_append_left _ ha)) kf (fun _ e a o z => kf.keep a o z (by rw [e]; simp)) ?_
    have m0 : Mono (fun a => (F a ∨ H a = none ∨ a ∈ A) ∧ a ∉ A1 ++ A2) (fun a => (F a ∨ H a = none ∨ a ∈ A) ∧ a ∉ A1) H' H' := .sub fun a _ ⟨p, n⟩ => ⟨p, fun z => n (List.mem_append_left _ z)⟩
    have := RpAll.cons (x.mono m0 fun _ _ => rfl) (RpAll.nil (K := K) (F := fun a => (F a ∨ H a = none ∨ a ∈ A) ∧ a ∉ A1) (H := H'))
    rwa [List.append_nil] at this
theorem fn_drop {P : Program} {w : World} {K : PySem.W.Frag} {mg : Str → Option Value} {base : Heap} {CX : CXT} {k : Nat} {f : Addr} {fd : FuncData} {ps : List Str} {rz : Bool} {cl : Str → Option Addr} {n : Nat} {io : List Nat} {m : List T → R (T × List T)} (F : FnOk P w K mg base CX k f fd ps (spT K rz cl n io m)) :
    FnOk P w K mg base CX k f fd ps (spT K rz cl n [] (dropIo m)) := F.imp fun _ _ _ _ => spT_drop
end
end L3
namespace L3
open PySem PySem.Spec PyProof.Rows L2
/-! ### readings by the mirror alone: they do not hang on the frame -/
def teM (K : PySem.W.Frag) (E : Str → Hp → Prop) (g : Bool) (m : MEx) : TE := fun σ H Q => ∃ (c : C0) (tv : List (Option V)) (td ρ : Env), tv.length = td.length ∧ StR K c H (tv ++ σ) (td ++ ρ) ∧
  Then (m ρ) (fun r => ∀ v H', (g = true → Same H H') → StR K c H' (some v :: (tv ++ σ)) (some r.1 :: (td ++ r.2)) → Q v H') (fun x => ∀ H', KeepC c H' → E x H')
def ttM (K : PySem.W.Frag) (E : Str → Hp → Prop) (m : MT) : TT := fun σ H Q => ∃ (c : C0) (tv : List (Option V)) (td ρ : Env), tv.length = td.length ∧ StR K c H (tv ++ σ) (td ++ ρ) ∧
  Then (m ρ) (fun r => ∀ H', StR K c H' (tv ++ σ) (td ++ r.2) → Q r.1 H') (fun x => ∀ H', KeepC c H' → E x H')
def tgM (K : PySem.W.Frag) (pr : Nat → Bool) (m : MG) : TG := fun v σ H Q => ∃ (c : C0) (tv : List (Option V)) (td ρ ρ' : Env) (t : T), tv.length = td.length ∧ StR K c H (some v :: (tv ++ σ)) (some t :: (td ++ ρ)) ∧ m t ρ = some ρ' ∧
  ∀ σ' H', SameP pr σ σ' → StR K c H' (tv ++ σ') (td ++ ρ') → Q σ' H'
section
variable {X : Cx} {E : Str → Hp → Prop} {pos : Pos}
theorem QE.can {g : Bool} {e : Expr} {te : TE} {m : MEx} (h : QE X E g e te m) : QE X E g e (teM X.K E g m) m :=
  ⟨⟨fun pins s σ H Q I w => h.pe.run pins s σ H Q I (let ⟨c, tv, td, ρ, hl, st, q⟩ := w; h.sim c H tv td σ ρ hl st Q q)⟩, fun c H tv td σ ρ hl st Q q => ⟨c, tv, td, ρ, hl, st, q⟩⟩
theorem QTs.can {es : List Expr} {tt : TT} {m : MT} (h : QTs X E es tt m) : QTs X E es (ttM X.K E m) m :=
  ⟨⟨fun pins s σ H Q I w => h.pts.run pins s σ H Q I (let ⟨c, tv, td, ρ, hl, st, q⟩ := w; h.sim c H tv td σ ρ hl st Q q)⟩, fun c H tv td σ ρ hl st Q q => ⟨c, tv, td, ρ, hl, st, q⟩⟩
theorem QG.can {pr : Nat → Bool} {e : Expr} {tg : TG} {m : MG} (h : QG X pr e tg m) : QG X pr e (tgM X.K pr m) m :=
  ⟨⟨fun pins s σ H v u Q I r w => h.pg.run pins s σ H v u Q I r (let ⟨c, tv, td, ρ, ρ', t, hl, st, e, q⟩ := w; h.sim c H tv td σ ρ ρ' v t hl st e Q q)⟩, fun c H tv td σ ρ ρ' v t hl st e Q q => ⟨c, tv, td, ρ, ρ', t, hl, st, e, q⟩⟩
theorem qe_lcC {elt tg iter : Expr} {ifs : List Expr} {scope : Scope} {own : List (Str × Nat)} {wi : TI} {mi : MI} {mg : MG} {mt : MT} {me : MEx} {g1 : Bool} {vs : List Nat} (hvs : own.map (·.2) = vs) (hc : X.calm = true) (hN : X.N.Nodup) (hi : QI X E tg iter wi mi) (ok : BlkOk X.N X.env.scope scope own)
    (hg : ∀ (s : Shared) (H : Hp) (C : Addr) (cl : List (Str × Addr)) (fp : List Addr), ∃ g, QG (X.blk s H scope (compEnvC scope cl C X.env) fp) (notOwn vs) tg g mg) (ht : ∀ (s : Shared) (H : Hp) (C : Addr) (cl : List (Str × Addr)) (fp : List Addr), ∃ tt, QTs (X.blk s H scope (compEnvC scope cl C X.env) fp) E ifs tt mt)
    (he : ∀ (s : Shared) (H : Hp) (C : Addr) (cl : List (Str × Addr)) (fp : List Addr), ∃ te, QE (X.blk s H scope (compEnvC scope cl C X.env) fp) E g1 elt te me) (s0 : Shared) (H0 : Hp) (hs : ∀ x, foldedSetIterable iter X.env x = pure x := by intro _; rfl) :
    QE X E false (.ListComp elt [⟨tg, iter, ifs, 0⟩] scope pos) (tLc wi (tgM X.K (notOwn vs) mg) (ttM X.K E mt) (teM X.K E g1 me) vs) (mLc mi mg mt me vs) :=
  qe_lc hvs hc hN hi ok (fun s H C cl fp => let ⟨_, h⟩ := hg s H C cl fp; h.can) (fun s H C cl fp => let ⟨_, h⟩ := ht s H C cl fp; h.can) (fun s H C cl fp => let ⟨_, h⟩ := he s H C cl fp; h.can) hs s0 H0
theorem qs_setLcC {io : List Nat} {i : Nat} {y : Str} {py spos : Pos} {elt tg iter : Expr} {ifs : List Expr} {scope : Scope} {own : List (Str × Nat)} {wi : TI} {mi : MI} {mg : MG} {mt : MT} {me : MEx} {g1 : Bool} {vs : List Nat} (hvs : own.map (·.2) = vs) (hc : X.calm = true) (hN : X.N.Nodup) (hy : X.N[i]? = some y) (hyl : X.env.scope.names.lookup y = some .local)
    (hsw : swapsWith (.ListComp elt [⟨tg, iter, ifs, 0⟩] scope pos) (some (.Name y py)) spos.line X.env = pure true) (hi : QI X E tg iter wi mi) (ok : BlkOk X.N X.env.scope scope own)
    (hg : ∀ (s : Shared) (H : Hp) (C : Addr) (cl : List (Str × Addr)) (fp : List Addr), ∃ g, QG (X.blk s H scope (compEnvC scope cl C X.env) fp) (notOwn vs) tg g mg) (ht : ∀ (s : Shared) (H : Hp) (C : Addr) (cl : List (Str × Addr)) (fp : List Addr), ∃ tt, QTs (X.blk s H scope (compEnvC scope cl C X.env) fp) E ifs tt mt)
    (he : ∀ (s : Shared) (H : Hp) (C : Addr) (cl : List (Str × Addr)) (fp : List Addr), ∃ te, QE (X.blk s H scope (compEnvC scope cl C X.env) fp) E g1 elt te me) (s0 : Shared) (H0 : Hp) (hio : inIo io i = false := by rfl) (hs : ∀ x, foldedSetIterable iter X.env x = pure x := by intro _; rfl) :
    QS X E io (.Assign [.Name y py] (.ListComp elt [⟨tg, iter, ifs, 0⟩] scope pos) spos) (tAsg (tLc wi (tgM X.K (notOwn vs) mg) (ttM X.K E mt) (teM X.K E g1 me) vs) (gName i)) (mAsg (mLc mi mg mt me vs) (mgName i)) :=
  qs_setLc hvs hc hN hy hyl hsw hi ok (fun s H C cl fp => let ⟨_, h⟩ := hg s H C cl fp; h.can) (fun s H C cl fp => let ⟨_, h⟩ := ht s H C cl fp; h.can) (fun s H C cl fp => let ⟨_, h⟩ := he s H C cl fp; h.can) s0 H0 hio hs
end
end L3
/-! L3p -/
/-! L3p: order of tuples of ints; in, not in; a list turned about; slices of what is made. -/
namespace L3
open PySem PySem.Spec PyProof.Rows L2

/-! ### t < u, ints -/
def allInts : List PyData → Option (List Int)
  | [] => some []
  | .int i :: r => (allInts r).map fun ns => i :: ns
  | _ => none
def opLtA : T → T → R RV
  | .d (.int i), .d (.int j) => .ok (.v (.d (.bool (decide (i < j)))))
  | .d (.tuple xs), .d (.tuple ys) => (match allInts xs, allInts ys with
    | some ns, some ms => .ok (.v (.d (.bool (HT.lexLt ns ms))))
    | _, _ => .bad)
  | _, _ => .bad
def rLtA (K : PySem.W.Frag) : R2 := fun x y H Q => rI (fun _ _ => True) (fun i j => .bl (decide (i < j))) x y H Q ∨ rLtT K x y H Q
theorem op_ltAA {X : Cx} (hu : X.A.units + 64 < cLine) : OpR X (compareOp .Lt) (rLtA X.K) := op_ltA.or (op_ltT (by omega))
theorem opLtA_nox : NoX opLtA := by
  intro x y c
  unfold opLtA
  split
  · intro z; cases z
  · split <;> (intro z; cases z)
  · intro z; cases z
theorem allInts_fz {K : PySem.W.Frag} {F : Addr → Prop} {H : Hp} : ∀ {xs : List PyData} {vs : List V} {ns : List Int}, FzAll K F H vs xs → allInts xs = some ns → vs = ns.map V.int
  | [], _, ns, .nil, e => by
    have e' : [] = ns := Option.some.inj e
    subst e'
    rfl
  | .int i :: r, _, ns, .cons h hr, e => by
    have e' : (allInts r).map (fun ns => i :: ns) = some ns := e
    obtain ⟨ms, e1, e2⟩ := Option.map_eq_some_iff.mp e'
    subst e2
    cases h
    rw [allInts_fz hr e1]
    rfl
  | .none :: _, _, _, _, e => by cases e
  | .bool _ :: _, _, _, _, e => by cases e
  | .str _ :: _, _, _, _, e => by cases e
  | .list _ :: _, _, _, _, e => by cases e
  | .tuple _ :: _, _, _, _, e => by cases e
  | .dict _ :: _, _, _, _, e => by cases e
theorem opLtA_v {K : PySem.W.Frag} : OpV K (rLtA K) opLtA := by
  intro F H v u x y A B hx hy Q q
  unfold opLtA at q
  split at q
  · exact .inl ⟨_, _, hx.i, hy.i, trivial, rv_d q (.bl _)⟩
  · split at q
    · rename_i ns ms e1 e2
      obtain ⟨a, vs, rfl, h1, f1⟩ := hx.t
      obtain ⟨b, ws, rfl, h2, f2⟩ := hy.t
      have g1 := allInts_fz f1 e1
      have g2 := allInts_fz f2 e2
      subst g1; subst g2
      exact .inr ⟨a, b, ns, ms, rfl, rfl, h1, h2, rv_d q (.bl _)⟩
    · exact q.elim
  · exact q.elim

/-! ### in, not in: a list of data -/
def inD (x y : T) : R Bool := match x.toD, y.toD with
  | some d, some (.list ds) => guard (SeqAt.shaped d && SeqAt.shaped (.list ds)) (.ok (ds.any fun z => PyData.eqv z d))
  | _, _ => .bad
def opInD (x y : T) : R RV := (inD x y).bind fun k => .ok (.v (.d (.bool k)))
def opNotInD (x y : T) : R RV := (inD x y).bind fun k => .ok (.v (.d (.bool (!k))))
theorem inD_noexc {x y : T} (c : Str) : inD x y ≠ .exc c := by
  unfold inD
  split
  · exact guard_noexc (by intro _ z; cases z) c
  · (intro z; cases z)
theorem opInD_nox : NoX opInD := fun x y c => bind_noexc (fun _ => inD_noexc _) (by intro _ _ z; cases z) c
theorem opNotInD_nox : NoX opNotInD := fun x y c => bind_noexc (fun _ => inD_noexc _) (by intro _ _ z; cases z) c
theorem inD_red {K : PySem.W.Frag} {F : Addr → Prop} {H : Hp} {v u : V} {x y : T} {A B : List Addr} (hx : Rp K F H v x A) (hy : Rp K F H u y B) {P : Bool → Prop} (q : Then (inD x y) P (fun _ => False)) :
    ∃ d ds, Dp K H v d ∧ Dp K H u (.list ds) ∧ SeqAt.shaped d = true ∧ SeqAt.shaped (.list ds) = true ∧ P (ds.any fun z => PyData.eqv z d) := by
  unfold inD at q
  split at q
  · rename_i d ds e1 e2
    obtain ⟨g, q⟩ := then_guard.mp q
    rw [Bool.and_eq_true] at g
    exact ⟨d, ds, hx.dp e1, hy.dp e2, g.1, g.2, q⟩
  · exact q.elim
theorem opInD_v {K : PySem.W.Frag} : OpV K (rInD K) opInD := by
  intro F H v u x y A B hx hy Q q
  exact inD_red hx hy ((then_bind.mp q).imp fun k h => rv_d h (.bl k))
theorem opNotInD_v {K : PySem.W.Frag} : OpV K (rNotInD K) opNotInD := by
  intro F H v u x y A B hx hy Q q
  exact inD_red hx hy ((then_bind.mp q).imp fun k h => rv_d h (.bl (!k)))
theorem op_inA {X : Cx} (hu : X.A.units + 65 < cLine) : OpR X (compareOp .In) (rInD X.K) := op_inD hu
theorem op_notInA {X : Cx} (hu : X.A.units + 65 < cLine) : OpR X (compareOp .NotIn) (rNotInD X.K) := op_notInD hu

/-! ### xs[::-1] -/
def opRevL : T → R RV
  | .d (.list ds) => .ok (.nl ds.reverse)
  | _ => .bad
theorem FzAll.snoc {K : PySem.W.Frag} {F : Addr → Prop} {H : Hp} {vs : List V} {xs : List PyData} {v : V} {x : PyData} (h : FzAll K F H vs xs) (y : Fz K F H v x) : FzAll K F H (vs ++ [v]) (xs ++ [x]) := h.append (.cons y .nil)
theorem FzAll.rev {K : PySem.W.Frag} {F : Addr → Prop} {H : Hp} : ∀ {vs : List V} {xs : List PyData}, FzAll K F H vs xs → FzAll K F H vs.reverse xs.reverse
  | _, _, .nil => .nil
  | _, _, .cons a r => by
    rw [List.reverse_cons, List.reverse_cons]
    exact r.rev.snoc a
section
variable {X : Cx} {E : Str → Hp → Prop} {e : Expr} {te : TE} {m : MEx} {g : Bool} {pos : Pos}
theorem qe_rev {k : Nat} {p1 p2 p3 : Pos} (h : QE X E g e te m) : QE X E g (.Subscript e (.Slice none none (some (.UnaryOp .USub (.Constant (.int 1) k p1) p2)) p3) pos) (tRevL X.K te) (mUn opRevL m) := by
  refine ⟨pe_revL h.pe, fun c H tv td σ ρ hl st Q q => ?_⟩
  have ho : UnV X.K (fun x H1 Q => ∃ a xs, x = .ref a ∧ SqL X.K H1 a xs ∧ ∀ p, H1 p = none → Q (.ref p) (upd H1 p (.lst xs.reverse))) opRevL := by
    intro F H v x A hx Q q
    unfold opRevL at q
    split at q
    · obtain ⟨a, vs, rfl, h1, f⟩ := hx.lst? (ds := _) rfl
      exact ⟨a, vs, rfl, .of h1, fun p hp => q p _ hp f.rev⟩
    · exact q.elim
  have hx : NoX1 opRevL := by
    intro x c
    unfold opRevL
    split <;> (intro z; cases z)
  exact sim_un ho hx h.sim c H tv td σ ρ hl st Q q

/-! ### slices of what is made -/
def opSlA (t : T) (lo hi : Option Int) : Option RV := match t with
  | .d (.list ds) => some (.nl (cutG ds lo hi))
  | .ol ts => (T.allD ts).map fun ds => .nl (cutG ds lo hi)
  | _ => none
def mSlE (m : MEx) (ml mh : MO) : MEx := fun ρ => (m ρ).bind fun r => (ofO (ml r.2)).bind fun lo => (ofO (mh r.2)).bind fun hi => (ofO (opSlA r.1 lo hi)).bind fun z => .ok (z.toT, r.2)
theorem qe_slE {p2 : Pos} {lo hi : Option Expr} {tl th : TO} {ml mh : MO} (h : QE X E g e te m) (hlo : QO X lo tl ml) (hhi : QO X hi th mh) : QE X E g (.Subscript e (.Slice lo hi none p2) pos) (tSl (rSlL X.K) te tl th) (mSlE m ml mh) := by
  refine ⟨pe_slice sl_list h.pe hlo.po hhi.po, fun c H tv td σ ρ hl st Q q => ?_⟩
  unfold mSlE at q
  rw [then_bind] at q
  refine h.sim c H tv td σ ρ hl st _ (q.imp ?_)
  rintro ⟨t, ρ1⟩ q1 v H1 sm st1
  obtain ⟨lo', e2, q1⟩ := then_ofO.mp (then_bind.mp q1)
  obtain ⟨hi', e3, q1⟩ := then_ofO.mp (then_bind.mp q1)
  obtain ⟨z, e4, q1⟩ := then_ofO.mp (then_bind.mp q1)
  obtain ⟨A, w⟩ := st1
  have w' : StW X.K c H1 ((some v :: tv) ++ σ) ((some t :: td) ++ ρ1) A := w
  refine hlo.sim c H1 (some v :: tv) (some t :: td) σ ρ1 A lo' (by simp [hl]) w' e2 _ ?_
  refine hhi.sim c H1 (some v :: tv) (some t :: td) σ ρ1 A hi' (by simp [hl]) w' e3 _ ?_
  obtain ⟨A1, B, eA, x0, s⟩ := w.top
  have x : Rp X.K (Fok c A) H1 v t A1 := x0
  clear x0
  have fin : RVto X.K (Fok c A) H1 [] Q z := StW.result (A1 := []) (B := B) (fun a => by rw [eA, List.count_append]; simp) w.uniq w.own w.keep s fun v' H' sm' => q1 v' H' fun e => (sm e).trans sm'
  have e5 : opSlA t lo' hi' = some z := e4
  clear e4
  unfold opSlA at e5
  split at e5
  · cases e5
    obtain ⟨a, vs, rfl, h1, f⟩ := x.lst? (ds := _) rfl
    exact ⟨a, vs, rfl, .of h1, fun p hp => fin p _ hp (f.cut lo' hi')⟩
  · obtain ⟨ds, e1, e2⟩ := Option.map_eq_some_iff.mp e5
    cases e2
    obtain ⟨a, vs, rfl, h1, f⟩ := x.lst? (ds := ds) e1
    exact ⟨a, vs, rfl, .of h1, fun p hp => fin p _ hp (f.cut lo' hi')⟩
  · cases e5
end
end L3
namespace L3
open PySem L2
theorem u65 {k : Nat} {A : Around} (r : Room k A) : A.units + 65 < cLine := by have := r.un; omega
end L3
namespace L3
open PySem PySem.Spec PyProof.Rows L2
/-! ### is, is not of truths -/
def opIsB : T → T → R RV
  | .d (.bool a), .d (.bool b) => .ok (.v (.d (.bool (decide (a = b)))))
  | _, _ => .bad
def opNotB : T → T → R RV
  | .d (.bool a), .d (.bool b) => .ok (.v (.d (.bool (!decide (a = b)))))
  | _, _ => .bad
theorem opIsB_nox : NoX opIsB := by
  intro x y c
  unfold opIsB
  split <;> (intro z; cases z)
theorem opNotB_nox : NoX opNotB := by
  intro x y c
  unfold opNotB
  split <;> (intro z; cases z)
theorem opIsB_v {K : PySem.W.Frag} : OpV K rIsB opIsB := by
  intro F H v u x y A B hx hy Q q
  unfold opIsB at q
  split at q
  · exact ⟨_, _, hx.b, hy.b, rv_d q (.bl _)⟩
  · exact q.elim
theorem opNotB_v {K : PySem.W.Frag} : OpV K rNotB opNotB := by
  intro F H v u x y A B hx hy Q q
  unfold opNotB at q
  split at q
  · exact ⟨_, _, hx.b, hy.b, rv_d q (.bl _)⟩
  · exact q.elim
end L3
/-! L3q -/
/-! L3q: errors raised, kept, and looked at. -/
namespace L3
open PySem PySem.Spec PyProof.Rows L2

theorem spT_cl {K : PySem.W.Frag} {cl cl' : Str → Option Addr} {n : Nat} {io : List Nat} {m : List T → R (T × List T)} : spT K false cl n io m = spT K false cl' n io m := by
  funext vs H Q E
  unfold spT
  simp only [Bool.false_eq_true, false_and]
/-! ### raise -/
def mRaise (x : Str) : MS := fun _ => .exc x
theorem EX.mk {K : PySem.W.Frag} {E : XK} {x : Str} {C : Addr} {H : Hp} (h : EX (clK K) E x H) (e : clK K x = some C) : E (.ref C) none H := h C e
/-- raise X("m"), in a def that may raise -/
theorem qs_raise {X : Cx} {E : XK} {W : WX} {io : List Nat} {C : Addr} {bmB : List Value} {B newId initId : String} {x m : Str} {j : Nat} {p p2 p3 pos : Pos} (F : ExcBaseFacts B newId initId bmB) (q : PySem.W.excIn X.K C bmB newId = true) (gC : X.mg x = some (.ref C)) (kC : PySem.W.keepIn X.K (.ref C) = true) (r : Raises X (.ref C)) (hc : clK X.K x = some C)
    (tk : Takes X W) (hW : ∀ cls d σ H, E cls d H → W cls d σ H) (hcalm : X.calm = true := by rfl) (hg : Gl X x := by rfl) (hdb : (x == ("__debug__" : Str)) = false := by decide) :
    QS X (EX (clK X.K) E) io (.Raise (some (.Call (.Name x p) [.Constant (.str m) j p2] [] p3)) none pos) (fun _ σ H => W (.ref C) none σ H) (mRaise x) := by
  refine ⟨ps_raise hcalm tk (pmk_own F q gC kC r hg hdb), fun c H tv td σ ρ hl st D q => ?_⟩
  exact hW _ _ σ H ((q H st.keep) C hc)

/-! ### what a call lets out -/
theorem passF {X : Cx} : Passes (L2.CX X.prog X.w) X E0 := fun pins σ H s e s' I c => by
  obtain ⟨_, _, _, _, _, _, _, _, _, _, _, _, z⟩ := c
  exact z.elim
def EkW (X : Cx) (W : WX) : XK := fun cls d H => ∀ σ : L2.St, σ.length = X.N.length → W cls d σ H
theorem passW {X : Cx} {pn : List (Addr × Obj)} {xe : Value → Shared → Prop} {W : WX} (tk : Takes (X.tr pn xe) W) : Passes (L2.CX X.prog X.w) (X.tr pn xe) (EkW X W) := fun pins σ H s e s' I c => tk e s' (XE.of_call I (fun _ _ _ h => h σ I.len) c)

/-! ### try: .. except X as n: y = n -/
def mTryK (xs : List Str) (j : Nat) (mb : MS) : MS := fun ρ => match mb ρ with
  | .exc x => if xs.contains x then .ok (.next ((List.replicate ρ.length none).set j (some (.ex x)))) else .bad
  | r => r
theorem sl_none {K : PySem.W.Frag} {F : Addr → Prop} {H : Hp} : ∀ (sl : List (Option V)), Sl K F H sl (List.replicate sl.length none) []
  | [] => .nil
  | _ :: r => .skip (sl_none r)
theorem sl_one {K : PySem.W.Frag} {F : Addr → Prop} {H : Hp} {v : V} {t : T} (h : Rp K F H v t []) : ∀ (sl : List (Option V)) (j : Nat), sl[j]? = some (some v) → Sl K F H sl ((List.replicate sl.length none).set j (some t)) []
  | [], _, e => by simp at e
  | o :: r, 0, e => by
    have e' : o = some v := by simpa using e
    subst e'
    exact .cons (A := []) (B := []) h (sl_none r)
  | o :: r, j + 1, e => .skip (sl_one h r j (by simpa using e))
/-- what a mirror says, as a wish -/
def tMir (K : PySem.W.Frag) (E : Str → Hp → Prop) (m : MS) : TS := fun D σ H => ∃ c ρ, StR K c H σ ρ ∧ Then (m ρ) (OutTo K c [] [] [] σ D) (fun x => ∀ H', KeepC c H' → E x H')
theorem QSs.mir {X : Cx} {E : Str → Hp → Prop} {s : List Stmt} {ts : TS} {m : MS} (h : QSs X E [] s ts m) : PSs X s (tMir X.K E m) := ⟨fun pins s σ H D I ⟨c, ρ, st, q⟩ => h.ps.run pins s σ H D I (h.sim.z c H σ ρ st D q)⟩
section
variable {X : Cx} {x n y : Str} {C : Addr} {i j : Nat} {body : List Stmt} {np pos pos' p1 p2 p3 : Pos} {mb : MS} {xs : List Str} {E : Str → Hp → Prop}
theorem qs0_tryK (hs : X.stack = X.env :: X.outer) (hf : X.env.frame = some X.env.locals) (hex : X.ex = []) (hN : X.N.Nodup) (hi : X.N[i]? = some n) (hj : X.N[j]? = some y) (hij : i ≠ j) (hln : X.env.kindOf n = some .local) (hly : X.env.kindOf y = some .local)
    (hg : Gl X x) (hm : X.mg x = some (.ref C)) (hdb : (x == ("__debug__" : Str)) = false) (hnd : (n == ("__debug__" : Str)) = false) (hnc : (n == ("__classdict__" : Str)) = false)
    (hcl : ∀ z ∈ xs, ∀ D, clK X.K z = some D → PySem.W.exmOne X.K (.ref D) (.ref C) = some true ∧ ExcC X.K D)
    (hb : ∀ (W : WX) (pn : List (Addr × Obj)) (xe : Value → Shared → Prop), Takes (X.tr pn xe) W → ∃ ts, QSs (X.tr pn xe) (EX (clK X.K) (EkW X W)) [] body ts mb)
    (hss : swapsWith (.Name n p2) (some (.Name y p1)) p3.line X.env = pure false := by rfl) :
    QS0 X E [] (.Try body [.ExceptHandler (some (.Name x np)) (some n) [.Assign [.Name y p1] (.Name n p2) p3] pos'] [] [] pos)
      (fun D σ H => σ.length = X.N.length → tMir X.K (EX (clK X.K) (EkW X (wKeep X.K (.ref C) i (tAsg (tVar i) (gName j)) D))) mb D σ H) (mTryK xs j mb) := by
  have hsu : ∀ (a : Addr) (oe : Obj) (pn : List (Addr × Obj)), PSs (X.suite a ((a, oe) :: pn)) [.Assign [.Name y p1] (.Name n p2) p3] (tAsg (tVar i) (gName j)) := fun a oe pn =>
    pss_one (ps_set (X := X.suite a ((a, oe) :: pn)) hN hj (.inl hly) (pe_var hi (.inl hln) hnd hnc) hss (.inr hly))
  refine ⟨⟨fun pins s σ H D I h => (ps_try_keep (tb := fun W => tMir X.K (EX (clK X.K) (EkW X W)) mb) hs hf hex hN hi hln ⟨hg, hdb, .inl hm⟩ (fun W pn xe tk _ => let ⟨_, h⟩ := hb W pn xe tk; h.mir) hsu).run pins s σ H D I (h I.len)⟩, fun c H σ ρ st D q hl0 => ?_⟩
  refine ⟨c, ρ, st, ?_⟩
  unfold mTryK at q
  cases e : mb ρ with
  | ok o => rw [e] at q; exact q
  | bad => rw [e] at q; exact q.elim
  | exc z =>
    rw [e] at q
    dsimp only at q
    by_cases hz : xs.contains z = true
    · rw [if_pos hz] at q
      rw [then_exc]
      intro H' kc D' hD σ' hl
      obtain ⟨h1, h2⟩ := hcl z (by simpa using hz) D' hD
      refine ⟨h1, fun a ha => ?_⟩
      have hlen : ρ.length = X.N.length := by
        obtain ⟨A, w⟩ := st
        rw [← w.slots.len]
        exact hl0
      have hil : i < σ'.length := by
        rw [hl]
        exact (List.getElem?_eq_some_iff.mp hi).1
      have hjl : j < σ'.length := by
        rw [hl]
        exact (List.getElem?_eq_some_iff.mp hj).1
      refine ⟨.ref a, List.getElem?_set_self hil, fun hn => ⟨D', rfl, rfl, ?_⟩⟩
      have q' : OutTo X.K c [] [] [] σ D (.next ((List.replicate ρ.length none).set j (some (.ex z)))) := q
      refine q' _ _ ⟨by simp [hl, hl0], fun _ h => by simp at h⟩ ⟨[], fun _ => by simp, ?_, fun a h => by simp at h, kc.grow (same_upd hn)⟩
      have hx : Rp X.K (Fok c []) (upd H' a (ExK D' a)) (.ref a) (.ex z) [] := .ex upd_same hD h2
      have e1 : (((σ'.set i (some (V.ref a))).set j (some (V.ref a))).set i none).length = ρ.length := by simp [hl, hlen]
      have := sl_one (K := X.K) (F := Fok c []) (H := upd H' a (ExK D' a)) hx (((σ'.set i (some (V.ref a))).set j (some (V.ref a))).set i none) j (by
        rw [List.getElem?_set_ne hij, List.getElem?_set_self (by simpa using hjl)])
      rw [e1] at this
      exact this
    · rw [if_neg hz] at q
      exact q.elim
end
end L3
namespace L3
open PySem PySem.Spec PyProof.Rows L2
/-! ### isinstance of a kept error -/
theorem bt_ValueError : bootBuiltins "ValueError" = some (.type "ValueError") := by decide +kernel
theorem bt_Exception : bootBuiltins "Exception" = some (.type "Exception") := by decide +kernel
theorem hcl_one {K : PySem.W.Frag} {z : Str} {C S : Addr} (h : clK K z = some C) (e : PySem.W.exmOne K (.ref C) (.ref S) = some true) (x : ExcC K C) : ∀ z' ∈ [z], ∀ D, clK K z' = some D → PySem.W.exmOne K (.ref D) (.ref S) = some true ∧ ExcC K D := fun z' hz D hD => by
  obtain rfl := List.mem_singleton.mp hz
  rw [h] at hD
  cases hD
  exact ⟨e, x⟩
abbrev XTab := List (Str × Bool)
def exIs (tab : XTab) (t : T) : Option PyData := match t with
  | .ex x => (tab.lookup x).map PyData.bool
  | _ => none
def pIsX (tab : XTab) (m : MP) : MP := fun ρ => (m ρ).bind fun t => (exIs tab t).map T.d
def mIsXT (tab : XTab) (m : MP) : MEx := fun ρ => (ofO ((m ρ).bind (exIs tab))).bind fun d => .ok (.d d, ρ)
/-- what the class at C answers of those of the table -/
def TabOk (K : PySem.W.Frag) (tab : XTab) (u : Value) : Prop := ∀ z b, tab.lookup z = some b → ∀ D, clK K z = some D → PySem.W.kitOne K (.ref D) u = some b
def TabOkT (K : PySem.W.Frag) (tab : XTab) (us : List Value) : Prop := ∀ z b, tab.lookup z = some b → ∀ D, clK K z = some D → PySem.W.kitAny K (.ref D) us = some b
theorem TabOk.one {K : PySem.W.Frag} {z : Str} {b : Bool} {u : Value} {C : Addr} (h : clK K z = some C) (k : PySem.W.kitOne K (.ref C) u = some b) : TabOk K [(z, b)] u := fun z' b' e D hD => by
  rw [List.lookup_cons] at e
  by_cases hz : z' = z
  · subst hz
    rw [beq_self_eq_true] at e
    cases e
    rw [h] at hD
    cases hD
    exact k
  · rw [beq_eq_false_iff_ne.mpr hz] at e
    cases e
theorem TabOkT.one {K : PySem.W.Frag} {z : Str} {b : Bool} {us : List Value} {C : Addr} (h : clK K z = some C) (k : PySem.W.kitAny K (.ref C) us = some b) : TabOkT K [(z, b)] us := fun z' b' e D hD => by
  rw [List.lookup_cons] at e
  by_cases hz : z' = z
  · subst hz
    rw [beq_self_eq_true] at e
    cases e
    rw [h] at hD
    cases hD
    exact k
  · rw [beq_eq_false_iff_ne.mpr hz] at e
    cases e
def tNames : List Addr → TA
  | [] => tNil
  | C :: r => tCons (tC (.ref C)) (tNames r)
theorem tNames_run : ∀ {Cs : List Addr} {σ : L2.St} {H : Hp} {Q : List V → Hp → Prop}, Q (Cs.map V.ref) H → tNames Cs σ H Q
  | [], _, _, _, q => q
  | C :: r, σ, H, Q, q => by
    show tNames r σ H fun vs H2 => Q (V.ref C :: vs) H2
    exact tNames_run (Cs := r) q
theorem clsV_all : ∀ (Cs : List Addr), Paired ClsV (Cs.map V.ref) (Cs.map Value.ref)
  | [] => .nil
  | C :: r => .cons (.own C) (clsV_all r)
section
variable {X : Cx} {E : Str → Hp → Prop} {e : Expr} {te : TE} {ma : MP} {p p2 pos : Pos} {y : Str} {tab : XTab} {C : Addr} {n : String} {Cs : List Addr}
theorem pa_names_nil : PA X [] (tNames []) := pa_nil
theorem pa_names_cons {es : List Expr} (hm : X.mg y = some (.ref C)) (hr : PA X es (tNames Cs)) (hg : Gl X y := by rfl) (hd : (y == ("__debug__" : Str)) = false := by decide)
    (hs : starEach (.Name y p2 :: es) X.env = (false, eval (.Name y p2) X.env) :: starEach es X.env := by rfl) : PA X (.Name y p2 :: es) (tNames (C :: Cs)) := pa_cons (pe_glob hg hm rfl hd) hr hs
theorem ex_at {K : PySem.W.Frag} {F : Addr → Prop} {H : Hp} {v : V} {t : T} {A : List Addr} {d : PyData} (h : Rp K F H v t A) (e : exIs tab t = some d) : ∃ a D z b, v = .ref a ∧ H a = some (ExK D a) ∧ ExcC K D ∧ clK K z = some D ∧ tab.lookup z = some b ∧ d = .bool b := by
  unfold exIs at e
  split at e
  · obtain ⟨b, e1, e2⟩ := Option.map_eq_some_iff.mp e
    subst e2
    cases h with
    | ex h1 h2 h3 => exact ⟨_, _, _, b, rfl, h1, h3, h2, e1, rfl⟩
  · cases e
theorem sim_isX {u : Value} {c : V} (he : SimP X.K te ma) (ht : TabOk X.K tab u) (hc : ClsV c u) : SimP X.K (tCB (rIsX X.K) (tCons te (tCons (tC c) tNil))) (pIsX tab ma) := by
  intro c0 H tv td σ ρ A t hl w e1 Q q
  unfold pIsX at e1
  obtain ⟨t0, e2, e3⟩ := Option.bind_eq_some_iff.mp e1
  obtain ⟨d, e4, e5⟩ := Option.map_eq_some_iff.mp e3
  subst e5
  refine he c0 H tv td σ ρ A t0 hl w e2 _ fun v A1 r _ => ?_
  obtain ⟨a, D, z, b, rfl, h1, h2, h3, h4, rfl⟩ := ex_at r e4
  exact ⟨a, D, c, u, b, rfl, h1, h2, hc, ht z b h4 D h3, q _ [] (.d (.bl b)) fun _ z => by simp at z⟩
theorem qp_isX (he : QP X e te ma) (hm : X.mg "isinstance" = none) (hy : X.mg y = some (.ref C)) (ht : TabOk X.K tab (.ref C)) (hg : Gl X "isinstance" := by rfl) (hg2 : Gl X y := by rfl) (hd : (y == ("__debug__" : Str)) = false := by decide)
    (hs : starEach [e, .Name y p2] X.env = (false, eval e X.env) :: starEach [.Name y p2] X.env := by rfl) (hpl : (backTo pos (starEach [.Name y p2] X.env)).any (·.1) = false := by rfl)
    (hs2 : starEach [.Name y p2] X.env = (false, eval (.Name y p2) X.env) :: starEach [] X.env := by rfl) : QP X (.Call (.Name "isinstance" p) [e, .Name y p2] [] pos) (tCB (rIsX X.K) (tCons te (tCons (tC (.ref C)) tNil))) (pIsX tab ma) :=
  ⟨pe_callB call_isX hg hm (by decide +kernel) (pa_cons he.pe (pa_cons (pe_glob hg2 hy rfl hd) pa_nil hs2) hs) (by decide) (by decide) hs hpl, sim_isX he.sim ht (.own C)⟩
theorem qp_isXb (he : QP X e te ma) (hm : X.mg "isinstance" = none) (hy : X.mg y = none) (hv : bootBuiltins y = some (.type n)) (ht : TabOk X.K tab (.type n)) (hg : Gl X "isinstance" := by rfl) (hg2 : Gl X y := by rfl) (hn : y ≠ "__name__" := by decide) (hd : (y == ("__debug__" : Str)) = false := by decide)
    (hs : starEach [e, .Name y p2] X.env = (false, eval e X.env) :: starEach [.Name y p2] X.env := by rfl) (hpl : (backTo pos (starEach [.Name y p2] X.env)).any (·.1) = false := by rfl)
    (hs2 : starEach [.Name y p2] X.env = (false, eval (.Name y p2) X.env) :: starEach [] X.env := by rfl) : QP X (.Call (.Name "isinstance" p) [e, .Name y p2] [] pos) (tCB (rIsX X.K) (tCons te (tCons (tC (.ty n)) tNil))) (pIsX tab ma) :=
  ⟨pe_callB call_isX hg hm (by decide +kernel) (pa_cons he.pe (pa_cons (pe_bltn hg2 hy hv rfl hn hd) pa_nil hs2) hs) (by decide) (by decide) hs hpl, sim_isX he.sim ht (.ty n)⟩
theorem qe_isXT {es : List Expr} {k : Nat} (he : QP X e te ma) (hm : X.mg "isinstance" = none) (ht : TabOkT X.K tab (Cs.map Value.ref)) (hn : PA X es (tNames Cs)) (hz : Cs.length ≤ 1000) (hg : Gl X "isinstance" := by rfl)
    (hs : starEach [e, .Tuple es k p2] X.env = (false, eval e X.env) :: starEach [.Tuple es k p2] X.env := by rfl) (hpl : (backTo pos (starEach [.Tuple es k p2] X.env)).any (·.1) = false := by rfl)
    (hs2 : starEach [.Tuple es k p2] X.env = (false, eval (.Tuple es k p2) X.env) :: starEach [] X.env := by rfl) : QE X E true (.Call (.Name "isinstance" p) [e, .Tuple es k p2] [] pos) (tCB (rIsXT X.K) (tCons te (tCons (tTup (tNames Cs)) tNil))) (mIsXT tab ma) := by
  refine ⟨pe_callB call_isXT hg hm (by decide +kernel) (pa_cons he.pe (pa_cons (pe_tup hn) pa_nil hs2) hs) (by decide) (by decide) hs hpl, fun c H tv td σ ρ hl st Q q => ?_⟩
  obtain ⟨A, w⟩ := st
  unfold mIsXT at q
  obtain ⟨d, e1, q1⟩ := then_ofO.mp (then_bind.mp q)
  obtain ⟨t0, e2, e3⟩ := Option.bind_eq_some_iff.mp e1
  refine he.sim c H tv td σ ρ A t0 hl w e2 _ fun v A1 r _ => ?_
  obtain ⟨a, D, z, b, rfl, h1, h2, h3, h4, rfl⟩ := ex_at r e3
  show tNames Cs σ H _
  refine tNames_run ⟨sz1000 (by simpa using hz), fun p hp => ?_⟩
  have sm := same_upd (o := .tup (Cs.map V.ref)) hp
  exact ⟨a, D, p, Cs.map V.ref, Cs.map Value.ref, b, rfl, sm _ _ h1, h2, upd_same, clsV_all Cs, ht z b h4 D h3, q1 _ _ (fun _ => sm) ⟨A, (w.grow sm).pushD (.bl b)⟩⟩
end
end L3
namespace L3
open PySem PySem.Spec PyProof.Rows L2
/-! ### ties -/
theorem kit_self {K : PySem.W.Frag} {C : Addr} : PySem.W.kitOne K (.ref C) (.ref C) = some true := by
  unfold PySem.W.kitOne
  rw [if_pos (beq_self_eq_true _)]
theorem kit_ref {K : PySem.W.Frag} {C D : Addr} {b : Bool} (hd : PySem.W.hasDictIn K C = true) (ht : PySem.W.typeIn K (.ref C) = some (.type "type")) (hs : PySem.W.subIn K (.ref D) (.ref C) = some b) (hn : (Value.ref D == Value.ref C) = false) : PySem.W.kitOne K (.ref D) (.ref C) = some b := by
  obtain ⟨cd, hc, _⟩ := PySem.W.any_some hd
  unfold PySem.W.kitOne
  rw [hn, if_neg Bool.false_ne_true]
  unfold PySem.W.kitCls
  dsimp only
  rw [if_pos (by rw [hc, ht]; rfl)]
  exact hs
theorem kit_blt {K : PySem.W.Frag} {D : Addr} {n : String} {b : Bool} (hm : PySem.W.kitMeta n = true) (hs : PySem.W.subIn K (.ref D) (.type n) = some b) : PySem.W.kitOne K (.ref D) (.type n) = some b := by
  unfold PySem.W.kitOne
  rw [if_neg (by exact fun z => nomatch z)]
  unfold PySem.W.kitCls
  dsimp only
  rw [if_pos hm]
  exact hs
theorem kit_no {K : PySem.W.Frag} {t c : Value} {cs : List Value} {r : Bool} (h : PySem.W.kitOne K t c = some false) (hr : PySem.W.kitAny K t cs = some r) : PySem.W.kitAny K t (c :: cs) = some r := L2.kitAny_cons h (fun _ => hr) fun z => nomatch z
end L3
/-! X1 -/
/-! X1: (a, b, ..).count(x). -/
namespace L2
open PySem PySem.Spec PyProof.Rows
/-- xs.count(x) of a tuple of data -/
def rCountD (K : PySem.W.Frag) : V → List V → Hp → VK → Prop := fun x xs H Q => ∃ (a : Addr) (y : V) (d : PyData) (ds : List PyData), x = V.ref a ∧ xs = [y] ∧ Dp K H (V.ref a) (.tuple ds) ∧ Dp K H y d ∧
  SeqAt.shaped (.tuple ds) = true ∧ SeqAt.shaped d = true ∧ Q (.int (ds.countP fun z => PyData.eqv z d : Nat)) H
section
variable {X : Cx}
theorem mt_countD (hu : X.A.units + 65 < cLine) : MtR X "tuple.count" (rCountD X.K) := by
  intro pins s σ H x xs v us Q I rx rxs h
  obtain ⟨a, y, d, ds, rfl, rfl, hl, hy, sl, sd, q⟩ := h
  cases rx
  cases rxs with
  | cons ry rt =>
    rename_i uy ut
    cases rt
    obtain ⟨bs, r1⟩ := Dp.reads I d y uy hy ry
    have hxs : PyData.canLayAll0 ds = true := SeqAt.canLay_of_shaped sl
    have hroom : X.A.units + 1 + min (PyData.depthAll ds) d.depth < cLine := room_in_shaped sd hu
    cases hl with
    | tup hs ha =>
      obtain ⟨its, rv, ⟨⟨cls, dd, data, sls⟩, ho, hc, n, hdt⟩, hlen⟩ := I.tuple hs
      simp only at hc hdt
      subst hc hdt
      obtain ⟨as, h4⟩ := Dp.readsAll I ds _ its ha rv
      have hmap : its.map (SeqAt.readOf s.heap) = ds := SeqAt.readsAll_map ds its as hxs h4
      refine call_meets PySem.F.slot_tuple_count ⟨_, ho, rfl⟩ PySem.F.entry_tuple_count (PySem.F.args_tuple_count_2 _ _)
        (SeqAt.tuple_countAt a its.toArray n dd sls uy (fun u => PyData.eqv (SeqAt.readOf s.heap u) d)) ⟨ho, SeqAt.items_eqAt (vs := its.toArray) (show ReadsAll s.heap its.toArray.toList ds as from h4) r1 hxs (SeqAt.canLay_of_shaped sd) hroom, ?_⟩
      refine ⟨.int _, H, I.tok _, ⟨_, rfl⟩, ?_⟩
      have e : List.countP (fun u => PyData.eqv (SeqAt.readOf s.heap u) d) its.toArray.toList = ds.countP fun z => PyData.eqv z d := by
        rw [← hmap, List.countP_map]; rfl
      rw [e]
      exact q
end
end L2
namespace L2
open PySem PySem.Spec PyProof.Rows
section
variable {X : Cx} {es : List Expr} {e : Expr} {t t2 : TA} {k : Nat} {p1 apos cpos : Pos} {r : V → List V → Hp → VK → Prop}
/-- (a, b, ..).count(e) -/
def tTupM (r : V → List V → Hp → VK → Prop) (t t2 : TA) : TE := fun σ H Q => t σ H fun xs H1 => xs.length ≤ sizeLine ∧ ∀ p, H1 p = none → t2 σ (upd H1 p (.tup xs)) fun ys H2 => r (.ref p) ys H2 Q
theorem pe_tupCount (hm : MtR X "tuple.count" r) (ha : PA X es t) (hb : PA X [e] t2)
    (hbase : attributeBase (.Tuple es k p1) "count" X.env (eval (.Tuple es k p1) X.env) = eval (.Tuple es k p1) X.env := by rfl)
    (hfew : ((backTo cpos (starEach [e] X.env)).all (fun x => !x.1) && (backToKw cpos (keywordEach [] X.env)).all (fun x => x.1.isSome)
      && decide ([e].length + ([] : List Keyword).length + (if ([] : List Keyword).isEmpty then 0 else 1) < 30)) = true := by rfl)
    (hline : (apos.endLine == cpos.line) = true := by rfl) (hs : starEach [e] X.env = (false, eval e X.env) :: starEach [] X.env := by rfl) :
    PE X (.Call (.Attribute (.Tuple es k p1) "count" apos) [e] [] cpos) (tTupM r t t2) := by
  refine ⟨fun pins s σ H Q I hq => ?_⟩
  refine wpAny_Call_method_late hbase hfew hline rfl ?_
  refine wpAny_Tuple_spliced (thn (ha.run p1 pins s σ H _ I hq) fun us s1 ⟨xs, H1, I1, r1, z, q⟩ => ⟨by rw [← r1.length]; exact z, ?_⟩)
  have hf : H1 s1.heap.objs.size = none := I1.hok.fresh (Nat.le_refl _)
  have I2 : Inv X pins σ (upd H1 s1.heap.objs.size (.tup xs)) { s1 with heap := s1.heap.push { cls := .type "tuple", data := .seq us.toArray } } :=
    I1.laid (t' := s1.toks) (fun b u e => Heap.get?_push_of_some _ e) (Nat.le_refl _) ⟨z, us, r1, ⟨_, Heap.get?_push_size _ rfl, rfl, _, rfl⟩⟩
  have hob : (s1.heap.push { cls := .type "tuple", data := .seq us.toArray }).get? s1.heap.objs.size = some { cls := .type "tuple", data := .seq us.toArray } := Heap.get?_push_size _ rfl
  refine ⟨"tuple", "tuple.count", PySem.F.plainAttrs_tuple, PySem.F.slot_tuple_count, PySem.F.type_tuple_count, ⟨_, hob, rfl⟩, fun a e => ?_, ?_⟩
  · cases e
    exact ⟨_, hob, rfl⟩
  have hA := hb.run cpos pins _ σ _ _ I2 (q _ hf)
  rw [hs] at hA ⊢
  refine Calls.callWith_builtin (by rfl) (Calls.evalArgs_plain ?_)
  exact thn hA fun us' s2 ⟨vs, H2, I2', r2, q2⟩ => hm pins s2 σ H2 (.ref _) vs (.ref _) us' Q I2' rfl r2 q2
end
end L2
/-! L3r -/
/-! L3r: (a, b, ..).count(x). -/
namespace L3
open PySem PySem.Spec PyProof.Rows L2
def cntD (ds : List PyData) (x : PyData) : R PyData := guard (SeqAt.shaped (.tuple ds) && SeqAt.shaped x) (.ok (.int (ds.countP fun z => PyData.eqv z x : Nat)))
def mTupCount (ma : MA) (mp : MP) : MEx := fun ρ => (ma ρ).bind fun r => match T.allD r.1, mp r.2 with
  | some ds, some (.d x) => (cntD ds x).bind fun n => .ok (.d n, r.2)
  | _, _ => .bad
theorem qe_tupCount {X : Cx} {E : Str → Hp → Prop} {es : List Expr} {e : Expr} {t : TA} {te : TE} {ma : MA} {mp : MP} {k : Nat} {p1 apos cpos : Pos} {g : Bool} (hu : X.A.units + 65 < cLine) (h : QA X E g es t ma) (he : QP X e te mp) (hz : es.length ≤ 1000 := by decide)
    (hbase : attributeBase (.Tuple es k p1) "count" X.env (eval (.Tuple es k p1) X.env) = eval (.Tuple es k p1) X.env := by rfl)
    (hfew : ((backTo cpos (starEach [e] X.env)).all (fun x => !x.1) && (backToKw cpos (keywordEach [] X.env)).all (fun x => x.1.isSome)
      && decide ([e].length + ([] : List Keyword).length + (if ([] : List Keyword).isEmpty then 0 else 1) < 30)) = true := by rfl)
    (hline : (apos.endLine == cpos.line) = true := by rfl) (hs : starEach [e] X.env = (false, eval e X.env) :: starEach [] X.env := by rfl) :
    QE X E g (.Call (.Attribute (.Tuple es k p1) "count" apos) [e] [] cpos) (tTupM (rCountD X.K) t (tCons te tNil)) (mTupCount ma mp) := by
  refine ⟨pe_tupCount (mt_countD hu) h.pa (pa_cons he.pe pa_nil hs) hbase hfew hline hs, fun c H tv td σ ρ hl st Q q => ?_⟩
  unfold mTupCount at q
  rw [then_bind] at q
  refine h.sim c H tv td σ ρ hl st _ ?_
  have hlen := h.len ρ
  cases e0 : ma ρ with
  | bad => rw [e0] at q; exact q.elim
  | exc x => rw [e0] at q; exact q
  | ok r =>
    rw [e0, then_ok] at q
    intro vs H1 sm1 hvs st1
    have hn := hlen r e0
    refine ⟨sz1000 (by omega), fun p hp => ?_⟩
    obtain ⟨A, w⟩ := st1
    obtain ⟨A1, B, eA, ra, s⟩ := w.slots.front hvs
    have sm := same_upd (o := .tup vs) hp
    have w2 := w.grow sm
    have eq1 : ∀ a ∈ A, (upd H1 p (.tup vs)) a = H1 a := fun a ha => upd_ne (fun z => w.not_mem_of_none hp (by rw [← z]; exact ha))
    have ra2 := ra.mono (.same sm) fun a ha => eq1 a (by rw [eA]; exact List.mem_append_left _ ha)
    have s2 := s.mono (.same sm) fun a ha => eq1 a (by rw [eA]; exact List.mem_append_right _ ha)
    cases ed : T.allD r.1 with
    | none => rw [ed] at q; exact q.elim
    | some ds =>
      rw [ed] at q
      cases ep : mp r.2 with
      | none => rw [ep] at q; exact q.elim
      | some y =>
        rw [ep] at q
        cases y with
        | d x =>
          dsimp only at q
          unfold cntD at q
          obtain ⟨hg, q1⟩ := then_guard.mp (then_bind.mp q)
          rw [Bool.and_eq_true] at hg
          have w3 : StW X.K c (upd H1 p (.tup vs)) ((vs.map some ++ tv) ++ σ) ((r.1.map some ++ td) ++ r.2) A := by simpa using w2
          show te σ (upd H1 p (.tup vs)) _
          refine he.sim c (upd H1 p (.tup vs)) (vs.map some ++ tv) (r.1.map some ++ td) σ r.2 A _ (by simp [hvs, hl]) w3 ep _ fun v A2 rv _ => ?_
          cases rv with
          | d fv =>
            refine ⟨p, v, x, ds, rfl, rfl, .tup (.of upd_same) (ra2.data ed).1.dp, fv.dp, hg.1, hg.2, ?_⟩
            refine q1 _ _ (fun e => (sm1 e).trans sm) ⟨B, w2.remake (fun a => ?_) (.cons (A := []) (.d (.int _)) s2)⟩
            rw [eA, List.count_append]
            omega
        | _ => exact q.elim
end L3
namespace L3
open PySem PySem.Spec PyProof.Rows L2
/-- x == [], where x stays what it is -/
def mEqNil (f : T → T → R RV) (mp : MP) : MEx := fun ρ => match mp ρ with
  | some x => (match f x (.d (.list [])) with
    | .ok (.v (.d (.bool b))) => .ok (.d (.bool b), ρ)
    | _ => .bad)
  | none => .bad
theorem qe_eqNil {X : Cx} {E : Str → Hp → Prop} {op : CmpOp} {r : R2} {f : T → T → R RV} {a : Expr} {te : TE} {mp : MP} {p1 pos : Pos} (ho : OpR X (compareOp op) r) (hv : OpV X.K r f) (he : QP X a te mp) (hm : behindInMarks op (.List [] p1) = false) :
    QE X E true (.Compare a [op] [.List [] p1] pos) (tOp r te (tLst tNil)) (mEqNil f mp) := by
  refine ⟨pe_cmpR ho he.pe (pe_lst pa_nil) hm, fun c H tv td σ ρ hl st Q q => ?_⟩
  obtain ⟨A, w⟩ := st
  unfold mEqNil at q
  cases e1 : mp ρ with
  | none => rw [e1] at q; exact q.elim
  | some x =>
    rw [e1] at q
    dsimp only at q
    refine he.sim c H tv td σ ρ A x hl w e1 _ fun v A1 rv hA => ?_
    refine ⟨by simp, fun p hp => ?_⟩
    have sm := same_upd (o := .lst []) hp
    have hpA : p ∉ A := w.not_mem_of_none hp
    have fp : Fok c A p := ⟨.inr (.inl (w.keep.there p hp)), hpA⟩
    have r1 : Rp X.K (Fok c A) (upd H p (.lst [])) v x A1 := rv.mono (.same sm) fun b hb => upd_ne (fun z => hpA (by rw [← z]; exact hA b hb))
    have r2 : Rp X.K (Fok c A) (upd H p (.lst [])) (.ref p) (.d (.list [])) [] := .d (.lst upd_same fp .nil)
    split at q
    · rename_i b eb
      refine hv _ _ _ _ _ _ _ _ r1 r2 _ ?_
      rw [eb, then_ok]
      intro v' C rv' _
      cases rv' with
      | d fv =>
        cases fv
        exact q _ _ (fun _ => sm) ⟨A, (w.grow sm).pushD (.bl b)⟩
    · exact q.elim
end L3
namespace L3
open PySem PySem.Spec PyProof.Rows L2
theorem qt_eqNil {X : Cx} {E : Str → Hp → Prop} {op : CmpOp} {r : R2} {f : T → T → R RV} {a : Expr} {te : TE} {mp : MP} {p1 pos : Pos} (ho : OpR X (compareOp op) r) (hv : OpV X.K r f) (he : QP X a te mp) (hm : behindInMarks op (.List [] p1) = false) :
    QT X E (.Compare a [op] [.List [] p1] pos) (tTest (tOp r te (tLst tNil))) (mTest (mEqNil f mp)) :=
  ⟨pt_cmpR ho he.pe (pe_lst pa_nil) hm, sim_test (qe_eqNil (pos := pos) ho hv he hm).sim⟩
end L3
namespace L3
open PySem PySem.Spec PyProof.Rows L2
/-! ### a, b, c = a list -/
def mgLst (n : Nat) (r : MGs) : MG := fun t ρ => match t with
  | .d (.list ds) => if ds.length = n then r (ds.map T.d) ρ else none
  | _ => none
theorem qg_lst {X : Cx} {pr : Nat → Bool} {pos : Pos} {es : List Expr} {k : Nat} {tgs : TGs} {r : MGs} (hc : X.calm = true) (h : QGs X pr es tgs r) {n : Nat} (hn : (assignEach es X.env).length = n := by rfl) (hst : (assignEach es X.env).findIdx? (·.1) = none := by rfl) : QG X pr (.Tuple es k pos) (gLst X.K n tgs) (mgLst n r) := by
  refine ⟨pg_lst hc h.pg hn hst, fun c H tv td σ ρ ρ' v t hl st e Q q => ?_⟩
  unfold mgLst at e
  split at e
  · rename_i ds
    split at e
    · rename_i hlen
      obtain ⟨A, w⟩ := st
      obtain ⟨A1, B, eA, x, s⟩ := w.top
      obtain ⟨a, vs, rfl, hq, f⟩ := x.lst? (ds := ds) rfl
      have hvt := f.len
      refine ⟨a, vs, rfl, .of hq, by omega, ?_⟩
      exact h.sim c H tv td σ ρ ρ' vs (ds.map T.d) hl (by simpa using hvt) ⟨[] ++ B, w.remake (fun b => by rw [eA, List.nil_append, List.count_append]; omega) (Sl.many (RpAll.ofFz f) s)⟩ e Q q
    · cases e
  · cases e
end L3
/-! L3m -/
/-! L3m: reckoning with mirrors: rows for simp, loops, equality of data, fractions. -/
namespace L3
open PySem PySem.Spec PyProof.Rows L2

/-! ### results -/
@[simp] theorem bind_okS {α β : Type} {a : α} {f : α → R β} : (R.ok a).bind f = f a := (rfl)
@[simp] theorem bind_badS {α β : Type} {f : α → R β} : (R.bad : R α).bind f = .bad := (rfl)
@[simp] theorem bind_excS {α β : Type} {f : α → R β} {c : Str} : (R.exc c : R α).bind f = .exc c := (rfl)
@[simp] theorem then_okS {α : Type} {a : α} {P : α → Prop} {E : Str → Prop} : Then (.ok a) P E ↔ P a := (Iff.rfl)
@[simp] theorem then_badS {α : Type} {P : α → Prop} {E : Str → Prop} : Then (.bad : R α) P E ↔ False := (Iff.rfl)
@[simp] theorem then_excS {α : Type} {c : Str} {P : α → Prop} {E : Str → Prop} : Then (.exc c : R α) P E ↔ E c := (Iff.rfl)
@[simp] theorem ofO_some {α : Type} {a : α} : ofO (some a) = .ok a := (rfl)
@[simp] theorem ofO_none {α : Type} : ofO (none : Option α) = .bad := (rfl)
@[simp] theorem guard_t {α : Type} {r : R α} : guard true r = r := (rfl)
@[simp] theorem guard_f {α : Type} {r : R α} : guard false r = .bad := (rfl)
@[simp] theorem nx_ok {α : Type} {a : α} : (R.ok a).nx = .ok a := (rfl)
@[simp] theorem nx_bad {α : Type} : (R.bad : R α).nx = .bad := (rfl)
theorem then_nx {α : Type} {r : R α} {P : α → Prop} {E : Str → Prop} (h : Then r P (fun _ => False)) : Then r.nx P E := by
  cases r with
  | ok a => exact h
  | exc c => exact h.elim
  | bad => exact h
theorem then_bindI {α β : Type} {r : R α} {f : α → R β} {P : α → Prop} {P' : β → Prop} {E : Str → Prop} (h : Then r P E) (k : ∀ a, P a → Then (f a) P' E) : Then (r.bind f) P' E := then_bind.mpr (h.imp k)
theorem then_guardI {α : Type} {b : Bool} {r : R α} {P : α → Prop} {E : Str → Prop} (h : b = true) (k : Then r P E) : Then (guard b r) P E := then_guard.mpr ⟨h, k⟩
/-- an equation is a promise -/
theorem then_eq {α : Type} {r : R α} {a : α} {P : α → Prop} {E : Str → Prop} (h : r = .ok a) (k : P a) : Then r P E := by rw [h]; exact k
theorem eq_then {α : Type} {r : R α} {a : α} (h : Then r (fun x => x = a) (fun _ => False)) : r = .ok a := by
  cases r with
  | ok b => exact congrArg R.ok h
  | exc c => exact h.elim
  | bad => exact h.elim

/-! ### rows for simp: what is behind is not looked at before what is ahead is known -/
abbrev En := L3.Env
@[simp] theorem bind_assocS {α β γ : Type} {r : R α} {f : α → R β} {g : β → R γ} : (r.bind f).bind g = r.bind fun a => (f a).bind g := by cases r <;> rfl
@[simp] theorem nx_bind {α β : Type} {r : R α} {f : α → R β} : (r.bind f).nx = r.nx.bind fun a => (f a).nx := by cases r <;> rfl
@[simp] theorem e_mC {x : PyData} {ρ : En} : mC x ρ = .ok (.d x, ρ) := (rfl)
@[simp] theorem e_pC {x : PyData} {ρ : En} : pC x ρ = some (.d x) := (rfl)
def liftK (ρ : En) : Option T → R (T × En)
  | some (.d x) => .ok (.d x, ρ)
  | _ => .bad
@[simp] theorem e_lift {m : MP} {ρ : En} : mLift m ρ = liftK ρ (m ρ) := (rfl)
@[simp] theorem e_liftK {ρ : En} {x : PyData} : liftK ρ (some (.d x)) = .ok (.d x, ρ) := (rfl)
def pvK : Option (Option T) → Option T
  | some (some t) => some t
  | _ => none
@[simp] theorem e_pVar {i : Nat} {ρ : En} : pVar i ρ = pvK ρ[i]? := (rfl)
@[simp] theorem e_pvK {t : T} : pvK (some (some t)) = some t := (rfl)
def varK2 (i : Nat) (ρ : En) : Option PyData → R (T × En)
  | some x => .ok (.d x, ρ.set i (some (.d x)))
  | none => .bad
def varK (i : Nat) (ρ : En) : Option (Option T) → R (T × En)
  | some (some (.d x)) => .ok (.d x, ρ)
  | some (some t) => varK2 i ρ t.fz
  | _ => .bad
@[simp] theorem e_mVar {i : Nat} {ρ : En} : mVar i ρ = varK i ρ ρ[i]? := by
  unfold mVar
  generalize ρ[i]? = o
  cases o with
  | none => rfl
  | some o =>
    cases o with
    | none => rfl
    | some t => cases t <;> rfl
@[simp] theorem e_varK {i : Nat} {ρ : En} {x : PyData} : varK i ρ (some (some (.d x))) = .ok (.d x, ρ) := (rfl)
@[simp] theorem e_varKo {i : Nat} {ρ : En} {ts : List T} : varK i ρ (some (some (.ol ts))) = varK2 i ρ (T.fz (.ol ts)) := (rfl)
@[simp] theorem e_varKt {i : Nat} {ρ : En} {ts : List T} : varK i ρ (some (some (.ot ts))) = varK2 i ρ (T.fz (.ot ts)) := (rfl)
@[simp] theorem e_varK2 {i : Nat} {ρ : En} {x : PyData} : varK2 i ρ (some x) = .ok (.d x, ρ.set i (some (.d x))) := (rfl)
def moveK (i : Nat) (ρ : En) : Option (Option T) → R (T × En)
  | some (some t) => .ok (t, ρ.set i none)
  | _ => .bad
@[simp] theorem e_mMove {i : Nat} {ρ : En} : mMove i ρ = moveK i ρ ρ[i]? := (rfl)
@[simp] theorem e_moveK {i : Nat} {ρ : En} {t : T} : moveK i ρ (some (some t)) = .ok (t, ρ.set i none) := (rfl)
def rdK (ρ : En) : Option (Option T) → R (T × En)
  | some (some (.rd ds)) => .ok (.rd ds, ρ)
  | _ => .bad
@[simp] theorem e_mRd {i : Nat} {ρ : En} : mRd i ρ = rdK ρ ρ[i]? := (rfl)
@[simp] theorem e_rdK {ρ : En} {ds : List PyData} : rdK ρ (some (some (.rd ds))) = .ok (.rd ds, ρ) := (rfl)
@[simp] theorem e_pBin {op : T → T → R RV} {a b : MP} {ρ : En} : pBin op a b ρ = (a ρ).bind fun x => (b ρ).bind fun y => okV (op x y) := (rfl)
@[simp] theorem e_pUn {op : T → R RV} {a : MP} {ρ : En} : pUn op a ρ = (a ρ).bind fun x => okV (op x) := (rfl)
@[simp] theorem e_pNil {ρ : En} : pNil ρ = some [] := (rfl)
@[simp] theorem e_pCons {a : MP} {r : MPA} {ρ : En} : pCons a r ρ = (a ρ).bind fun x => (r ρ).bind fun y => some (x :: y) := (rfl)
@[simp] theorem e_pCallB {op : List T → R RV} {m : MPA} {ρ : En} : pCallB op m ρ = (m ρ).bind fun ts => okV (op ts) := (rfl)
@[simp] theorem e_pIsa {n : String} {m : MP} {ρ : En} : pIsa n m ρ = ((m ρ).bind (isaT n)).map fun b => .d (.bool b) := (rfl)
@[simp] theorem e_okV {t : T} : okV (.ok (.v t)) = some t := (rfl)
@[simp] theorem e_okVb : okV .bad = none := (rfl)
def toTK (ρ : En) (z : RV) : R (T × En) := .ok (z.toT, ρ)
@[simp] theorem e_toTK {ρ : En} {z : RV} : toTK ρ z = .ok (z.toT, ρ) := (rfl)
def binK2 (op : T → T → R RV) (x : T) (y : T × En) : R (T × En) := (op x y.1).bind (toTK y.2)
def binK (op : T → T → R RV) (b : MEx) (x : T × En) : R (T × En) := (b x.2).bind (binK2 op x.1)
@[simp] theorem e_mBin {op : T → T → R RV} {a b : MEx} {ρ : En} : mBin op a b ρ = (a ρ).bind (binK op b) := (rfl)
@[simp] theorem e_binK {op : T → T → R RV} {b : MEx} {x : T} {ρ : En} : binK op b (x, ρ) = (b ρ).bind (binK2 op x) := (rfl)
@[simp] theorem e_binK2 {op : T → T → R RV} {x y : T} {ρ : En} : binK2 op x (y, ρ) = (op x y).bind (toTK ρ) := (rfl)
def unK (op : T → R RV) (x : T × En) : R (T × En) := (op x.1).bind (toTK x.2)
@[simp] theorem e_mUn {op : T → R RV} {a : MEx} {ρ : En} : mUn op a ρ = (a ρ).bind (unK op) := (rfl)
@[simp] theorem e_unK {op : T → R RV} {x : T} {ρ : En} : unK op (x, ρ) = (op x).bind (toTK ρ) := (rfl)
@[simp] theorem e_toV {t : T} : (RV.v t).toT = t := (rfl)
@[simp] theorem e_toNl {ds : List PyData} : (RV.nl ds).toT = .ol (ds.map T.d) := (rfl)
@[simp] theorem e_toNt {ds : List PyData} : (RV.nt ds).toT = .d (.tuple ds) := (rfl)
@[simp] theorem e_mNil {ρ : En} : mNil ρ = .ok ([], ρ) := (rfl)
def consK2 (x : T) (y : List T × En) : R (List T × En) := .ok (x :: y.1, y.2)
def consK (r : MA) (x : T × En) : R (List T × En) := (r x.2).bind (consK2 x.1)
@[simp] theorem e_mCons {m : MEx} {r : MA} {ρ : En} : mCons m r ρ = (m ρ).bind (consK r) := (rfl)
@[simp] theorem e_consK {r : MA} {x : T} {ρ : En} : consK r (x, ρ) = (r ρ).bind (consK2 x) := (rfl)
@[simp] theorem e_consK2 {x : T} {ts : List T} {ρ : En} : consK2 x (ts, ρ) = .ok (x :: ts, ρ) := (rfl)
def mkTupK (ts : List T) : Option (List PyData) → T
  | some ds => .d (.tuple ds)
  | none => .ot ts
@[simp] theorem e_mkTup {ts : List T} : mkTup ts = mkTupK ts (T.allD ts) := (rfl)
@[simp] theorem e_mkTupK {ts : List T} {ds : List PyData} : mkTupK ts (some ds) = .d (.tuple ds) := (rfl)
@[simp] theorem e_mkTupN {ts : List T} : mkTupK ts none = .ot ts := (rfl)
def tupK (r : List T × En) : R (T × En) := .ok (mkTup r.1, r.2)
@[simp] theorem e_mTup {m : MA} {ρ : En} : mTup m ρ = (m ρ).bind tupK := (rfl)
@[simp] theorem e_tupK {ts : List T} {ρ : En} : tupK (ts, ρ) = .ok (mkTup ts, ρ) := (rfl)
def lstK (r : List T × En) : R (T × En) := .ok (.ol r.1, r.2)
@[simp] theorem e_mLst {m : MA} {ρ : En} : mLst m ρ = (m ρ).bind lstK := (rfl)
@[simp] theorem e_lstK {ts : List T} {ρ : En} : lstK (ts, ρ) = .ok (.ol ts, ρ) := (rfl)
def fzK2 (ρ : En) : Option PyData → R (T × En)
  | some x => .ok (.d x, ρ)
  | none => .bad
def fzK (r : T × En) : R (T × En) := fzK2 r.2 r.1.fz
@[simp] theorem e_mFz {m : MEx} {ρ : En} : mFz m ρ = (m ρ).bind fzK := (rfl)
@[simp] theorem e_fzK {t : T} {ρ : En} : fzK (t, ρ) = fzK2 ρ t.fz := (rfl)
@[simp] theorem e_fzK2 {x : PyData} {ρ : En} : fzK2 ρ (some x) = .ok (.d x, ρ) := (rfl)
def callBK (op : List T → R RV) (r : List T × En) : R (T × En) := (op r.1).bind (toTK r.2)
@[simp] theorem e_mCallB {op : List T → R RV} {m : MA} {ρ : En} : mCallB op m ρ = (m ρ).bind (callBK op) := (rfl)
@[simp] theorem e_callBK {op : List T → R RV} {ts : List T} {ρ : En} : callBK op (ts, ρ) = (op ts).bind (toTK ρ) := (rfl)
def testK (r : T × En) : R (Bool × En) := match r.1 with | .d (.bool b) => .ok (b, r.2) | _ => .bad
@[simp] theorem e_mTest {m : MEx} {ρ : En} : mTest m ρ = (m ρ).bind testK := (rfl)
@[simp] theorem e_testK {b : Bool} {ρ : En} : testK (.d (.bool b), ρ) = .ok (b, ρ) := (rfl)
def truthK (ρ : En) : Option Bool → R (Bool × En)
  | some b => .ok (b, ρ)
  | none => .bad
@[simp] theorem e_mTruth {m : MP} {ρ : En} : mTruth m ρ = truthK ρ ((m ρ).bind T.truth) := (rfl)
@[simp] theorem e_truthK {b : Bool} {ρ : En} : truthK ρ (some b) = .ok (b, ρ) := (rfl)
@[simp] theorem e_truthB {b : Bool} : T.truth (.d (.bool b)) = some b := (rfl)
@[simp] theorem e_truthI {b : Int} : T.truth (.d (.int b)) = some (b != 0) := (rfl)
@[simp] theorem e_truthN : T.truth (.d .none) = some false := (rfl)
@[simp] theorem e_truthL {ds : List PyData} : T.truth (.d (.list ds)) = some (!ds.isEmpty) := (rfl)
@[simp] theorem e_truthT {ds : List PyData} : T.truth (.d (.tuple ds)) = some (!ds.isEmpty) := (rfl)
def notK (r : Bool × En) : R (Bool × En) := .ok (!r.1, r.2)
@[simp] theorem e_mNot {m : MT} {ρ : En} : mNot m ρ = (m ρ).bind notK := (rfl)
@[simp] theorem e_notK {b : Bool} {ρ : En} : notK (b, ρ) = .ok (!b, ρ) := (rfl)
def andK (n : MT) (r : Bool × En) : R (Bool × En) := if r.1 = true then n r.2 else .ok (false, r.2)
@[simp] theorem e_mAnd {m n : MT} {ρ : En} : mAnd m n ρ = (m ρ).bind (andK n) := (rfl)
@[simp] theorem e_andK {n : MT} {b : Bool} {ρ : En} : andK n (b, ρ) = if b = true then n ρ else .ok (false, ρ) := (rfl)
def orK (n : MT) (r : Bool × En) : R (Bool × En) := if r.1 = true then .ok (true, r.2) else n r.2
@[simp] theorem e_mOr {m n : MT} {ρ : En} : mOr m n ρ = (m ρ).bind (orK n) := (rfl)
@[simp] theorem e_orK {n : MT} {b : Bool} {ρ : En} : orK n (b, ρ) = if b = true then .ok (true, ρ) else n ρ := (rfl)
def ifeK (a b : MEx) (r : Bool × En) : R (T × En) := if r.1 = true then a r.2 else b r.2
@[simp] theorem e_mIf {m : MT} {a b : MEx} {ρ : En} : mIf m a b ρ = (m ρ).bind (ifeK a b) := (rfl)
@[simp] theorem e_ifeK {a b : MEx} {x : Bool} {ρ : En} : ifeK a b (x, ρ) = if x = true then a ρ else b ρ := (rfl)
def andVK (n : MEx) (r : Bool × En) : R (T × En) := if r.1 = true then n r.2 else .ok (.d (.bool false), r.2)
@[simp] theorem e_mAndV {m n : MEx} {ρ : En} : mAndV m n ρ = (mTest m ρ).bind (andVK n) := (rfl)
@[simp] theorem e_andVK {n : MEx} {x : Bool} {ρ : En} : andVK n (x, ρ) = if x = true then n ρ else .ok (.d (.bool false), ρ) := (rfl)
def orVK (n : MEx) (r : Bool × En) : R (T × En) := if r.1 = true then .ok (.d (.bool true), r.2) else n r.2
@[simp] theorem e_mOrV {m n : MEx} {ρ : En} : mOrV m n ρ = (mTest m ρ).bind (orVK n) := (rfl)
@[simp] theorem e_orVK {n : MEx} {x : Bool} {ρ : En} : orVK n (x, ρ) = if x = true then .ok (.d (.bool true), ρ) else n ρ := (rfl)
def notVK (r : Bool × En) : R (T × En) := .ok (.d (.bool (!r.1)), r.2)
@[simp] theorem e_mNotV {m : MEx} {ρ : En} : mNotV m ρ = (mTest m ρ).bind notVK := (rfl)
@[simp] theorem e_notVK {x : Bool} {ρ : En} : notVK (x, ρ) = .ok (.d (.bool (!x)), ρ) := (rfl)
@[simp] theorem e_mNext {ρ : En} : mNext ρ = .ok (.next ρ) := (rfl)
@[simp] theorem e_mBrk {ρ : En} : mBrk ρ = .ok (.brk ρ) := (rfl)
@[simp] theorem e_mCont {ρ : En} : mCont ρ = .ok (.cont ρ) := (rfl)
@[simp] theorem e_mNever {ρ : En} : mNever ρ = .bad := (rfl)
def seqK (n : MS) : Out → R Out
  | .next ρ => n ρ
  | .ret t ρ => .ok (.ret t ρ)
  | .brk ρ => .ok (.brk ρ)
  | .cont ρ => .ok (.cont ρ)
@[simp] theorem e_mSeq {m n : MS} {ρ : En} : mSeq m n ρ = (m ρ).bind (seqK n) := by
  unfold mSeq
  congr 1
  funext o
  cases o <;> rfl
@[simp] theorem e_seqN {n : MS} {ρ : En} : seqK n (.next ρ) = n ρ := (rfl)
@[simp] theorem e_seqR {n : MS} {t : T} {ρ : En} : seqK n (.ret t ρ) = .ok (.ret t ρ) := (rfl)
@[simp] theorem e_seqB {n : MS} {ρ : En} : seqK n (.brk ρ) = .ok (.brk ρ) := (rfl)
@[simp] theorem e_seqC {n : MS} {ρ : En} : seqK n (.cont ρ) = .ok (.cont ρ) := (rfl)
def retK (r : T × En) : R Out := .ok (.ret r.1 r.2)
@[simp] theorem e_mRet {m : MEx} {ρ : En} : mRet m ρ = (m ρ).bind retK := (rfl)
@[simp] theorem e_retK {t : T} {ρ : En} : retK (t, ρ) = .ok (.ret t ρ) := (rfl)
def dropMK (r : T × En) : R Out := .ok (.next r.2)
@[simp] theorem e_mDrop {m : MEx} {ρ : En} : mDrop m ρ = (m ρ).bind dropMK := (rfl)
@[simp] theorem e_dropK {t : T} {ρ : En} : dropMK (t, ρ) = .ok (.next ρ) := (rfl)
def ifK (a b : MS) (r : Bool × En) : R Out := if r.1 = true then a r.2 else b r.2
@[simp] theorem e_mIfS {m : MT} {a b : MS} {ρ : En} : mIfS m a b ρ = (m ρ).bind (ifK a b) := (rfl)
@[simp] theorem e_ifK {a b : MS} {x : Bool} {ρ : En} : ifK a b (x, ρ) = if x = true then a ρ else b ρ := (rfl)
def nextK (ρ : En) : R Out := .ok (.next ρ)
@[simp] theorem e_nextK {ρ : En} : nextK ρ = .ok (.next ρ) := (rfl)
def asgK (g : MG) (r : T × En) : R Out := (ofO (g r.1 r.2)).bind nextK
@[simp] theorem e_mAsg {m : MEx} {g : MG} {ρ : En} : mAsg m g ρ = (m ρ).bind (asgK g) := (rfl)
@[simp] theorem e_asgK {g : MG} {t : T} {ρ : En} : asgK g (t, ρ) = (ofO (g t ρ)).bind nextK := (rfl)
@[simp] theorem e_mgName {i : Nat} {t : T} {ρ : En} : mgName i t ρ = some (ρ.set i (some t)) := (rfl)
@[simp] theorem e_mgNil {ρ : En} : mgNil [] ρ = some ρ := (rfl)
@[simp] theorem e_mgCons {g : MG} {r : MGs} {t : T} {ts : List T} {ρ : En} : mgCons g r (t :: ts) ρ = (g t ρ).bind fun ρ1 => r ts ρ1 := (rfl)
def gTupK (n : Nat) (r : MGs) (ρ : En) : Option (List T) → Option En
  | some ts => if ts.length = n then r ts ρ else none
  | none => none
@[simp] theorem e_mgTup {n : Nat} {r : MGs} {t : T} {ρ : En} : mgTup n r t ρ = gTupK n r ρ t.parts := (rfl)
@[simp] theorem e_gTupK {n : Nat} {r : MGs} {ts : List T} {ρ : En} : gTupK n r ρ (some ts) = if ts.length = n then r ts ρ else none := (rfl)
def plK : Option T → Option (List T)
  | some (.ol ts) => some ts
  | _ => none
@[simp] theorem e_plK {ts : List T} : plK (some (.ol ts)) = some ts := (rfl)
@[simp] theorem e_lstAt {p : List Int} {t : T} : lstAt p (some (some t)) = plK (T.at? p t) := (rfl)
def putPK (i : Nat) (p : List Int) (ts : List T) (ρ : En) : Option (Option T) → Option En
  | some (some t) => (T.put? p (.ol ts) t).map fun t' => ρ.set i (some t')
  | _ => none
@[simp] theorem e_putAt {i : Nat} {p : List Int} {ts : List T} {ρ : En} : putAt i p ts ρ = putPK i p ts ρ ρ[i]? := (rfl)
@[simp] theorem e_putK {i : Nat} {p : List Int} {ts : List T} {ρ : En} {t : T} : putPK i p ts ρ (some (some t)) = (T.put? p (.ol ts) t).map fun t' => ρ.set i (some t') := (rfl)
@[simp] theorem e_mgItem {i : Nat} {mp : ML} {mi : MP} {t : T} {ρ : En} : mgItem i mp mi t ρ = (mp ρ).bind fun p => ((mi ρ).bind T.int?).bind fun j => (lstAt p ρ[i]?).bind fun ts => (ixN ts.length j).bind fun k => putAt i p (ts.set k t) ρ := (rfl)
def parK (i j : Nat) (r : List T × En) : R Out := match r.1 with | [t, u] => .ok (.next ((r.2.set i (some t)).set j (some u))) | _ => .bad
@[simp] theorem e_mPar {i j : Nat} {m : MA} {ρ : En} : mPar i j m ρ = (m ρ).bind (parK i j) := (rfl)
@[simp] theorem e_parK {i j : Nat} {t u : T} {ρ : En} : parK i j ([t, u], ρ) = .ok (.next ((ρ.set i (some t)).set j (some u))) := (rfl)
def augK (i : Nat) (f : Int → Int → Int) (ρ : En) : Option (Option T) → Option T → R Out
  | some (some (.d (.int x))), some (.d (.int y)) => .ok (.next (ρ.set i (some (.d (.int (f x y))))))
  | _, _ => .bad
@[simp] theorem e_mAug {i : Nat} {f : Int → Int → Int} {m : MP} {ρ : En} : mAug i f m ρ = augK i f ρ ρ[i]? (m ρ) := (rfl)
@[simp] theorem e_augK {i : Nat} {f : Int → Int → Int} {x y : Int} {ρ : En} : augK i f ρ (some (some (.d (.int x)))) (some (.d (.int y))) = .ok (.next (ρ.set i (some (.d (.int (f x y)))))) := (rfl)
def forK (g : MG) (b : MS) (r : List T × En) : R Out := mLoop g b r.1 r.2
@[simp] theorem e_mFor {mi : MI} {g : MG} {b : MS} {ρ : En} : mFor mi g b ρ = (mi ρ).bind (forK g b) := (rfl)
@[simp] theorem e_forK {g : MG} {b : MS} {ts : List T} {ρ : En} : forK g b (ts, ρ) = mLoop g b ts ρ := (rfl)
def itK2 (ρ : En) (ts : List T) : R (List T × En) := .ok (ts, ρ)
@[simp] theorem e_itK2 {ρ : En} {ts : List T} : itK2 ρ ts = .ok (ts, ρ) := (rfl)
def itK (r : T × En) : R (List T × En) := (ofO (items? r.1)).bind (itK2 r.2)
def itTK (r : T × En) : R (List T × En) := (ofO (itemsT? r.1)).bind (itK2 r.2)
@[simp] theorem e_miL {m : MEx} {ρ : En} : miL m ρ = (m ρ).bind itK := (rfl)
@[simp] theorem e_miT {m : MEx} {ρ : En} : miT m ρ = (m ρ).bind itTK := (rfl)
@[simp] theorem e_itK {ds : List PyData} {ρ : En} : itK (.d (.list ds), ρ) = .ok (ds.map T.d, ρ) := (rfl)
@[simp] theorem e_itTK {ds : List PyData} {ρ : En} : itTK (.d (.tuple ds), ρ) = .ok (ds.map T.d, ρ) := (rfl)
def rg1 : List T × En → R (List T × En) := fun r => match r.1 with | [.d (.int j)] => guard (small62 j) (.ok (rangeItems 0 j, r.2)) | _ => .bad
def rg2 : List T × En → R (List T × En) := fun r => match r.1 with | [.d (.int i), .d (.int j)] => guard (small62 i && small62 j) (.ok (rangeItems i j, r.2)) | _ => .bad
@[simp] theorem e_miR1 {m : MA} {ρ : En} : miR1 m ρ = (m ρ).bind rg1 := (rfl)
@[simp] theorem e_miR2 {m : MA} {ρ : En} : miR2 m ρ = (m ρ).bind rg2 := (rfl)
@[simp] theorem e_rg1 {j : Int} {ρ : En} : rg1 ([.d (.int j)], ρ) = guard (small62 j) (.ok (rangeItems 0 j, ρ)) := (rfl)
@[simp] theorem e_rg2 {i j : Int} {ρ : En} : rg2 ([.d (.int i), .d (.int j)], ρ) = guard (small62 i && small62 j) (.ok (rangeItems i j, ρ)) := (rfl)
def zipK (r : List T × En) : R (List T × En) := match r.1 with | [.d (.list ds), .d (.list es)] => .ok (zipItems ds es, r.2) | _ => .bad
@[simp] theorem e_miZ {m : MA} {ρ : En} : miZ m ρ = (m ρ).bind zipK := (rfl)
@[simp] theorem e_zipK {ds es : List PyData} {ρ : En} : zipK ([.d (.list ds), .d (.list es)], ρ) = .ok (zipItems ds es, ρ) := (rfl)
def enumK (r : List T × En) : R (List T × En) := match r.1 with | [.d (.list ds)] => .ok (enumItems ds, r.2) | _ => .bad
@[simp] theorem e_miN {m : MA} {ρ : En} : miN m ρ = (m ρ).bind enumK := (rfl)
@[simp] theorem e_enumK {ds : List PyData} {ρ : En} : enumK ([.d (.list ds)], ρ) = .ok (enumItems ds, ρ) := (rfl)
def lcK2 (vs : List Nat) (z : List T × En) : R (T × En) := .ok (.ol z.1, wipeE z.2 vs)
def lcK (g : MG) (mt : MT) (me : MEx) (vs : List Nat) (r : List T × En) : R (T × En) := (mLcLoop g mt me vs r.1 [] r.2).bind (lcK2 vs)
@[simp] theorem e_mLc {mi : MI} {g : MG} {mt : MT} {me : MEx} {vs : List Nat} {ρ : En} : mLc mi g mt me vs ρ = (mi ρ).bind (lcK g mt me vs) := (rfl)
@[simp] theorem e_lcK {g : MG} {mt : MT} {me : MEx} {vs : List Nat} {ts : List T} {ρ : En} : lcK g mt me vs (ts, ρ) = (mLcLoop g mt me vs ts [] ρ).bind (lcK2 vs) := (rfl)
@[simp] theorem e_lcK2 {vs : List Nat} {ts : List T} {ρ : En} : lcK2 vs (ts, ρ) = .ok (.ol ts, wipeE ρ vs) := (rfl)
@[simp] theorem e_mtYes {ρ : En} : mtYes ρ = .ok (true, ρ) := (rfl)
@[simp] theorem e_mbNil {ρ : En} : mbNil ρ = .ok ([], ρ) := (rfl)
def mbK2 (x : T) (y : List (Option T) × En) : R (List (Option T) × En) := .ok (some x :: y.1, y.2)
def mbK (r : MB) (x : T × En) : R (List (Option T) × En) := (r x.2).bind (mbK2 x.1)
@[simp] theorem e_mbCons {m : MEx} {r : MB} {ρ : En} : mbCons m r ρ = (m ρ).bind (mbK r) := (rfl)
@[simp] theorem e_mbK {r : MB} {x : T} {ρ : En} : mbK r (x, ρ) = (r ρ).bind (mbK2 x) := (rfl)
@[simp] theorem e_mbK2 {x : T} {os : List (Option T)} {ρ : En} : mbK2 x (os, ρ) = .ok (some x :: os, ρ) := (rfl)
def mbIoK2 (y : List (Option T) × En) : R (List (Option T) × En) := .ok (none :: y.1, y.2)
@[simp] theorem e_mbIoK2 {os : List (Option T)} {ρ : En} : mbIoK2 (os, ρ) = .ok (none :: os, ρ) := (rfl)
def mbIoK (r : MB) (ρ : En) : Option (Option T) → R (List (Option T) × En)
  | some (some _) => (r ρ).bind mbIoK2
  | _ => .bad
@[simp] theorem e_mbIo {i : Nat} {r : MB} {ρ : En} : mbIo i r ρ = mbIoK r ρ ρ[i]? := (rfl)
@[simp] theorem e_mbIoK {r : MB} {ρ : En} {t : T} : mbIoK r ρ (some (some t)) = (r ρ).bind mbIoK2 := (rfl)
def callK4 (t : T) (ρ : En) : R (T × En) := .ok (t, ρ)
@[simp] theorem e_callK4 {t : T} {ρ : En} : callK4 t ρ = .ok (t, ρ) := (rfl)
def callK3 (is : List Nat) (ρ : En) (z : T × List T) : R (T × En) := (ofO (putIo is z.2 ρ)).bind (callK4 z.1)
@[simp] theorem e_callK3 {is : List Nat} {ρ : En} {t : T} {os : List T} : callK3 is ρ (t, os) = (ofO (putIo is os ρ)).bind (callK4 t) := (rfl)
def callK2 (rz gz : Bool) (n : Nat) (fm : List T → R (T × List T)) (is : List Nat) (s : List T × En) : R (T × En) :=
  guard (!gz || allData s.1) ((if decide (s.1.length = n) then (if rz = true then fm s.1 else (fm s.1).nx) else .bad).bind (callK3 is s.2))
@[simp] theorem e_callK2f {n : Nat} {fm : List T → R (T × List T)} {is : List Nat} {ts : List T} {ρ : En} : callK2 false false n fm is (ts, ρ) = (if ts.length = n then (fm ts).nx else .bad).bind (callK3 is ρ) := by simp [callK2]
@[simp] theorem e_callK2t {n : Nat} {fm : List T → R (T × List T)} {is : List Nat} {ts : List T} {ρ : En} : callK2 true false n fm is (ts, ρ) = (if ts.length = n then fm ts else .bad).bind (callK3 is ρ) := by simp [callK2]
def callK (rz gz : Bool) (n : Nat) (fm : List T → R (T × List T)) (ks : List (Option Nat)) (r : List (Option T) × En) : R (T × En) := (ofO (fillIo ks r.1 r.2)).bind (callK2 rz gz n fm (ks.filterMap id))
@[simp] theorem e_callK {rz gz : Bool} {n : Nat} {fm : List T → R (T × List T)} {ks : List (Option Nat)} {os : List (Option T)} {ρ : En} : callK rz gz n fm ks (os, ρ) = (ofO (fillIo ks os ρ)).bind (callK2 rz gz n fm (ks.filterMap id)) := (rfl)
@[simp] theorem e_mCallF {rz gz : Bool} {n : Nat} {fm : List T → R (T × List T)} {ks : List (Option Nat)} {mb : MB} {ρ : En} : mCallF rz gz n fm ks mb ρ = (mb ρ).bind (callK rz gz n fm ks) := (rfl)
@[simp] theorem e_fill0 {ρ : En} : fillIo [] [] ρ = some ([], ρ) := (rfl)
@[simp] theorem e_fill1 {ks : List (Option Nat)} {t : T} {ts : List (Option T)} {ρ : En} : fillIo (none :: ks) (some t :: ts) ρ = (fillIo ks ts ρ).map fun r => (t :: r.1, r.2) := (rfl)
def fillK (i : Nat) (ks : List (Option Nat)) (ts : List (Option T)) (ρ : En) : Option (Option T) → Option (List T × En)
  | some (some t) => (fillIo ks ts (ρ.set i none)).map fun r => (t :: r.1, r.2)
  | _ => none
@[simp] theorem e_fill2 {i : Nat} {ks : List (Option Nat)} {ts : List (Option T)} {ρ : En} : fillIo (some i :: ks) (none :: ts) ρ = fillK i ks ts ρ ρ[i]? := (rfl)
@[simp] theorem e_fillK {i : Nat} {ks : List (Option Nat)} {ts : List (Option T)} {ρ : En} {t : T} : fillK i ks ts ρ (some (some t)) = (fillIo ks ts (ρ.set i none)).map fun r => (t :: r.1, r.2) := (rfl)
@[simp] theorem e_put0 {ρ : En} : putIo [] [] ρ = some ρ := (rfl)
@[simp] theorem e_put1 {i : Nat} {is : List Nat} {t : T} {ts : List T} {ρ : En} : putIo (i :: is) (t :: ts) ρ = putIo is ts (ρ.set i (some t)) := (rfl)
def outK2 (t : T) (os : List T) : R (List T) := .ok (t :: os)
@[simp] theorem e_outK2 {t : T} {os : List T} : outK2 t os = .ok (t :: os) := (rfl)
def outK (r : List Nat) (ρ : En) : Option (Option T) → R (List T)
  | some (some t) => (outs r ρ).bind (outK2 t)
  | _ => .bad
@[simp] theorem e_outs0 {ρ : En} : outs [] ρ = .ok [] := (rfl)
@[simp] theorem e_outs1 {i : Nat} {r : List Nat} {ρ : En} : outs (i :: r) ρ = outK r ρ ρ[i]? := (rfl)
@[simp] theorem e_outK {r : List Nat} {ρ : En} {t : T} : outK r ρ (some (some t)) = (outs r ρ).bind (outK2 t) := (rfl)
def fnK2 (t : T) (os : List T) : R (T × List T) := .ok (t, os)
@[simp] theorem e_fnK2 {t : T} {os : List T} : fnK2 t os = .ok (t, os) := (rfl)
def fnK (io : List Nat) : Out → R (T × List T)
  | .ret t ρ => (outs io ρ).bind (fnK2 t)
  | .next ρ => (outs io ρ).bind (fnK2 (.d .none))
  | .brk _ => .bad
  | .cont _ => .bad
@[simp] theorem e_mFn {io : List Nat} {k : Nat} {ms : MS} {ts : List T} : mFn io k ms ts = (ms (ts.map some ++ List.replicate k none)).bind (fnK io) := by
  unfold mFn
  congr 1
  funext o
  cases o <;> rfl
@[simp] theorem e_fnR {io : List Nat} {t : T} {ρ : En} : fnK io (.ret t ρ) = (outs io ρ).bind (fnK2 t) := (rfl)
@[simp] theorem e_fnN {io : List Nat} {ρ : En} : fnK io (.next ρ) = (outs io ρ).bind (fnK2 (.d .none)) := (rfl)
def loopK2 (g : MG) (b : MS) (xs : List T) : Out → R Out
  | .next ρ => mLoop g b xs ρ
  | .cont ρ => mLoop g b xs ρ
  | .brk ρ => .ok (.next ρ)
  | .ret t ρ => .ok (.ret t ρ)
def loopK (g : MG) (b : MS) (xs : List T) (ρ : En) : R Out := (b ρ).bind (loopK2 g b xs)
@[simp] theorem e_loop0 {g : MG} {b : MS} {ρ : En} : mLoop g b [] ρ = .ok (.next ρ) := (rfl)
@[simp] theorem e_loopC {g : MG} {b : MS} {x : T} {xs : List T} {ρ : En} : mLoop g b (x :: xs) ρ = (ofO (g x ρ)).bind (loopK g b xs) := by
  have h : (fun ρ1 => (b ρ1).bind fun o => match o with
    | .next ρ2 => mLoop g b xs ρ2
    | .cont ρ2 => mLoop g b xs ρ2
    | .brk ρ2 => .ok (.next ρ2)
    | .ret t ρ2 => .ok (.ret t ρ2)) = loopK g b xs := by
    funext ρ1
    unfold loopK
    congr 1
  exact congrArg (fun k => (ofO (g x ρ)).bind k) h
@[simp] theorem e_loopK {g : MG} {b : MS} {xs : List T} {ρ : En} : loopK g b xs ρ = (b ρ).bind (loopK2 g b xs) := (rfl)
@[simp] theorem e_loopN {g : MG} {b : MS} {xs : List T} {ρ : En} : loopK2 g b xs (.next ρ) = mLoop g b xs ρ := (rfl)
@[simp] theorem e_loopCo {g : MG} {b : MS} {xs : List T} {ρ : En} : loopK2 g b xs (.cont ρ) = mLoop g b xs ρ := (rfl)
@[simp] theorem e_loopB {g : MG} {b : MS} {xs : List T} {ρ : En} : loopK2 g b xs (.brk ρ) = .ok (.next ρ) := (rfl)
@[simp] theorem e_loopR {g : MG} {b : MS} {xs : List T} {t : T} {ρ : En} : loopK2 g b xs (.ret t ρ) = .ok (.ret t ρ) := (rfl)
def lcL3 (g : MG) (mt : MT) (me : MEx) (vs : List Nat) (xs acc : List T) (y : T × En) : R (List T × En) := mLcLoop g mt me vs xs (acc ++ [y.1]) y.2
def lcL2 (g : MG) (mt : MT) (me : MEx) (vs : List Nat) (xs acc : List T) (r : Bool × En) : R (List T × En) := if r.1 = true then guard (decide (acc.length < sLine)) ((me r.2).bind (lcL3 g mt me vs xs acc)) else mLcLoop g mt me vs xs acc r.2
def lcL1 (g : MG) (mt : MT) (me : MEx) (vs : List Nat) (xs acc : List T) (ρ : En) : R (List T × En) := (mt ρ).bind (lcL2 g mt me vs xs acc)
@[simp] theorem e_lc0 {g : MG} {mt : MT} {me : MEx} {vs : List Nat} {acc : List T} {ρ : En} : mLcLoop g mt me vs [] acc ρ = .ok (acc, ρ) := (rfl)
theorem e_lcC {g : MG} {mt : MT} {me : MEx} {vs : List Nat} {x : T} {xs acc : List T} {ρ : En} : mLcLoop g mt me vs (x :: xs) acc ρ = (ofO (g x (wipeE ρ vs))).bind (lcL1 g mt me vs xs acc) := (rfl)
@[simp] theorem e_lcL1 {g : MG} {mt : MT} {me : MEx} {vs : List Nat} {xs acc : List T} {ρ : En} : lcL1 g mt me vs xs acc ρ = (mt ρ).bind (lcL2 g mt me vs xs acc) := (rfl)
@[simp] theorem e_lcL2 {g : MG} {mt : MT} {me : MEx} {vs : List Nat} {xs acc : List T} {b : Bool} {ρ : En} : lcL2 g mt me vs xs acc (b, ρ) = if b = true then guard (decide (acc.length < sLine)) ((me ρ).bind (lcL3 g mt me vs xs acc)) else mLcLoop g mt me vs xs acc ρ := (rfl)
@[simp] theorem e_lcL3 {g : MG} {mt : MT} {me : MEx} {vs : List Nat} {xs acc : List T} {t : T} {ρ : En} : lcL3 g mt me vs xs acc (t, ρ) = mLcLoop g mt me vs xs (acc ++ [t]) ρ := (rfl)
def methK4 (t : T) (ρ : En) : R (T × En) := .ok (t, ρ)
@[simp] theorem e_methK4 {t : T} {ρ : En} : methK4 t ρ = .ok (t, ρ) := (rfl)
def methK (i : Nat) (p : List Int) (op : List T → List T → Option (T × List T)) (r : List T × En) : R (T × En) := (ofO (lstAt p r.2[i]?)).bind fun ts => (ofO (op ts r.1)).bind fun z => (ofO (putAt i p z.2 r.2)).bind (methK4 z.1)
@[simp] theorem e_methK {i : Nat} {p : List Int} {op : List T → List T → Option (T × List T)} {us : List T} {ρ : En} : methK i p op (us, ρ) = (ofO (lstAt p ρ[i]?)).bind fun ts => (ofO (op ts us)).bind fun z => (ofO (putAt i p z.2 ρ)).bind (methK4 z.1) := (rfl)
@[simp] theorem e_mMeth {i : Nat} {mp : ML} {op : List T → List T → Option (T × List T)} {ma : MA} {ρ : En} : mMeth i mp op ma ρ = (ofO (mp ρ)).bind fun p => (ofO (lstAt p ρ[i]?)).bind fun _ => (ma ρ).bind (methK i p op) := (rfl)
@[simp] theorem e_lHere {ρ : En} : lHere ρ = some [] := (rfl)
@[simp] theorem e_lIx {mp : ML} {mi : MP} {ρ : En} : lIx mp mi ρ = (mp ρ).bind fun p => ((mi ρ).bind T.int?).bind fun j => some (p ++ [j]) := (rfl)
@[simp] theorem e_int? {j : Int} : (T.d (.int j)).int? = some j := (rfl)
@[simp] theorem e_atNil {t : T} : T.at? [] t = some t := by cases t <;> rfl
@[simp] theorem e_atOl {j : Int} {js : List Int} {ts : List T} : T.at? (j :: js) (.ol ts) = (atI ts j).bind (T.at? js) := (rfl)
@[simp] theorem e_atOt {j : Int} {js : List Int} {ts : List T} : T.at? (j :: js) (.ot ts) = (atI ts j).bind (T.at? js) := (rfl)
@[simp] theorem e_putNil {n t : T} : T.put? [] n t = some n := by cases t <;> rfl
@[simp] theorem e_putOl {j : Int} {js : List Int} {n : T} {ts : List T} : T.put? (j :: js) n (.ol ts) = (ixN ts.length j).bind fun k => (ts[k]?).bind fun t => (T.put? js n t).map fun t' => .ol (ts.set k t') := (rfl)
@[simp] theorem e_putOt {j : Int} {js : List Int} {n : T} {ts : List T} : T.put? (j :: js) n (.ot ts) = (ixN ts.length j).bind fun k => (ts[k]?).bind fun t => (T.put? js n t).map fun t' => .ot (ts.set k t') := (rfl)
@[simp] theorem e_append {ts : List T} {u : T} : opAppend ts [u] = if decide (ts.length < sLine) = true then some (.d .none, ts ++ [u]) else none := (rfl)
def extK (ts : List T) : Option (List T) → Option (T × List T)
  | some ks => if decide (ts.length + ks.length ≤ sLine) = true then some (.d .none, ts ++ ks) else none
  | none => none
@[simp] theorem e_extend {ts : List T} {u : T} : opExtend ts [u] = extK ts u.kids := (rfl)
@[simp] theorem e_extK {ts ks : List T} : extK ts (some ks) = if decide (ts.length + ks.length ≤ sLine) = true then some (.d .none, ts ++ ks) else none := (rfl)
@[simp] theorem e_insert {ts : List T} {i : Int} {u : T} : opInsert ts [.d (.int i), u] = if decide (ts.length < sLine ∧ 0 ≤ i ∧ i < 2 ^ 63) = true then some (.d .none, ts.take i.toNat ++ [u] ++ ts.drop i.toNat) else none := (rfl)
@[simp] theorem e_kidsL {ds : List PyData} : T.kids (.d (.list ds)) = some (ds.map T.d) := (rfl)
@[simp] theorem e_kidsO {ts : List T} : T.kids (.ol ts) = some ts := (rfl)
@[simp] theorem e_partsD {ds : List PyData} : T.parts (.d (.tuple ds)) = some (ds.map T.d) := (rfl)
@[simp] theorem e_partsO {ts : List T} : T.parts (.ot ts) = some ts := (rfl)
def idxK (x : T) : R RV := .ok (.v x)
@[simp] theorem e_idxK {x : T} : idxK x = .ok (.v x) := (rfl)
def idxDK (x : PyData) : R RV := .ok (.v (.d x))
@[simp] theorem e_idxDK {x : PyData} : idxDK x = .ok (.v (.d x)) := (rfl)
def slK4 (ρ : En) (z : RV) : R (T × En) := .ok (z.toT, ρ)
@[simp] theorem e_slK4 {ρ : En} {z : RV} : slK4 ρ z = .ok (z.toT, ρ) := (rfl)
@[simp] theorem e_mSl {op : T → Option Int → Option Int → Option RV} {m : MP} {ml mh : MO} {ρ : En} : mSl op m ml mh ρ = (ofO (m ρ)).bind fun t => (ofO (ml ρ)).bind fun lo => (ofO (mh ρ)).bind fun hi => (ofO (op t lo hi)).bind (slK4 ρ) := (rfl)
@[simp] theorem e_oNone {ρ : En} : oNone ρ = some none := (rfl)
@[simp] theorem e_oSome {m : MP} {ρ : En} : oSome m ρ = ((m ρ).bind T.int?).map some := (rfl)
@[simp] theorem e_slL {ds : List PyData} {lo hi : Option Int} : opSlL (.d (.list ds)) lo hi = some (.nl (cutG ds lo hi)) := (rfl)
@[simp] theorem e_slR {ds : List PyData} {lo hi : Option Int} : opSlL (.rd ds) lo hi = some (.nl (cutG ds lo hi)) := (rfl)
@[simp] theorem e_slO {ts : List T} {lo hi : Option Int} : opSlL (.ol ts) lo hi = (T.allD ts).map fun ds => .nl (cutG ds lo hi) := (rfl)
@[simp] theorem e_slT {ds : List PyData} {lo hi : Option Int} : opSlT (.d (.tuple ds)) lo hi = if isWhole ds.length lo hi = false then some (.nt (cutG ds lo hi)) else none := (rfl)
def slE3 (ρ : En) (z : RV) : R (T × En) := .ok (z.toT, ρ)
@[simp] theorem e_slE3 {ρ : En} {z : RV} : slE3 ρ z = .ok (z.toT, ρ) := (rfl)
def slEK (ml mh : MO) (r : T × En) : R (T × En) := (ofO (ml r.2)).bind fun lo => (ofO (mh r.2)).bind fun hi => (ofO (opSlA r.1 lo hi)).bind (slE3 r.2)
@[simp] theorem e_mSlE {m : MEx} {ml mh : MO} {ρ : En} : mSlE m ml mh ρ = (m ρ).bind (slEK ml mh) := (rfl)
@[simp] theorem e_slEK {ml mh : MO} {t : T} {ρ : En} : slEK ml mh (t, ρ) = (ofO (ml ρ)).bind fun lo => (ofO (mh ρ)).bind fun hi => (ofO (opSlA t lo hi)).bind (slE3 ρ) := (rfl)
@[simp] theorem e_slAd {ds : List PyData} {lo hi : Option Int} : opSlA (.d (.list ds)) lo hi = some (.nl (cutG ds lo hi)) := (rfl)
@[simp] theorem e_slAo {ts : List T} {lo hi : Option Int} : opSlA (.ol ts) lo hi = (T.allD ts).map fun ds => .nl (cutG ds lo hi) := (rfl)
@[simp] theorem e_revL {ds : List PyData} : opRevL (.d (.list ds)) = .ok (.nl ds.reverse) := (rfl)
@[simp] theorem e_ltAI {i j : Int} : opLtA (.d (.int i)) (.d (.int j)) = .ok (.v (.d (.bool (decide (i < j))))) := (rfl)
@[simp] theorem e_ltAT {a b c d : Int} : opLtA (.d (.tuple [.int a, .int b])) (.d (.tuple [.int c, .int d])) = .ok (.v (.d (.bool (HT.lexLt [a, b] [c, d])))) := (rfl)
def dropIoK (r : T × List T) : R (T × List T) := .ok (r.1, [])
@[simp] theorem e_dropIo {m : List T → R (T × List T)} {ts : List T} : dropIo m ts = (m ts).bind dropIoK := (rfl)
@[simp] theorem e_dropIoK {t : T} {os : List T} : dropIoK (t, os) = .ok (t, []) := (rfl)
/-- operations on data -/
@[simp] theorem e_addII {i j : Int} : opAdd (.d (.int i)) (.d (.int j)) = .ok (.v (.d (.int (i + j)))) := (rfl)
@[simp] theorem e_subII {i j : Int} : opSub (.d (.int i)) (.d (.int j)) = .ok (.v (.d (.int (i - j)))) := (rfl)
@[simp] theorem e_mulII {i j : Int} : opMulI (.d (.int i)) (.d (.int j)) = guard (mulOk i j) (.ok (.v (.d (.int (i * j))))) := (rfl)
@[simp] theorem e_modII {i j : Int} : opMod (.d (.int i)) (.d (.int j)) = guard (modOk i j) (.ok (.v (.d (.int (i.fmod j))))) := (rfl)
@[simp] theorem e_divII {i j : Int} : opFdiv (.d (.int i)) (.d (.int j)) = guard (divOk i j) (.ok (.v (.d (.int (i.fdiv j))))) := (rfl)
@[simp] theorem e_powII {i j : Int} : opPow (.d (.int i)) (.d (.int j)) = guard (powOk i j) (.ok (.v (.d (.int (i ^ j.toNat))))) := (rfl)
@[simp] theorem e_ltII {i j : Int} : opLt (.d (.int i)) (.d (.int j)) = .ok (.v (.d (.bool (decide (i < j))))) := (rfl)
@[simp] theorem e_leII {i j : Int} : opLe (.d (.int i)) (.d (.int j)) = .ok (.v (.d (.bool (decide (i ≤ j))))) := (rfl)
@[simp] theorem e_gtII {i j : Int} : opGt (.d (.int i)) (.d (.int j)) = .ok (.v (.d (.bool (decide (j < i))))) := (rfl)
@[simp] theorem e_geII {i j : Int} : opGe (.d (.int i)) (.d (.int j)) = .ok (.v (.d (.bool (decide (j ≤ i))))) := (rfl)
@[simp] theorem e_negI {i : Int} : opNeg (.d (.int i)) = .ok (.v (.d (.int (-i)))) := (rfl)
@[simp] theorem e_eqII {i j : Int} : opEq (.d (.int i)) (.d (.int j)) = .ok (.v (.d (.bool (decide (i = j))))) := (rfl)
@[simp] theorem e_neII {i j : Int} : opNe (.d (.int i)) (.d (.int j)) = .ok (.v (.d (.bool (!decide (i = j))))) := (rfl)
@[simp] theorem e_eqBB {i j : Bool} : opEq (.d (.bool i)) (.d (.bool j)) = .ok (.v (.d (.bool (decide (i = j))))) := (rfl)
@[simp] theorem e_neBB {i j : Bool} : opNe (.d (.bool i)) (.d (.bool j)) = .ok (.v (.d (.bool (!decide (i = j))))) := (rfl)
@[simp] theorem e_eqSS {i j : Str} : opEq (.d (.str i)) (.d (.str j)) = .ok (.v (.d (.bool (decide (i = j))))) := (rfl)
@[simp] theorem e_neSS {i j : Str} : opNe (.d (.str i)) (.d (.str j)) = .ok (.v (.d (.bool (!decide (i = j))))) := (rfl)
@[simp] theorem e_idxL {ds : List PyData} {i : Int} : opIdx (.d (.list ds)) (.d (.int i)) = (ofO (atI ds i)).bind idxDK := (rfl)
@[simp] theorem e_idxT {ds : List PyData} {i : Int} : opIdx (.d (.tuple ds)) (.d (.int i)) = (ofO (atI ds i)).bind idxDK := (rfl)
@[simp] theorem e_idxOl {ts : List T} {i : Int} : opIdx (.ol ts) (.d (.int i)) = (ofO (atI ts i)).bind idxK := (rfl)
@[simp] theorem e_idxOt {ts : List T} {i : Int} : opIdx (.ot ts) (.d (.int i)) = (ofO (atI ts i)).bind idxK := (rfl)
@[simp] theorem e_idxRd {ds : List PyData} {i : Int} : opIdx (.rd ds) (.d (.int i)) = (ofO (atI ds i)).bind idxDK := (rfl)
@[simp] theorem e_isNN : T.isNone (.d .none) = true := (rfl)
@[simp] theorem e_isN {x : T} : opIsN x (.d .none) = .ok (.v (.d (.bool x.isNone))) := (rfl)
@[simp] theorem e_notN {x : T} : opNotN x (.d .none) = .ok (.v (.d (.bool (!x.isNone)))) := (rfl)
@[simp] theorem e_nnI {i : Int} : T.isNone (.d (.int i)) = false := (rfl)
@[simp] theorem e_nnB {i : Bool} : T.isNone (.d (.bool i)) = false := (rfl)
@[simp] theorem e_nnT {i : List PyData} : T.isNone (.d (.tuple i)) = false := (rfl)
@[simp] theorem e_nnL {i : List PyData} : T.isNone (.d (.list i)) = false := (rfl)
@[simp] theorem e_opLen {t : T} : opLen [t] = (ofO t.size).bind fun n => .ok (.v (.d (.int n))) := (rfl)
@[simp] theorem e_sizeL {ds : List PyData} : T.size (.d (.list ds)) = some ds.length := (rfl)
@[simp] theorem e_sizeT {ds : List PyData} : T.size (.d (.tuple ds)) = some ds.length := (rfl)
@[simp] theorem e_sizeOl {ts : List T} : T.size (.ol ts) = some ts.length := (rfl)
@[simp] theorem e_sizeOt {ts : List T} : T.size (.ot ts) = some ts.length := (rfl)
@[simp] theorem e_sizeRd {ds : List PyData} : T.size (.rd ds) = some ds.length := (rfl)
@[simp] theorem e_abs {i : Int} : opAbs [.d (.int i)] = .ok (.v (.d (.int i.natAbs))) := by
  show R.ok (RV.v (T.d (.int (if i < 0 then -i else i)))) = _
  have : (if i < 0 then -i else i) = (i.natAbs : Int) := by split <;> omega
  rw [this]
@[simp] theorem e_int1 {i : Int} : opInt1 [.d (.int i)] = .ok (.v (.d (.int i))) := (rfl)
@[simp] theorem e_int1b {b : Bool} : opInt1 [.d (.bool b)] = .ok (.v (.d (.int (if b then 1 else 0)))) := (rfl)
@[simp] theorem e_max2 {i j : Int} : opMax2 [.d (.int i), .d (.int j)] = .ok (.v (.d (.int (if j > i then j else i)))) := (rfl)
@[simp] theorem e_min2 {i j : Int} : opMin2 [.d (.int i), .d (.int j)] = .ok (.v (.d (.int (if j < i then j else i)))) := (rfl)
@[simp] theorem e_listOf {t : T} : opListOf [t] = (ofO t.seq?).bind fun ds => .ok (.nl ds) := (rfl)
@[simp] theorem e_seqL {ds : List PyData} : T.seq? (.d (.list ds)) = some ds := (rfl)
@[simp] theorem e_seqT {ds : List PyData} : T.seq? (.d (.tuple ds)) = some ds := (rfl)
@[simp] theorem e_seqOl {ts : List T} : T.seq? (.ol ts) = T.allD ts := (rfl)
@[simp] theorem e_seqRd {ds : List PyData} : T.seq? (.rd ds) = some ds := (rfl)
@[simp] theorem e_tupleOfT {ds : List PyData} : opTupleOf [.d (.tuple ds)] = .ok (.v (.d (.tuple ds))) := (rfl)
@[simp] theorem e_tupleOfL {ds : List PyData} : opTupleOf [.d (.list ds)] = .ok (.nt ds) := (rfl)
def tryK (xs : List Str) (j : Nat) (ρ : En) (r : R Out) : R Out := match r with
  | .exc x => if xs.contains x then .ok (.next ((List.replicate ρ.length none).set j (some (.ex x)))) else .bad
  | r => r
theorem e_mTryK0 {xs : List Str} {j : Nat} {mb : MS} {ρ : En} : mTryK xs j mb ρ = tryK xs j ρ (mb ρ) := by
  unfold mTryK tryK
  cases mb ρ <;> rfl
@[simp] theorem e_mTryK {xs : List Str} {j : Nat} {mb : MS} {ρ : En} : mTryK xs j mb ρ = tryK xs j ρ (mb ρ) := e_mTryK0
@[simp] theorem e_tryOk {xs : List Str} {j : Nat} {ρ : En} {o : Out} : tryK xs j ρ (.ok o) = .ok o := (rfl)
@[simp] theorem e_tryExc {xs : List Str} {j : Nat} {ρ : En} {x : Str} : tryK xs j ρ (.exc x) = if xs.contains x then .ok (.next ((List.replicate ρ.length none).set j (some (.ex x)))) else .bad := (rfl)
theorem then_try {xs : List Str} {j : Nat} {ρ : En} {r : R Out} {P : Out → Prop} {E : Str → Prop} (h : Then r P (fun x => xs.contains x = true ∧ P (.next ((List.replicate ρ.length none).set j (some (.ex x)))))) : Then (tryK xs j ρ r) P E := by
  cases r with
  | ok o => exact h
  | bad => exact h.elim
  | exc x =>
    rw [then_excS] at h
    rw [e_tryExc, if_pos h.1]
    exact h.2
@[simp] theorem e_mRaise {x : Str} {ρ : En} : mRaise x ρ = .exc x := (rfl)
@[simp] theorem e_pIsX {tab : XTab} {m : MP} {ρ : En} : pIsX tab m ρ = (m ρ).bind fun t => (exIs tab t).map T.d := (rfl)
@[simp] theorem e_exIs {tab : XTab} {x : Str} : exIs tab (.ex x) = (tab.lookup x).map PyData.bool := (rfl)
@[simp] theorem e_mgLst {n : Nat} {r : MGs} {ds : List PyData} {ρ : En} : mgLst n r (.d (.list ds)) ρ = if ds.length = n then r (ds.map T.d) ρ else none := (rfl)
def eqNilK (ρ : En) (o : R RV) : R (T × En) := match o with
  | .ok (.v (.d (.bool b))) => .ok (.d (.bool b), ρ)
  | _ => .bad
def eqNilK0 (f : T → T → R RV) (ρ : En) (o : Option T) : R (T × En) := match o with
  | some x => eqNilK ρ (f x (.d (.list [])))
  | none => .bad
@[simp] theorem e_mEqNil {f : T → T → R RV} {mp : MP} {ρ : En} : mEqNil f mp ρ = eqNilK0 f ρ (mp ρ) := (rfl)
@[simp] theorem e_eqNilK0 {f : T → T → R RV} {x : T} {ρ : En} : eqNilK0 f ρ (some x) = eqNilK ρ (f x (.d (.list []))) := (rfl)
@[simp] theorem e_eqNilK {b : Bool} {ρ : En} : eqNilK ρ (.ok (.v (.d (.bool b)))) = .ok (.d (.bool b), ρ) := (rfl)
def tupCntK (mp : MP) (r : List T × En) : R (T × En) := match T.allD r.1, mp r.2 with
  | some ds, some (.d x) => (cntD ds x).bind fun n => .ok (.d n, r.2)
  | _, _ => .bad
def tupCntK2 (ρ : En) (od : Option (List PyData)) (o : Option T) : R (T × En) := match od, o with
  | some ds, some (.d x) => (cntD ds x).bind fun n => .ok (.d n, ρ)
  | _, _ => .bad
@[simp] theorem e_mTupCount {ma : MA} {mp : MP} {ρ : En} : mTupCount ma mp ρ = (ma ρ).bind (tupCntK mp) := (rfl)
@[simp] theorem e_tupCntK {mp : MP} {ts : List T} {ρ : En} : tupCntK mp (ts, ρ) = tupCntK2 ρ (T.allD ts) (mp ρ) := (rfl)
@[simp] theorem e_tupCntK2 {ds : List PyData} {x : PyData} {ρ : En} : tupCntK2 ρ (some ds) (some (.d x)) = (cntD ds x).bind fun n => .ok (.d n, ρ) := (rfl)
def isXTK (ρ : En) (d : PyData) : R (T × En) := .ok (.d d, ρ)
@[simp] theorem e_isXTK {ρ : En} {d : PyData} : isXTK ρ d = .ok (.d d, ρ) := (rfl)
@[simp] theorem e_mIsXT {tab : XTab} {m : MP} {ρ : En} : mIsXT tab m ρ = (ofO ((m ρ).bind (exIs tab))).bind (isXTK ρ) := (rfl)
@[simp] theorem e_isB {a b : Bool} : opIsB (.d (.bool a)) (.d (.bool b)) = .ok (.v (.d (.bool (decide (a = b))))) := (rfl)
@[simp] theorem e_notB {a b : Bool} : opNotB (.d (.bool a)) (.d (.bool b)) = .ok (.v (.d (.bool (!decide (a = b))))) := (rfl)
@[simp] theorem e_isaInt {n : String} {i : Int} : isaT n (.d (.int i)) = kitB "int" n := (rfl)
@[simp] theorem e_isaBool {n : String} {i : Bool} : isaT n (.d (.bool i)) = kitB "bool" n := (rfl)
@[simp] theorem e_isaStr {n : String} {i : Str} : isaT n (.d (.str i)) = kitB "str" n := (rfl)
@[simp] theorem e_isaTup {n : String} {i : List PyData} : isaT n (.d (.tuple i)) = kitB "tuple" n := (rfl)
@[simp] theorem e_isaLst {n : String} {i : List PyData} : isaT n (.d (.list i)) = kitB "list" n := (rfl)
@[simp] theorem e_isaNone {n : String} : isaT n (.d .none) = kitB "NoneType" n := (rfl)
@[simp] theorem e_isaOl {n : String} {i : List T} : isaT n (.ol i) = kitB "list" n := (rfl)
@[simp] theorem e_fzD {x : PyData} : T.fz (.d x) = some x := by simp [T.fz]
@[simp] theorem e_fzOl {ts : List T} : T.fz (.ol ts) = (T.fzAll ts).map PyData.list := by simp [T.fz]
@[simp] theorem e_fzOt {ts : List T} : T.fz (.ot ts) = (T.fzAll ts).map PyData.tuple := by simp [T.fz]
@[simp] theorem e_fzNil : T.fzAll [] = some [] := by simp [T.fzAll]
@[simp] theorem e_fzCons {t : T} {r : List T} : T.fzAll (t :: r) = (T.fz t).bind fun x => (T.fzAll r).map fun xs => x :: xs := by simp [T.fzAll]
@[simp] theorem e_fzMap : ∀ {ds : List PyData}, T.fzAll (ds.map T.d) = some ds
  | [] => by simp
  | x :: r => by simp [e_fzMap (ds := r)]
@[simp] theorem e_fzMapC {α : Type} {f : α → PyData} {xs : List α} : T.fzAll (xs.map (T.d ∘ f)) = some (xs.map f) := by rw [← List.map_map]; exact e_fzMap
@[simp] theorem e_fzMapL {α : Type} {f : α → PyData} {xs : List α} : T.fzAll (xs.map fun x => T.d (f x)) = some (xs.map f) := e_fzMapC
@[simp] theorem e_toDD {x : PyData} : T.toD (.d x) = some x := by simp [T.toD]
@[simp] theorem e_toDOl {ts : List T} : T.toD (.ol ts) = (T.toDAll ts).map PyData.list := by simp [T.toD]
@[simp] theorem e_toDOt {ts : List T} : T.toD (.ot ts) = (T.toDAll ts).map PyData.tuple := by simp [T.toD]
@[simp] theorem e_toDNil : T.toDAll [] = some [] := by simp [T.toDAll]
@[simp] theorem e_toDCons {t : T} {r : List T} : T.toDAll (t :: r) = (T.toD t).bind fun x => (T.toDAll r).map fun xs => x :: xs := by simp [T.toDAll]
@[simp] theorem e_toDMap : ∀ {ds : List PyData}, T.toDAll (ds.map T.d) = some ds
  | [] => by simp
  | x :: r => by simp [e_toDMap (ds := r)]
@[simp] theorem e_toDMapC {α : Type} {f : α → PyData} {xs : List α} : T.toDAll (xs.map (T.d ∘ f)) = some (xs.map f) := by rw [← List.map_map]; exact e_toDMap
@[simp] theorem e_toDMapL {α : Type} {f : α → PyData} {xs : List α} : T.toDAll (xs.map fun x => T.d (f x)) = some (xs.map f) := e_toDMapC
@[simp] theorem e_allDNil : T.allD [] = some [] := (rfl)
@[simp] theorem e_allDCons {x : PyData} {r : List T} : T.allD (.d x :: r) = (T.allD r).map fun xs => x :: xs := (rfl)
@[simp] theorem e_allDOl {x : List T} {r : List T} : T.allD (.ol x :: r) = none := (rfl)
@[simp] theorem e_allDMapC {α : Type} {f : α → PyData} {xs : List α} : T.allD (xs.map (T.d ∘ f)) = some (xs.map f) := by rw [← List.map_map]; exact allD_map _
@[simp] theorem e_allDMapL {α : Type} {f : α → PyData} {xs : List α} : T.allD (xs.map fun x => T.d (f x)) = some (xs.map f) := e_allDMapC
@[simp] theorem e_allDMap {ds : List PyData} : T.allD (ds.map T.d) = some ds := allD_map ds
@[simp] theorem e_lstL {ds : List PyData} : T.lst? (.d (.list ds)) = some ds := (rfl)
@[simp] theorem e_lstO {ts : List T} : T.lst? (.ol ts) = T.allD ts := (rfl)
@[simp] theorem e_wipe0 {ρ : Env} : wipeE ρ [] = ρ := (rfl)
@[simp] theorem e_wipe1 {ρ : Env} {v : Nat} {vs : List Nat} : wipeE ρ (v :: vs) = (wipeE ρ vs).set v none := (rfl)
theorem e_ixN {m n : Nat} (h : n < m) : ixN m (n : Int) = some n := by
  unfold ixN
  rw [if_pos (by omega), if_pos (by omega)]
  simp
theorem e_atIn {α : Type} {xs : List α} {n : Nat} : atI xs (n : Int) = xs[n]? := by
  unfold atI
  by_cases h : n < xs.length
  · rw [e_ixN h]; rfl
  · rw [List.getElem?_eq_none (by omega)]
    unfold ixN
    rw [if_pos (by omega), if_neg (by omega)]
    rfl
@[simp] theorem e_atI0 {α : Type} {x : α} {xs : List α} : atI (x :: xs) 0 = some x := (e_atIn (n := 0)).trans rfl
@[simp] theorem e_atI1 {α : Type} {x y : α} {xs : List α} : atI (x :: y :: xs) 1 = some y := (e_atIn (n := 1)).trans rfl
@[simp] theorem e_atI2 {α : Type} {x y z : α} {xs : List α} : atI (x :: y :: z :: xs) 2 = some z := (e_atIn (n := 2)).trans rfl
@[simp] theorem e_atI3 {α : Type} {x y z u : α} {xs : List α} : atI (x :: y :: z :: u :: xs) 3 = some u := (e_atIn (n := 3)).trans rfl
end L3
namespace L3
open PySem
/-- what a law is to tell -/
def Yes (r : T × List T) : Prop := r.1 = .d (.bool true)
def NoE (_ : Str) : Prop := False
@[simp] theorem e_yes {os : List T} : Yes (.d (.bool true), os) := rfl
theorem of_yes {r : R (T × List T)} (h : Then r Yes NoE) : Then r (fun r => r.1 = .d (.bool true)) (fun _ => False) := h
end L3
/-! L3n -/
/-! L3n: loops, equality of data, sizes, fractions. -/
namespace L3
open PySem PySem.Spec PyProof.Rows L2

/-! ### while -/
theorem mWhile_of {mt : MT} {mb : MS} {n : Nat} {ρ : Env} (h : mWhileN mt mb n ρ ≠ .bad) : mWhile mt mb ρ = mWhileN mt mb n ρ := by
  have hx : ∃ n, mWhileN mt mb n ρ ≠ .bad := ⟨n, h⟩
  unfold mWhile
  rw [dif_pos hx]
  have hc := Classical.choose_spec hx
  rcases Nat.le_total n (Classical.choose hx) with l | l
  · exact mWhileN_le h l
  · exact (mWhileN_le hc l).symm
theorem mWhile_bad {mt : MT} {mb : MS} {ρ : Env} (h : ∀ n, mWhileN mt mb n ρ = .bad) : mWhile mt mb ρ = .bad := by
  unfold mWhile
  rw [dif_neg]
  rintro ⟨n, e⟩
  exact e (h n)
noncomputable abbrev wNext (mt : MT) (mb : MS) : Out → R Out := fun o => match o with
  | .next ρ2 => mWhile mt mb ρ2
  | .cont ρ2 => mWhile mt mb ρ2
  | .brk ρ2 => .ok (.next ρ2)
  | .ret t ρ2 => .ok (.ret t ρ2)
theorem mWhile_eq {mt : MT} {mb : MS} {ρ : Env} : mWhile mt mb ρ = (mt ρ).bind fun r => if r.1 = true then (mb r.2).bind (wNext mt mb) else .ok (.next r.2) := by
  have step : ∀ n, mWhileN mt mb (n + 1) ρ = (mt ρ).bind fun r => if r.1 = true then (mb r.2).bind (fun o => match o with
    | .next ρ2 => mWhileN mt mb n ρ2
    | .cont ρ2 => mWhileN mt mb n ρ2
    | .brk ρ2 => .ok (.next ρ2)
    | .ret t ρ2 => .ok (.ret t ρ2)) else .ok (.next r.2) := fun n => rfl
  cases e : mt ρ with
  | exc x =>
    rw [mWhile_of (n := 1) (by rw [step, e]; exact fun z => nomatch z), step, e]; rfl
  | bad => exact mWhile_bad fun n => (match n with
      | 0 => rfl
      | n + 1 => by rw [step, e]; rfl)
  | ok r =>
    show _ = if r.1 = true then _ else _
    by_cases hr : r.1 = true
    · rw [if_pos hr]
      have step2 : ∀ n, mWhileN mt mb (n + 1) ρ = (mb r.2).bind (fun o => match o with
        | .next ρ2 => mWhileN mt mb n ρ2
        | .cont ρ2 => mWhileN mt mb n ρ2
        | .brk ρ2 => .ok (.next ρ2)
        | .ret t ρ2 => .ok (.ret t ρ2)) := fun n => by rw [step, e]; show (if r.1 = true then _ else _) = _; rw [if_pos hr]
      cases e2 : mb r.2 with
      | exc x => rw [mWhile_of (n := 1) (by rw [step2, e2]; exact fun z => nomatch z), step2, e2]; rfl
      | bad => exact mWhile_bad fun n => (match n with
          | 0 => rfl
          | n + 1 => by rw [step2, e2]; rfl)
      | ok o =>
        have go : ∀ ρ2, (∀ n, mWhileN mt mb (n + 1) ρ = mWhileN mt mb n ρ2) → mWhile mt mb ρ = mWhile mt mb ρ2 := fun ρ2 h => by
          by_cases hx : ∃ n, mWhileN mt mb n ρ2 ≠ .bad
          · obtain ⟨n, hn⟩ := hx
            rw [mWhile_of hn, mWhile_of (n := n + 1) (by rw [h]; exact hn), h]
          · have hb : ∀ n, mWhileN mt mb n ρ2 = .bad := fun n => Classical.byContradiction fun z => hx ⟨n, z⟩
            rw [mWhile_bad hb]
            exact mWhile_bad fun n => (match n with
              | 0 => rfl
              | n + 1 => by rw [h]; exact hb n)
        cases o with
        | next ρ2 => exact go ρ2 fun n => by rw [step2, e2]; rfl
        | cont ρ2 => exact go ρ2 fun n => by rw [step2, e2]; rfl
        | brk ρ2 => rw [mWhile_of (n := 1) (by rw [step2, e2]; exact fun z => nomatch z), step2, e2]; rfl
        | ret t ρ2 => rw [mWhile_of (n := 1) (by rw [step2, e2]; exact fun z => nomatch z), step2, e2]; rfl
    · rw [if_neg hr, mWhile_of (n := 1) (by rw [step, e]; show (if r.1 = true then _ else _) ≠ _; rw [if_neg hr]; exact fun z => nomatch z), step, e]
      show (if r.1 = true then _ else _) = _
      rw [if_neg hr]

/-! ### for, comprehensions -/
def turnTo (I : L3.Env → Prop) (Q : Out → Prop) : Out → Prop
  | .next ρ => I ρ
  | .cont ρ => I ρ
  | .brk ρ => Q (.next ρ)
  | .ret t ρ => Q (.ret t ρ)
@[simp] theorem t_next {I : L3.Env → Prop} {Q : Out → Prop} {ρ : L3.Env} : turnTo I Q (.next ρ) ↔ I ρ := (Iff.rfl)
@[simp] theorem t_cont {I : L3.Env → Prop} {Q : Out → Prop} {ρ : L3.Env} : turnTo I Q (.cont ρ) ↔ I ρ := (Iff.rfl)
@[simp] theorem t_brk {I : L3.Env → Prop} {Q : Out → Prop} {ρ : L3.Env} : turnTo I Q (.brk ρ) ↔ Q (.next ρ) := (Iff.rfl)
@[simp] theorem t_ret {I : L3.Env → Prop} {Q : Out → Prop} {t : T} {ρ : L3.Env} : turnTo I Q (.ret t ρ) ↔ Q (.ret t ρ) := (Iff.rfl)
/-- a loop by what holds ahead of the i-th turn -/
theorem loop_ix {g : MG} {b : MS} {Q : Out → Prop} {E : Str → Prop} (I : Nat → Env → Prop) {items : List T} {ρ : Env} (h0 : I 0 ρ) (hend : ∀ ρ, I items.length ρ → Q (.next ρ))
    (hstep : ∀ i x ρ, items[i]? = some x → I i ρ → ∃ ρ1, g x ρ = some ρ1 ∧ Then (b ρ1) (turnTo (I (i + 1)) Q) E) :
    Then (mLoop g b items ρ) Q E := by
  suffices ∀ k i ρ, i + k = items.length → I i ρ → Then (mLoop g b (items.drop i) ρ) Q E by
    have := this items.length 0 ρ (by omega) h0
    rwa [List.drop_zero] at this
  intro k
  induction k with
  | zero =>
    intro i ρ hi h
    have : i = items.length := by omega
    subst this
    rw [List.drop_length]
    exact hend ρ h
  | succ k ih =>
    intro i ρ hi h
    have hlt : i < items.length := by omega
    rw [List.drop_eq_getElem_cons hlt]
    obtain ⟨ρ1, e, t⟩ := hstep i _ ρ (List.getElem?_eq_getElem hlt) h
    show Then ((ofO (g items[i] ρ)).bind _) Q E
    rw [e]
    show Then ((b ρ1).bind _) Q E
    refine then_bindI t fun o ho => ?_
    cases o with
    | next ρ2 => exact ih (i + 1) ρ2 (by omega) ho
    | cont ρ2 => exact ih (i + 1) ρ2 (by omega) ho
    | brk ρ2 => exact ho
    | ret t ρ2 => exact ho
theorem lc_ix {g : MG} {mt : MT} {me : MEx} {vs : List Nat} {Q : List T × Env → Prop} {E : Str → Prop} (I : Nat → List T → Env → Prop) {items : List T} {ρ : Env} (h0 : I 0 [] ρ) (hend : ∀ acc ρ, I items.length acc ρ → Q (acc, ρ)) (hsz : ∀ i acc ρ, I i acc ρ → i < items.length → acc.length < sLine)
    (hstep : ∀ i x acc ρ, items[i]? = some x → I i acc ρ → ∃ ρ1, g x (wipeE ρ vs) = some ρ1 ∧ Then (mt ρ1) (fun r => if r.1 = true then Then (me r.2) (fun y => I (i + 1) (acc ++ [y.1]) y.2) E else I (i + 1) acc r.2) E) :
    Then (mLcLoop g mt me vs items [] ρ) Q E := by
  suffices ∀ k i acc ρ, i + k = items.length → I i acc ρ → Then (mLcLoop g mt me vs (items.drop i) acc ρ) Q E by
    have := this items.length 0 [] ρ (by omega) h0
    rwa [List.drop_zero] at this
  intro k
  induction k with
  | zero =>
    intro i acc ρ hi h
    have : i = items.length := by omega
    subst this
    rw [List.drop_length]
    exact hend acc ρ h
  | succ k ih =>
    intro i acc ρ hi h
    have hlt : i < items.length := by omega
    rw [List.drop_eq_getElem_cons hlt]
    obtain ⟨ρ1, e, t⟩ := hstep i _ acc ρ (List.getElem?_eq_getElem hlt) h
    show Then ((ofO (g items[i] (wipeE ρ vs))).bind _) Q E
    rw [e]
    show Then ((mt ρ1).bind _) Q E
    refine then_bindI t fun r hr => ?_
    by_cases hb : r.1 = true
    · rw [if_pos hb] at hr ⊢
      refine then_guardI (decide_eq_true (hsz i acc ρ h hlt)) (then_bindI hr fun y hy => ?_)
      exact ih (i + 1) _ y.2 (by omega) hy
    · rw [if_neg hb] at hr ⊢
      exact ih (i + 1) acc r.2 (by omega) hr
/-- a comprehension that changes nothing: W, the slots behind wiping -/
theorem lc_map {g : MG} {mt : MT} {me : MEx} {vs : List Nat} {W : Env} (f : T → Option T) {items : List T} (hlen : items.length ≤ 10000)
    (h : ∀ x ∈ items, ∃ ρ1 b ρ2, g x W = some ρ1 ∧ mt ρ1 = .ok (b, ρ2) ∧ (b = false → f x = none ∧ wipeE ρ2 vs = W) ∧ (b = true → ∃ y ρ3, me ρ2 = .ok (y, ρ3) ∧ f x = some y ∧ wipeE ρ3 vs = W)) {ρ : Env} (hρ : wipeE ρ vs = W) :
    ∃ ρ', mLcLoop g mt me vs items [] ρ = .ok (items.filterMap f, ρ') ∧ wipeE ρ' vs = W := by
  have key : ∀ (items : List T) (acc : List T) (ρ : Env), acc.length + items.length ≤ 10000 → wipeE ρ vs = W → (∀ x ∈ items, ∃ ρ1 b ρ2, g x W = some ρ1 ∧ mt ρ1 = .ok (b, ρ2) ∧ (b = false → f x = none ∧ wipeE ρ2 vs = W) ∧ (b = true → ∃ y ρ3, me ρ2 = .ok (y, ρ3) ∧ f x = some y ∧ wipeE ρ3 vs = W)) →
      ∃ ρ', mLcLoop g mt me vs items acc ρ = .ok (acc ++ items.filterMap f, ρ') ∧ wipeE ρ' vs = W := by
    intro items
    induction items with
    | nil => intro acc ρ _ hρ _; exact ⟨ρ, by simp [mLcLoop], hρ⟩
    | cons x xs ih =>
      intro acc ρ hl hρ h
      obtain ⟨ρ1, b, ρ2, e1, e2, h1, h2⟩ := h x List.mem_cons_self
      have hl' : acc.length + (xs.length + 1) ≤ 10000 := by simpa using hl
      cases b with
      | false =>
        obtain ⟨e3, e4⟩ := h1 rfl
        obtain ⟨ρ', e5, e6⟩ := ih acc ρ2 (by omega) e4 fun y hy => h y (List.mem_cons_of_mem _ hy)
        refine ⟨ρ', ?_, e6⟩
        unfold mLcLoop
        rw [hρ, e1]
        simp only [ofO_some, bind_okS, e2, Bool.false_eq_true, if_false]
        rw [e5, List.filterMap_cons, e3]
      | true =>
        obtain ⟨y, ρ3, e3, e4, e4'⟩ := h2 rfl
        obtain ⟨ρ', e5, e6⟩ := ih (acc ++ [y]) ρ3 (by simp; omega) e4' fun y hy => h y (List.mem_cons_of_mem _ hy)
        refine ⟨ρ', ?_, e6⟩
        unfold mLcLoop
        rw [hρ, e1]
        have hs : decide (acc.length < sLine) = true := decide_eq_true (by unfold sLine; omega)
        simp only [ofO_some, bind_okS, e2, if_true, e3, hs, guard_t]
        rw [e5, List.filterMap_cons, e4, List.append_assoc]
        rfl
  have := key items [] ρ (by simpa using hlen) hρ h
  simpa using this
theorem rangeItems_get {lo hi : Int} {i : Nat} {x : T} (h : (rangeItems lo hi)[i]? = some x) : i < (hi - lo).toNat ∧ x = .d (.int (lo + (i : Nat))) := by
  unfold rangeItems at h
  rw [List.getElem?_map] at h
  obtain ⟨z, e1, rfl⟩ := Option.map_eq_some_iff.mp h
  obtain ⟨h1, h2⟩ := List.getElem?_eq_some_iff.mp e1
  have : z = i := by simpa using h2.symm
  subst this
  exact ⟨by simpa using h1, rfl⟩
@[simp] theorem rangeItems_len {lo hi : Int} : (rangeItems lo hi).length = (hi - lo).toNat := by simp [rangeItems]

/-! ### equality of plain data -/
noncomputable instance decD : DecidableEq PyData := fun a b => Classical.propDecidable (a = b)
mutual
def plk : Nat → PyData → Bool
  | _, .int _ => true
  | _, .none => true
  | _, .str s => PyData.strOk s
  | n + 1, .list xs => plkAll n xs
  | n + 1, .tuple xs => plkAll n xs
  | _, _ => false
def plkAll : Nat → List PyData → Bool
  | _, [] => true
  | n, x :: xs => plk n x && plkAll n xs
end
mutual
theorem plk_eqv : ∀ (n m : Nat) (x y : PyData), plk n x = true → plk m y = true → PyData.eqv x y = decide (x = y)
  | _, _, .int i, .int j, _, _ => by rw [Bool.eq_iff_iff]; simp [PyData.eqv]
  | _, _, .str i, .str j, _, _ => by rw [Bool.eq_iff_iff]; simp [PyData.eqv]
  | _, _, .none, .none, _, _ => by simp [PyData.eqv]
  | n + 1, m + 1, .list xs, .list ys, h1, h2 => by
    have := plkAll_eqv n m xs ys (by simpa [plk] using h1) (by simpa [plk] using h2)
    simp [PyData.eqv, this]
  | n + 1, m + 1, .tuple xs, .tuple ys, h1, h2 => by
    have := plkAll_eqv n m xs ys (by simpa [plk] using h1) (by simpa [plk] using h2)
    simp [PyData.eqv, this]
  | 0, _, .list _, _, h1, _ => by simp [plk] at h1
  | 0, _, .tuple _, _, h1, _ => by simp [plk] at h1
  | _, 0, _, .list _, _, h2 => by simp [plk] at h2
  | _, 0, _, .tuple _, _, h2 => by simp [plk] at h2
  | 0, _, .bool _, _, h1, _ => by simp [plk] at h1
  | _ + 1, _, .bool _, _, h1, _ => by simp [plk] at h1
  | 0, _, .dict _, _, h1, _ => by simp [plk] at h1
  | _ + 1, _, .dict _, _, h1, _ => by simp [plk] at h1
  | _, 0, _, .bool _, _, h1 => by simp [plk] at h1
  | _, _ + 1, _, .bool _, _, h1 => by simp [plk] at h1
  | _, 0, _, .dict _, _, h1 => by simp [plk] at h1
  | _, _ + 1, _, .dict _, _, h1 => by simp [plk] at h1
  | _, _, .int _, .str _, _, _ => by simp [PyData.eqv]
  | _, _, .int _, .none, _, _ => by simp [PyData.eqv]
  | _, _ + 1, .int _, .list _, _, _ => by simp [PyData.eqv]
  | _, _ + 1, .int _, .tuple _, _, _ => by simp [PyData.eqv]
  | _, _, .str _, .int _, _, _ => by simp [PyData.eqv]
  | _, _, .str _, .none, _, _ => by simp [PyData.eqv]
  | _, _ + 1, .str _, .list _, _, _ => by simp [PyData.eqv]
  | _, _ + 1, .str _, .tuple _, _, _ => by simp [PyData.eqv]
  | _, _, .none, .int _, _, _ => by simp [PyData.eqv]
  | _, _, .none, .str _, _, _ => by simp [PyData.eqv]
  | _, _ + 1, .none, .list _, _, _ => by simp [PyData.eqv]
  | _, _ + 1, .none, .tuple _, _, _ => by simp [PyData.eqv]
  | _ + 1, _, .list _, .int _, _, _ => by simp [PyData.eqv]
  | _ + 1, _, .list _, .str _, _, _ => by simp [PyData.eqv]
  | _ + 1, _, .list _, .none, _, _ => by simp [PyData.eqv]
  | _ + 1, _ + 1, .list _, .tuple _, _, _ => by simp [PyData.eqv]
  | _ + 1, _, .tuple _, .int _, _, _ => by simp [PyData.eqv]
  | _ + 1, _, .tuple _, .str _, _, _ => by simp [PyData.eqv]
  | _ + 1, _, .tuple _, .none, _, _ => by simp [PyData.eqv]
  | _ + 1, _ + 1, .tuple _, .list _, _, _ => by simp [PyData.eqv]
theorem plkAll_eqv : ∀ (n m : Nat) (xs ys : List PyData), plkAll n xs = true → plkAll m ys = true → PyData.eqvAll xs ys = decide (xs = ys)
  | _, _, [], [], _, _ => by simp [PyData.eqvAll]
  | _, _, [], _ :: _, _, _ => by simp [PyData.eqvAll]
  | _, _, _ :: _, [], _, _ => by simp [PyData.eqvAll]
  | n, m, x :: xs, y :: ys, h1, h2 => by
    simp only [plkAll, Bool.and_eq_true] at h1 h2
    have a := plk_eqv n m x y h1.1 h2.1
    have b := plkAll_eqv n m xs ys h1.2 h2.2
    simp [PyData.eqvAll, a, b]
end
mutual
theorem plk_lay : ∀ (n : Nat) (x : PyData), plk n x = true → x.canLay0 = true ∧ x.depth ≤ n
  | _, .int _, _ => by simp [PyData.canLay0, PyData.depth]
  | _, .none, _ => by simp [PyData.canLay0, PyData.depth]
  | _, .str s, h => ⟨by simpa [plk, PyData.canLay0] using h, by simp [PyData.depth]⟩
  | n + 1, .list xs, h => by
    have := plkAll_lay n xs (by simpa [plk] using h)
    simp only [PyData.canLay0, PyData.depth]
    exact ⟨this.1, by omega⟩
  | n + 1, .tuple xs, h => by
    have := plkAll_lay n xs (by simpa [plk] using h)
    simp only [PyData.canLay0, PyData.depth]
    exact ⟨this.1, by omega⟩
  | 0, .list _, h1 => by simp [plk] at h1
  | 0, .tuple _, h1 => by simp [plk] at h1
  | 0, .bool _, h1 => by simp [plk] at h1
  | _ + 1, .bool _, h1 => by simp [plk] at h1
  | 0, .dict _, h1 => by simp [plk] at h1
  | _ + 1, .dict _, h1 => by simp [plk] at h1
theorem plkAll_lay : ∀ (n : Nat) (xs : List PyData), plkAll n xs = true → PyData.canLayAll0 xs = true ∧ PyData.depthAll xs ≤ n
  | _, [], _ => by simp [PyData.canLayAll0, PyData.depthAll]
  | n, x :: xs, h => by
    simp only [plkAll, Bool.and_eq_true] at h
    have a := plk_lay n x h.1
    have b := plkAll_lay n xs h.2
    simp only [PyData.canLayAll0, PyData.depthAll, Bool.and_eq_true]
    exact ⟨⟨a.1, b.1⟩, by omega⟩
end
def pl (x : PyData) : Prop := plk 60 x = true
theorem pl_shaped {x : PyData} (h : pl x) : SeqAt.shaped x = true := by
  have := plk_lay 60 x h
  unfold SeqAt.shaped
  rw [this.1]
  simp only [Bool.true_and]
  exact decide_eq_true (Nat.le_trans this.2 (by decide))
theorem eqD_pl {x y : T} {a b : PyData} (hx : x.toD = some a) (hy : y.toD = some b) (h1 : pl a) (h2 : pl b) : eqD x y = .ok (decide (a = b)) := by
  unfold eqD
  rw [hx, hy]
  dsimp only
  cases e : eqS a b with
  | some k =>
    dsimp only
    unfold eqS at e
    split at e <;> first | (cases e; simp) | cases e
  | none =>
    dsimp only
    rw [pl_shaped h1, pl_shaped h2, plk_eqv 60 60 a b h1 h2]
    rfl
theorem opEq_pl {x y : T} {a b : PyData} (hx : x.toD = some a) (hy : y.toD = some b) (h1 : pl a) (h2 : pl b) : opEq x y = .ok (.v (.d (.bool (decide (a = b))))) := by
  unfold opEq
  rw [eqD_pl hx hy h1 h2]
  rfl
theorem opNe_pl {x y : T} {a b : PyData} (hx : x.toD = some a) (hy : y.toD = some b) (h1 : pl a) (h2 : pl b) : opNe x y = .ok (.v (.d (.bool (!decide (a = b))))) := by
  unfold opNe
  rw [eqD_pl hx hy h1 h2]
  rfl
theorem plkAll_map {α : Type} {n : Nat} {f : α → PyData} {xs : List α} (h : ∀ x ∈ xs, plk n (f x) = true) : plkAll n (xs.map f) = true := by
  induction xs with
  | nil => rfl
  | cons x r ih =>
    simp only [List.map_cons, plkAll, Bool.and_eq_true]
    exact ⟨h x List.mem_cons_self, ih fun y hy => h y (List.mem_cons_of_mem _ hy)⟩

/-! ### sizes -/
theorem mulOk_bits {i j : Int} {a b : Nat} (ha : i.natAbs < 2 ^ a) (hb : j.natAbs < 2 ^ b) (h : a + b ≤ 900000) : mulOk i j = true := by
  refine mulOk_iff.mpr (CMulW.ok ?_)
  have h1 : i.natAbs.log2 ≤ a := by
    by_cases z : i.natAbs = 0
    · rw [z]; simp
    · exact Nat.le_of_lt ((Nat.log2_lt z).mpr ha)
  have h2 : j.natAbs.log2 ≤ b := by
    by_cases z : j.natAbs = 0
    · rw [z]; simp
    · exact Nat.le_of_lt ((Nat.log2_lt z).mpr hb)
  show i.natAbs.log2 + j.natAbs.log2 < 1000000
  omega
theorem bits64 {j : Int} (h : j.natAbs < 2 ^ 64) : Builtin.Int.intBits j ≤ 64 := by
  unfold Builtin.Int.intBits
  split
  · omega
  · rename_i z
    have : j.natAbs ≠ 0 := by
      intro e
      have : j = 0 := by omega
      simp [this] at z
    have := (Nat.log2_lt this).mpr h
    omega
theorem mulOk_r {i j : Int} (h : j.natAbs < 2 ^ 64) : mulOk i j = true := by
  unfold mulOk shortFactorBits
  have := bits64 h
  simp; omega
theorem mulOk_l {i j : Int} (h : i.natAbs < 2 ^ 64) : mulOk i j = true := by
  unfold mulOk shortFactorBits
  have := bits64 h
  simp; omega
theorem modOk_of {i j : Int} (h : j ≠ 0) : modOk i j = true := decide_eq_true h
theorem divOk_of {i j : Int} (h : j ≠ 0) (hb : j.natAbs < 2 ^ 9000) : divOk i j = true := by
  unfold divOk
  rw [decide_eq_true h, Bool.true_and]
  have h0 : j.natAbs ≠ 0 := by omega
  have := (Nat.log2_lt h0).mpr hb
  have e : Builtin.divisionGoesByPylong i j = false := PyProof.noPylong_of_log2 this
  rw [e]
  rfl
theorem powOk_of {i j : Int} (h0 : 0 ≤ j) (h1 : j ≤ 1000000) (h2 : i.natAbs < 2 ^ 64) : powOk i j = true := decide_eq_true ⟨h0, h1, h2⟩
end L3
namespace L3
open PySem
/-- a comprehension over data that changes no slot but its own -/
theorem lc1 {α : Type} {v : Nat} {me : MEx} {xs : List α} {enc out : α → PyData} {W ρ : L3.Env} (hlen : xs.length ≤ 10000) (hρ : ρ.set v none = W) (hW : W.set v none = W)
    (h : ∀ x ∈ xs, me (W.set v (some (T.d (enc x)))) = .ok (T.d (out x), W.set v (some (T.d (enc x))))) :
    ∃ ρ', mLcLoop (mgName v) mtYes me [v] (xs.map (T.d ∘ enc)) [] ρ = .ok (xs.map (T.d ∘ out), ρ') ∧ ρ'.set v none = W := by
  have key : ∀ (xs : List α) (acc : List T) (ρ : L3.Env), acc.length + xs.length ≤ 10000 → ρ.set v none = W → (∀ x ∈ xs, me (W.set v (some (T.d (enc x)))) = .ok (T.d (out x), W.set v (some (T.d (enc x))))) →
      ∃ ρ', mLcLoop (mgName v) mtYes me [v] (xs.map (T.d ∘ enc)) acc ρ = .ok (acc ++ xs.map (T.d ∘ out), ρ') ∧ ρ'.set v none = W := by
    intro xs
    induction xs with
    | nil => intro acc ρ _ hρ _; exact ⟨ρ, by simp, hρ⟩
    | cons x xs ih =>
      intro acc ρ hl hρ h
      have hl' : acc.length + (xs.length + 1) ≤ 10000 := by simpa using hl
      have hs : decide (acc.length < sLine) = true := decide_eq_true (by unfold sLine; omega)
      obtain ⟨ρ', e1, e2⟩ := ih (acc ++ [T.d (out x)]) (W.set v (some (T.d (enc x)))) (by simp; omega) (by rw [List.set_set]; exact hW) fun y hy => h y (List.mem_cons_of_mem _ hy)
      refine ⟨ρ', ?_, e2⟩
      rw [List.map_cons, e_lcC]
      have hw : wipeE ρ [v] = W := hρ
      rw [hw]
      simp only [Function.comp_apply, e_mgName, ofO_some, bind_okS, e_lcL1, e_mtYes, e_lcL2, if_true, hs, guard_t, h x List.mem_cons_self, e_lcL3]
      rw [e1]
      simp
  have := key xs [] ρ (by simpa using hlen) hρ h
  simpa using this
/-- the same with a test -/
theorem lc1f {α : Type} {v : Nat} {mt : MT} {me : MEx} {xs : List α} {enc out : α → PyData} {p : α → Bool} {W ρ : L3.Env} (hlen : xs.length ≤ 10000) (hρ : ρ.set v none = W) (hW : W.set v none = W)
    (ht : ∀ x ∈ xs, mt (W.set v (some (T.d (enc x)))) = .ok (p x, W.set v (some (T.d (enc x)))))
    (h : ∀ x ∈ xs, p x = true → me (W.set v (some (T.d (enc x)))) = .ok (T.d (out x), W.set v (some (T.d (enc x))))) :
    ∃ ρ', mLcLoop (mgName v) mt me [v] (xs.map (T.d ∘ enc)) [] ρ = .ok ((xs.filter p).map (T.d ∘ out), ρ') ∧ ρ'.set v none = W := by
  have key : ∀ (xs : List α) (acc : List T) (ρ : L3.Env), acc.length + xs.length ≤ 10000 → ρ.set v none = W → (∀ x ∈ xs, mt (W.set v (some (T.d (enc x)))) = .ok (p x, W.set v (some (T.d (enc x))))) → (∀ x ∈ xs, p x = true → me (W.set v (some (T.d (enc x)))) = .ok (T.d (out x), W.set v (some (T.d (enc x))))) →
      ∃ ρ', mLcLoop (mgName v) mt me [v] (xs.map (T.d ∘ enc)) acc ρ = .ok (acc ++ (xs.filter p).map (T.d ∘ out), ρ') ∧ ρ'.set v none = W := by
    intro xs
    induction xs with
    | nil => intro acc ρ _ hρ _ _; exact ⟨ρ, by simp, hρ⟩
    | cons x xs ih =>
      intro acc ρ hl hρ ht h
      have hl' : acc.length + (xs.length + 1) ≤ 10000 := by simpa using hl
      have hs : decide (acc.length < sLine) = true := decide_eq_true (by unfold sLine; omega)
      have hW2 : (W.set v (some (T.d (enc x)))).set v none = W := by rw [List.set_set]; exact hW
      have hw : wipeE ρ [v] = W := hρ
      rw [List.map_cons, e_lcC, hw]
      cases hp : p x with
      | true =>
        obtain ⟨ρ', e1, e2⟩ := ih (acc ++ [T.d (out x)]) (W.set v (some (T.d (enc x)))) (by simp; omega) hW2 (fun y hy => ht y (List.mem_cons_of_mem _ hy)) fun y hy => h y (List.mem_cons_of_mem _ hy)
        refine ⟨ρ', ?_, e2⟩
        simp only [Function.comp_apply, e_mgName, ofO_some, bind_okS, e_lcL1, ht x List.mem_cons_self, hp, e_lcL2, if_true, hs, guard_t, h x List.mem_cons_self hp, e_lcL3]
        rw [e1, List.filter_cons, if_pos hp]
        simp
      | false =>
        obtain ⟨ρ', e1, e2⟩ := ih acc (W.set v (some (T.d (enc x)))) (by omega) hW2 (fun y hy => ht y (List.mem_cons_of_mem _ hy)) fun y hy => h y (List.mem_cons_of_mem _ hy)
        refine ⟨ρ', ?_, e2⟩
        simp only [Function.comp_apply, e_mgName, ofO_some, bind_okS, e_lcL1, ht x List.mem_cons_self, hp, e_lcL2, Bool.false_eq_true, if_false]
        rw [e1, List.filter_cons, if_neg (by rw [hp]; decide)]
  have := key xs [] ρ (by simpa using hlen) hρ ht h
  simpa using this
end L3
/-! L3o -/
/-! L3o: fractions as data. -/
namespace L3
open PySem PySem.Spec PyProof.Rows L2

/-! ### fractions -/
def fr (q : Rat) : PyData := .tuple [.int q.num, .int q.den]
def frs (qs : List Rat) : PyData := .list (qs.map fr)
theorem fr_def {q : Rat} : fr q = .tuple [.int q.num, .int q.den] := rfl
theorem fr_inj {q r : Rat} (h : fr q = fr r) : q = r := by
  unfold fr at h
  injection h with h
  injection h with h1 h2
  injection h2 with h2 _
  injection h1 with h1
  injection h2 with h2
  exact Rat.ext h1 (by omega)
theorem fr_eq {q r : Rat} : fr q = fr r ↔ q = r := ⟨fr_inj, fun h => by rw [h]⟩
theorem map_fr_inj : ∀ {xs ys : List Rat}, xs.map fr = ys.map fr → xs = ys
  | [], [], _ => rfl
  | [], _ :: _, h => by simp at h
  | _ :: _, [], h => by simp at h
  | x :: xs, y :: ys, h => by
    simp only [List.map_cons, List.cons.injEq] at h
    rw [fr_inj h.1, map_fr_inj h.2]
theorem frs_eq {q r : List Rat} : frs q = frs r ↔ q = r := ⟨fun h => map_fr_inj (by unfold frs at h; injection h), fun h => by rw [h]⟩
@[simp] theorem plk_fr {n : Nat} {q : Rat} : plk (n + 1) (fr q) = true := by simp [fr, plk, plkAll]
@[simp] theorem plk_frs {n : Nat} {qs : List Rat} : plk (n + 2) (frs qs) = true := by
  simp only [frs, plk]
  exact plkAll_map fun x _ => plk_fr
theorem pl_fr {q : Rat} : pl (fr q) := plk_fr
theorem pl_frs {q : List Rat} : pl (frs q) := plk_frs
/-- the size of a fraction: bits of its top and bottom -/
def bl (n : Nat) : Nat := if n = 0 then 0 else n.log2 + 1
theorem bl_lt (n : Nat) : n < 2 ^ bl n := by
  unfold bl
  split
  · omega
  · exact Nat.lt_log2_self
theorem bl_le {n k : Nat} : bl n ≤ k ↔ n < 2 ^ k := by
  unfold bl
  split
  · rename_i h
    subst h
    simp [Nat.two_pow_pos]
  · rename_i h
    rw [← Nat.log2_lt h]
    omega
theorem bl_mono {m n : Nat} (h : m ≤ n) : bl m ≤ bl n := bl_le.mpr (Nat.lt_of_le_of_lt h (bl_lt n))
theorem bl_mul {m n : Nat} : bl (m * n) ≤ bl m + bl n := bl_le.mpr (by
  rw [Nat.pow_add]
  exact Nat.mul_lt_mul'' (bl_lt m) (bl_lt n))
theorem bl_add {m n : Nat} : bl (m + n) ≤ max (bl m) (bl n) + 1 := bl_le.mpr (by
  have h1 : m < 2 ^ max (bl m) (bl n) := Nat.lt_of_lt_of_le (bl_lt m) (Nat.pow_le_pow_right (by decide) (Nat.le_max_left _ _))
  have h2 : n < 2 ^ max (bl m) (bl n) := Nat.lt_of_lt_of_le (bl_lt n) (Nat.pow_le_pow_right (by decide) (Nat.le_max_right _ _))
  rw [Nat.pow_succ]
  omega)
def ib (i : Int) : Nat := bl i.natAbs
theorem ib_mul {i j : Int} : ib (i * j) ≤ ib i + ib j := by
  unfold ib
  rw [Int.natAbs_mul]
  exact bl_mul
theorem ib_add {i j : Int} : ib (i + j) ≤ max (ib i) (ib j) + 1 := Nat.le_trans (bl_mono (Int.natAbs_add_le i j)) bl_add
theorem ib_neg {i : Int} : ib (-i) = ib i := by unfold ib; rw [Int.natAbs_neg]
theorem ib_sub {i j : Int} : ib (i - j) ≤ max (ib i) (ib j) + 1 := by
  have := ib_add (i := i) (j := -j)
  rw [ib_neg] at this
  rwa [Int.sub_eq_add_neg]
theorem ib_nat {n : Nat} : ib (n : Int) = bl n := by unfold ib; rw [Int.natAbs_natCast]
theorem ib_le {i : Int} {k : Nat} : ib i ≤ k ↔ i.natAbs < 2 ^ k := bl_le
theorem mulOk_ib {i j : Int} (h : ib i + ib j ≤ 900000) : mulOk i j = true := mulOk_bits (bl_lt _) (bl_lt _) h
theorem divOk_ib {i j : Int} (h : j ≠ 0) (hb : ib j ≤ 9000) : divOk i j = true := divOk_of h (ib_le.mp hb)
def hq (q : Rat) : Nat := max (ib q.num) (bl q.den)
theorem hq_num (q : Rat) : ib q.num ≤ hq q := Nat.le_max_left _ _
theorem hq_den (q : Rat) : bl q.den ≤ hq q := Nat.le_max_right _ _
theorem hq_denI (q : Rat) : ib (q.den : Int) ≤ hq q := by rw [ib_nat]; exact hq_den q
theorem hq_le {q : Rat} {k : Nat} : hq q ≤ k ↔ ib q.num ≤ k ∧ bl q.den ≤ k := by unfold hq; omega
/-- top over bottom -/
theorem hq_divInt {t b : Int} {k : Nat} (h1 : ib t ≤ k) (h2 : ib b ≤ k) (hk : 1 ≤ k) : hq (Rat.divInt t b) ≤ k := by
  rw [hq_le, Rat.num_divInt, Rat.den_divInt]
  constructor
  · refine Nat.le_trans (bl_mono (Nat.le_trans (Int.natAbs_ediv_le_natAbs _ _) ?_)) h1
    rw [Int.natAbs_mul, Int.natAbs_sign]
    split <;> omega
  · split
    · unfold bl; simp; exact hk
    · exact Nat.le_trans (bl_mono (Nat.div_le_self _ _)) h2
theorem hq_pos (q : Rat) : 1 ≤ hq q := by
  have h := hq_den q
  have : bl q.den ≠ 0 := by
    unfold bl
    rw [if_neg q.den_nz]
    omega
  omega
theorem add_divInt (q r : Rat) : q + r = Rat.divInt (q.num * r.den + r.num * q.den) (q.den * r.den) := by
  rw [Rat.add_def', ← Rat.divInt_ofNat]
  simp
theorem sub_divInt (q r : Rat) : q - r = Rat.divInt (q.num * r.den - r.num * q.den) (q.den * r.den) := by
  rw [Rat.sub_def', ← Rat.divInt_ofNat]
  simp
theorem mul_divInt (q r : Rat) : q * r = Rat.divInt (q.num * r.num) (q.den * r.den) := by
  rw [Rat.mul_def', ← Rat.divInt_ofNat]
  simp
theorem div_divInt (q r : Rat) : q / r = Rat.divInt (q.num * r.den) (q.den * r.num) := by
  have h : q / r = Rat.divInt q.num q.den / Rat.divInt r.num r.den := by rw [Rat.num_divInt_den, Rat.num_divInt_den]
  rw [h, Rat.div_def, Rat.inv_divInt, Rat.divInt_mul_divInt]
theorem ib_cross {a b c d k m : Nat} {x y z u : Int} (h1 : ib x ≤ k) (h2 : ib y ≤ m) (h3 : ib z ≤ k) (h4 : ib u ≤ m) : ib (x * y + u * z) ≤ k + m + 1 := by
  have := ib_add (i := x * y) (j := u * z)
  have := ib_mul (i := x) (j := y)
  have := ib_mul (i := u) (j := z)
  omega
theorem hq_add (q r : Rat) : hq (q + r) ≤ hq q + hq r + 1 := by
  rw [add_divInt]
  have a := hq_num q
  have b := hq_num r
  have c := hq_denI q
  have d := hq_denI r
  have e := ib_add (i := q.num * r.den) (j := r.num * q.den)
  have f := ib_mul (i := q.num) (j := r.den)
  have g := ib_mul (i := r.num) (j := q.den)
  have h := ib_mul (i := (q.den : Int)) (j := r.den)
  exact hq_divInt (by omega) (by omega) (by omega)
theorem hq_sub (q r : Rat) : hq (q - r) ≤ hq q + hq r + 1 := by
  rw [sub_divInt]
  have a := hq_num q
  have b := hq_num r
  have c := hq_denI q
  have d := hq_denI r
  have e := ib_sub (i := q.num * r.den) (j := r.num * q.den)
  have f := ib_mul (i := q.num) (j := r.den)
  have g := ib_mul (i := r.num) (j := q.den)
  have h := ib_mul (i := (q.den : Int)) (j := r.den)
  exact hq_divInt (by omega) (by omega) (by omega)
theorem hq_mul (q r : Rat) : hq (q * r) ≤ hq q + hq r := by
  rw [mul_divInt]
  have a := hq_num q
  have b := hq_num r
  have c := hq_denI q
  have d := hq_denI r
  have g := ib_mul (i := q.num) (j := r.num)
  have h := ib_mul (i := (q.den : Int)) (j := r.den)
  have p := hq_pos q
  exact hq_divInt (by omega) (by omega) (by omega)
theorem hq_div (q r : Rat) : hq (q / r) ≤ hq q + hq r := by
  rw [div_divInt]
  have a := hq_num q
  have b := hq_num r
  have c := hq_denI q
  have d := hq_denI r
  have g := ib_mul (i := q.num) (j := r.den)
  have h := ib_mul (i := (q.den : Int)) (j := r.num)
  have p := hq_pos q
  exact hq_divInt (by omega) (by omega) (by omega)
theorem hq_neg (q : Rat) : hq (-q) = hq q := by
  unfold hq
  rw [Rat.neg_num, Rat.neg_den, ib_neg]
/-- the lowest terms, as they are reckoned -/
def lowM (t b : Int) : Int := if b < 0 then 0 - (Int.gcd t b : Int) else (Int.gcd t b : Int)
theorem lowM_ne {t b : Int} (hb : b ≠ 0) : lowM t b ≠ 0 := by
  have : Int.gcd t b ≠ 0 := by
    intro e
    exact hb (Int.gcd_eq_zero_iff.mp e).2
  unfold lowM
  split <;> omega
theorem lowM_ib {t b : Int} (hb : b ≠ 0) : ib (lowM t b) ≤ ib b := by
  have h1 : (lowM t b).natAbs = Int.gcd t b := by unfold lowM; split <;> omega
  unfold ib
  rw [h1]
  refine bl_mono (Nat.le_of_dvd (by omega) ?_)
  exact Int.gcd_dvd_natAbs_right t b
theorem lowM_num {t b : Int} (hb : b ≠ 0) : t.fdiv (lowM t b) = (Rat.divInt t b).num := by
  have hd : (Int.gcd t b : Int) ∣ t := Int.gcd_dvd_left t b
  rw [Rat.num_divInt, Int.gcd_comm b t]
  unfold lowM
  split
  · rename_i h
    rw [Int.sign_eq_neg_one_of_neg h, Int.zero_sub]
    rw [Int.fdiv_eq_ediv_of_dvd (by rw [Int.neg_dvd]; exact hd), Int.ediv_neg]
    rw [Int.neg_one_mul, Int.neg_ediv_of_dvd hd]
  · rename_i h
    rw [Int.sign_eq_one_of_pos (by omega), Int.one_mul, Int.fdiv_eq_ediv_of_dvd hd]
theorem lowM_den {t b : Int} (hb : b ≠ 0) : b.fdiv (lowM t b) = (Rat.divInt t b).den := by
  have hd : (Int.gcd t b : Int) ∣ b := Int.gcd_dvd_right t b
  rw [Rat.den_divInt, if_neg hb, Int.gcd_comm b t]
  unfold lowM
  split
  · rename_i h
    rw [Int.zero_sub, Int.fdiv_eq_ediv_of_dvd (by rw [Int.neg_dvd]; exact hd), Int.ediv_neg, ← Int.neg_ediv_of_dvd hd]
    have : -b = (b.natAbs : Int) := by omega
    rw [this]
    rfl
  · rename_i h
    rw [Int.fdiv_eq_ediv_of_dvd hd]
    have : b = (b.natAbs : Int) := by omega
    rw [this]
    simp
theorem fr_low {t b : Int} (hb : b ≠ 0) : PyData.tuple [.int (t.fdiv (lowM t b)), .int (b.fdiv (lowM t b))] = fr (Rat.divInt t b) := by
  rw [lowM_num hb, lowM_den hb]
  rfl
theorem gcd_fmod (a b : Int) : Int.gcd b (a.fmod b) = Int.gcd a b := by
  rw [Int.fmod_def, Int.gcd_sub_mul_left_right, Int.gcd_comm]
theorem fmod_abs (a b : Int) (h : b ≠ 0) : (a.fmod b).natAbs < b.natAbs := by
  rcases Int.lt_or_gt_of_ne h with z | z
  · have h1 := Int.fmod_nonneg_of_pos (-a) (b := -b) (by omega)
    have h2 := Int.fmod_lt_of_pos (-a) (b := -b) (by omega)
    rw [Int.neg_fmod_neg] at h1 h2
    omega
  · have h1 := Int.fmod_nonneg_of_pos a z
    have h2 := Int.fmod_lt_of_pos a z
    omega
/-! the bottoms' sizes alone -/
def dq (q : Rat) : Nat := bl q.den
theorem dq_hq (q : Rat) : dq q ≤ hq q := hq_den q
def Ok2 (q r : Rat) : Prop := dq q + dq r ≤ 9000 ∧ hq q + hq r ≤ 400000
def OkD (q r : Rat) : Prop := dq q + ib r.num ≤ 9000 ∧ hq q + hq r ≤ 400000
instance {q r : Rat} : Decidable (Ok2 q r) := by unfold Ok2; infer_instance
instance {q r : Rat} : Decidable (OkD q r) := by unfold OkD; infer_instance
theorem ok2_of {q r : Rat} (h : hq q + hq r ≤ 9000) : Ok2 q r := ⟨by have := dq_hq q; have := dq_hq r; omega, by omega⟩
theorem okD_of {q r : Rat} (h : hq q + hq r ≤ 9000) : OkD q r := ⟨by have := dq_hq q; have := hq_num r; omega, by omega⟩
theorem dq_divInt {t b : Int} : dq (Rat.divInt t b) ≤ max 1 (ib b) := by
  unfold dq
  rw [Rat.den_divInt]
  split
  · exact Nat.le_trans (show bl 1 ≤ 1 by decide) (Nat.le_max_left _ _)
  · exact Nat.le_trans (bl_mono (Nat.div_le_self _ _)) (Nat.le_max_right _ _)
theorem dq_pos (q : Rat) : 1 ≤ dq q := by
  unfold dq
  have : bl q.den ≠ 0 := by
    unfold bl
    rw [if_neg q.den_nz]
    omega
  omega
theorem dq_den (q : Rat) : ib (q.den : Int) = dq q := ib_nat
theorem dq_bot (q r : Rat) : ib ((q.den : Int) * r.den) ≤ dq q + dq r := by
  have := ib_mul (i := (q.den : Int)) (j := r.den)
  rw [dq_den, dq_den] at this
  exact this
theorem dq_add (q r : Rat) : dq (q + r) ≤ dq q + dq r := by
  rw [add_divInt]
  have := dq_divInt (t := q.num * r.den + r.num * q.den) (b := q.den * r.den)
  have := dq_bot q r
  have := dq_pos q
  omega
theorem dq_sub (q r : Rat) : dq (q - r) ≤ dq q + dq r := by
  rw [sub_divInt]
  have := dq_divInt (t := q.num * r.den - r.num * q.den) (b := q.den * r.den)
  have := dq_bot q r
  have := dq_pos q
  omega
theorem dq_mul (q r : Rat) : dq (q * r) ≤ dq q + dq r := by
  rw [mul_divInt]
  have := dq_divInt (t := q.num * r.num) (b := q.den * r.den)
  have := dq_bot q r
  have := dq_pos q
  omega
theorem dq_div (q r : Rat) : dq (q / r) ≤ dq q + ib r.num := by
  rw [div_divInt]
  have := dq_divInt (t := q.num * r.den) (b := q.den * r.num)
  have := ib_mul (i := (q.den : Int)) (j := r.num)
  rw [dq_den] at this
  have := dq_pos q
  omega
theorem dq_neg (q : Rat) : dq (-q) = dq q := by unfold dq; rw [Rat.neg_den]
end L3
/-! L3s -/
/-! L3s: dicts and objects that are owned: places in trees by keys and fields. -/
namespace L3
open PySem PySem.Spec PyProof.Rows L2

/-! ### keys -/
section
variable {κ : Type} [DecidableEq κ]
def kAt : List κ → κ → Option Nat
  | [], _ => none
  | x :: r, k => if x = k then some 0 else (kAt r k).map (· + 1)
theorem kAt_lt : ∀ {ks : List κ} {k : κ} {n : Nat}, kAt ks k = some n → ks[n]? = some k
  | [], k, n, h => by cases h
  | x :: r, k, n, h => by
    unfold kAt at h
    by_cases e : x = k
    · rw [if_pos e] at h; cases h; simp [e]
    · rw [if_neg e] at h
      obtain ⟨m, e1, e2⟩ := Option.map_eq_some_iff.mp h
      subst e2
      simpa using kAt_lt e1
theorem kAt_none : ∀ {ks : List κ} {k : κ}, kAt ks k = none → k ∉ ks
  | [], k, h => by simp
  | x :: r, k, h => by
    unfold kAt at h
    by_cases e : x = k
    · rw [if_pos e] at h; cases h
    · rw [if_neg e] at h
      simp at h
      simp [kAt_none h, Ne.symm e]
theorem valV_at : ∀ {kvs : List (κ × V)} {k : κ} {n : Nat}, kAt (kvs.map Prod.fst) k = some n → ∃ v, kvs[n]? = some (k, v) ∧ valV kvs k = some v
  | [], k, n, h => by cases h
  | p :: r, k, n, h => by
    unfold kAt at h
    simp only [List.map_cons] at h
    by_cases e : p.1 = k
    · rw [if_pos e] at h; cases h
      exact ⟨p.2, by simp [← e], valV_pos e⟩
    · rw [if_neg e] at h
      obtain ⟨m, e1, e2⟩ := Option.map_eq_some_iff.mp h
      subst e2
      obtain ⟨v, h1, h2⟩ := valV_at e1
      exact ⟨v, by simpa using h1, by rw [valV_neg e]; exact h2⟩
theorem valV_no : ∀ {kvs : List (κ × V)} {k : κ}, kAt (kvs.map Prod.fst) k = none → valV kvs k = none
  | [], k, h => rfl
  | p :: r, k, h => by
    unfold kAt at h
    simp only [List.map_cons] at h
    by_cases e : p.1 = k
    · rw [if_pos e] at h; cases h
    · rw [if_neg e] at h
      simp at h
      rw [valV_neg e]
      exact valV_no h
theorem repl_none {k : κ} {v : V} : ∀ {kvs : List (κ × V)}, k ∉ kvs.map Prod.fst → kvs.map (fun kv => if kv.1 = k then (kv.1, v) else kv) = kvs
  | [], h => rfl
  | p :: r, h => by
    simp only [List.map_cons, List.mem_cons, not_or] at h
    rw [List.map_cons, if_neg (Ne.symm h.1), repl_none h.2]
theorem repl_at : ∀ {kvs : List (κ × V)} {k : κ} {n : Nat} {v : V}, (kvs.map Prod.fst).Nodup → kAt (kvs.map Prod.fst) k = some n →
    (kvs.map (fun kv => if kv.1 = k then (kv.1, v) else kv)).map Prod.fst = kvs.map Prod.fst ∧ (kvs.map (fun kv => if kv.1 = k then (kv.1, v) else kv)).map Prod.snd = (kvs.map Prod.snd).set n v
  | [], k, n, v, d, h => by cases h
  | p :: r, k, n, v, d, h => by
    unfold kAt at h
    simp only [List.map_cons] at h d
    by_cases e : p.1 = k
    · rw [if_pos e] at h; cases h
      have hn : k ∉ r.map Prod.fst := by rw [← e]; exact (List.nodup_cons.mp d).1
      rw [List.map_cons, if_pos e, repl_none hn]
      exact ⟨rfl, rfl⟩
    · rw [if_neg e] at h
      obtain ⟨m, e1, e2⟩ := Option.map_eq_some_iff.mp h
      subst e2
      obtain ⟨h1, h2⟩ := repl_at (v := v) (List.nodup_cons.mp d).2 e1
      rw [List.map_cons, if_neg e]
      simp only [List.map_cons, List.set_cons_succ]
      rw [h1, h2]
      exact ⟨rfl, rfl⟩
theorem putK_at {kvs : List (κ × V)} {k : κ} {n : Nat} {v : V} (d : (kvs.map Prod.fst).Nodup) (h : kAt (kvs.map Prod.fst) k = some n) : (putK kvs k v).map Prod.fst = kvs.map Prod.fst ∧ (putK kvs k v).map Prod.snd = (kvs.map Prod.snd).set n v := by
  unfold putK
  obtain ⟨u, h1, h2⟩ := valV_at h
  rw [valV_any, h2]
  simp only [Option.isSome_some, if_true]
  exact repl_at d h
theorem drop_none {k : κ} : ∀ {kvs : List (κ × V)}, k ∉ kvs.map Prod.fst → dropK kvs k = kvs
  | [], h => rfl
  | p :: r, h => by
    simp only [List.map_cons, List.mem_cons, not_or] at h
    have : dropK (p :: r) k = p :: dropK r k := by
      unfold dropK
      rw [List.filter_cons, if_pos (by simp [Ne.symm h.1])]
    rw [this, drop_none h.2]
theorem dropK_at : ∀ {kvs : List (κ × V)} {k : κ} {n : Nat}, (kvs.map Prod.fst).Nodup → kAt (kvs.map Prod.fst) k = some n → dropK kvs k = kvs.eraseIdx n
  | [], k, n, d, h => by cases h
  | p :: r, k, n, d, h => by
    unfold kAt at h
    simp only [List.map_cons] at h d
    by_cases e : p.1 = k
    · rw [if_pos e] at h; cases h
      have hn : k ∉ r.map Prod.fst := by rw [← e]; exact (List.nodup_cons.mp d).1
      have : dropK (p :: r) k = dropK r k := by
        unfold dropK
        rw [List.filter_cons, if_neg (by simp [e])]
      rw [this, drop_none hn]
      rfl
    · rw [if_neg e] at h
      obtain ⟨m, e1, e2⟩ := Option.map_eq_some_iff.mp h
      subst e2
      have : dropK (p :: r) k = p :: dropK r k := by
        unfold dropK
        rw [List.filter_cons, if_pos (by simp [e])]
      rw [this, dropK_at (List.nodup_cons.mp d).2 e1]
      rfl
end
def PyData.key : PyData → Option Key
  | .int i => some (.inl i)
  | .str x => some (.inr x)
  | _ => none
def T.key : T → Option Key
  | .d x => PyData.key x
  | _ => none
def ofKey : Key → PyData
  | .inl i => .int i
  | .inr x => .str x
theorem key_rp {K : PySem.W.Frag} {F : Addr → Prop} {H : Hp} {v : V} {t : T} {A : List Addr} {k : Key} (h : Rp K F H v t A) (e : t.key = some k) : v = kV k := by
  cases h with
  | d h =>
    cases h with
    | int i => cases e; rfl
    | str x => cases e; rfl
    | _ => cases e
  | _ => cases e

/-! ### places -/
inductive PK where
  | ix (j : Int) | key (k : Key) | fld (f : Str)
def T.atK : List PK → T → Option T
  | [], t => some t
  | .ix j :: r, .ol ts => (atI ts j).bind (T.atK r)
  | .ix j :: r, .ot ts => (atI ts j).bind (T.atK r)
  | .key k :: r, .od ks ts => (kAt ks k).bind fun n => (ts[n]?).bind (T.atK r)
  | .fld f :: r, .ob _ fs ts => (kAt fs f).bind fun n => (ts[n]?).bind (T.atK r)
  | _ :: _, _ => none
def T.putK? : List PK → T → T → Option T
  | [], n, _ => some n
  | .ix j :: r, n, .ol ts => (ixN ts.length j).bind fun k => (ts[k]?).bind fun t => (T.putK? r n t).map fun t' => .ol (ts.set k t')
  | .ix j :: r, n, .ot ts => (ixN ts.length j).bind fun k => (ts[k]?).bind fun t => (T.putK? r n t).map fun t' => .ot (ts.set k t')
  | .key k :: r, n, .od ks ts => (kAt ks k).bind fun m => (ts[m]?).bind fun t => (T.putK? r n t).map fun t' => .od ks (ts.set m t')
  | .fld f :: r, n, .ob x fs ts => (kAt fs f).bind fun m => (ts[m]?).bind fun t => (T.putK? r n t).map fun t' => .ob x fs (ts.set m t')
  | _ :: _, _, _ => none
inductive LocK (H : Hp) : V → List PK → V → Prop
  | here (v : V) : LocK H v [] v
  | lst {a : Addr} {vs : List V} {j : Int} {js : List PK} {v u : V} : H a = some (.lst vs) → atI vs j = some v → LocK H v js u → LocK H (.ref a) (.ix j :: js) u
  | tup {a : Addr} {vs : List V} {j : Int} {js : List PK} {v u : V} : H a = some (.tup vs) → atI vs j = some v → LocK H v js u → LocK H (.ref a) (.ix j :: js) u
  | dic {a : Addr} {kvs : List (Key × V)} {k : Key} {js : List PK} {v u : V} : H a = some (.dK kvs) → valV kvs k = some v → LocK H v js u → LocK H (.ref a) (.key k :: js) u
  | ins {a C dx : Addr} {kvs : List (Str × V)} {f : Str} {js : List PK} {v u : V} : H a = some (.ins C dx kvs) → kvs.lookup f = some v → LocK H v js u → LocK H (.ref a) (.fld f :: js) u
theorem LocK.uniq {H : Hp} : ∀ {v : V} {p : List PK} {u u' : V}, LocK H v p u → LocK H v p u' → u = u'
  | _, _, _, _, .here _, .here _ => rfl
  | _, _, _, _, .lst h1 h2 h3, .lst g1 g2 g3 => by
    rw [h1] at g1; cases g1
    rw [h2] at g2; cases g2
    exact h3.uniq g3
  | _, _, _, _, .tup h1 h2 h3, .tup g1 g2 g3 => by
    rw [h1] at g1; cases g1
    rw [h2] at g2; cases g2
    exact h3.uniq g3
  | _, _, _, _, .lst h1 _ _, .tup g1 _ _ => by rw [h1] at g1; cases g1
  | _, _, _, _, .tup h1 _ _, .lst g1 _ _ => by rw [h1] at g1; cases g1
  | _, _, _, _, .dic h1 h2 h3, .dic g1 g2 g3 => by
    rw [h1] at g1; cases g1
    rw [h2] at g2; cases g2
    exact h3.uniq g3
  | _, _, _, _, .ins h1 h2 h3, .ins g1 g2 g3 => by
    rw [h1] at g1; cases g1
    rw [h2] at g2; cases g2
    exact h3.uniq g3
theorem LocK.grow {H H' : Hp} (s : Same H H') : ∀ {v : V} {p : List PK} {u : V}, LocK H v p u → LocK H' v p u
  | _, _, _, .here v => .here v
  | _, _, _, .lst h1 h2 h3 => .lst (s _ _ h1) h2 (h3.grow s)
  | _, _, _, .tup h1 h2 h3 => .tup (s _ _ h1) h2 (h3.grow s)
  | _, _, _, .dic h1 h2 h3 => .dic (s _ _ h1) h2 (h3.grow s)
  | _, _, _, .ins h1 h2 h3 => .ins (s _ _ h1) h2 (h3.grow s)
theorem LocK.snoc {H : Hp} : ∀ {v : V} {p : List PK} {u w : V} {j : PK}, LocK H v p u → LocK H u [j] w → LocK H v (p ++ [j]) w
  | _, _, _, _, _, .here v, k => k
  | _, _, _, _, _, .lst h1 h2 h3, k => .lst h1 h2 (h3.snoc k)
  | _, _, _, _, _, .tup h1 h2 h3, k => .tup h1 h2 (h3.snoc k)
  | _, _, _, _, _, .dic h1 h2 h3, k => .dic h1 h2 (h3.snoc k)
  | _, _, _, _, _, .ins h1 h2 h3, k => .ins h1 h2 (h3.snoc k)
theorem atK_snoc {j : PK} : ∀ {p : List PK} {t0 t : T}, T.atK (p ++ [j]) t0 = some t → ∃ t1, T.atK p t0 = some t1 ∧ T.atK [j] t1 = some t
  | [], t0, t, h => ⟨t0, rfl, h⟩
  | .ix i :: p, .ol ts, t, h => by
    obtain ⟨t2, e1, e2⟩ := Option.bind_eq_some_iff.mp (show (atI ts i).bind (T.atK (p ++ [j])) = some t from h)
    obtain ⟨t1, e3, e4⟩ := atK_snoc e2
    exact ⟨t1, by show (atI ts i).bind _ = _; rw [e1]; exact e3, e4⟩
  | .ix i :: p, .ot ts, t, h => by
    obtain ⟨t2, e1, e2⟩ := Option.bind_eq_some_iff.mp (show (atI ts i).bind (T.atK (p ++ [j])) = some t from h)
    obtain ⟨t1, e3, e4⟩ := atK_snoc e2
    exact ⟨t1, by show (atI ts i).bind _ = _; rw [e1]; exact e3, e4⟩
  | .key k :: p, .od ks ts, t, h => by
    obtain ⟨n, e0, h⟩ := Option.bind_eq_some_iff.mp (show (kAt ks k).bind (fun n => (ts[n]?).bind (T.atK (p ++ [j]))) = some t from h)
    obtain ⟨t2, e1, e2⟩ := Option.bind_eq_some_iff.mp h
    obtain ⟨t1, e3, e4⟩ := atK_snoc e2
    exact ⟨t1, by show (kAt ks k).bind (fun n => (ts[n]?).bind _) = _; rw [e0]; show (ts[n]?).bind _ = _; rw [e1]; exact e3, e4⟩
  | .fld k :: p, .ob x ks ts, t, h => by
    obtain ⟨n, e0, h⟩ := Option.bind_eq_some_iff.mp (show (kAt ks k).bind (fun n => (ts[n]?).bind (T.atK (p ++ [j]))) = some t from h)
    obtain ⟨t2, e1, e2⟩ := Option.bind_eq_some_iff.mp h
    obtain ⟨t1, e3, e4⟩ := atK_snoc e2
    exact ⟨t1, by show (kAt ks k).bind (fun n => (ts[n]?).bind _) = _; rw [e0]; show (ts[n]?).bind _ = _; rw [e1]; exact e3, e4⟩
  | .ix _ :: _, .d _, _, h => by cases h
  | .ix _ :: _, .od _ _, _, h => by cases h
  | .ix _ :: _, .ob _ _ _, _, h => by cases h
  | .ix _ :: _, .rd _, _, h => by cases h
  | .ix _ :: _, .ex _, _, h => by cases h
  | .key _ :: _, .d _, _, h => by cases h
  | .key _ :: _, .ol _, _, h => by cases h
  | .key _ :: _, .ot _, _, h => by cases h
  | .key _ :: _, .ob _ _ _, _, h => by cases h
  | .key _ :: _, .rd _, _, h => by cases h
  | .key _ :: _, .ex _, _, h => by cases h
  | .fld _ :: _, .d _, _, h => by cases h
  | .fld _ :: _, .ol _, _, h => by cases h
  | .fld _ :: _, .ot _, _, h => by cases h
  | .fld _ :: _, .od _ _, _, h => by cases h
  | .fld _ :: _, .rd _, _, h => by cases h
  | .fld _ :: _, .ex _, _, h => by cases h
theorem lookup_at : ∀ {kvs : List (Str × V)} {f : Str} {n : Nat}, kAt (kvs.map Prod.fst) f = some n → ∃ v, kvs[n]? = some (f, v) ∧ kvs.lookup f = some v
  | [], k, n, h => by cases h
  | p :: r, k, n, h => by
    unfold kAt at h
    simp only [List.map_cons] at h
    by_cases e : p.1 = k
    · rw [if_pos e] at h; cases h
      refine ⟨p.2, by simp [← e], ?_⟩
      obtain ⟨g, x⟩ := p
      have e : g = k := e
      subst e
      simp [List.lookup_cons]
    · rw [if_neg e] at h
      obtain ⟨m, e1, e2⟩ := Option.map_eq_some_iff.mp h
      subst e2
      obtain ⟨v, h1, h2⟩ := lookup_at e1
      refine ⟨v, by simpa using h1, ?_⟩
      obtain ⟨g, x⟩ := p
      have : (k == g) = false := by simp; exact Ne.symm e
      rw [List.lookup_cons, this]
      exact h2
theorem lookup_no : ∀ {kvs : List (Str × V)} {f : Str}, kAt (kvs.map Prod.fst) f = none → kvs.lookup f = none
  | [], k, h => rfl
  | p :: r, k, h => by
    unfold kAt at h
    simp only [List.map_cons] at h
    by_cases e : p.1 = k
    · rw [if_pos e] at h; cases h
    · rw [if_neg e] at h
      simp at h
      obtain ⟨g, x⟩ := p
      have : (k == g) = false := by simp; exact Ne.symm e
      rw [List.lookup_cons, this]
      exact lookup_no h
section
variable {K : PySem.W.Frag} {F F' : Addr → Prop} {H H' : Hp}
theorem Rp.locK : ∀ {p : List PK} {v0 : V} {t0 t : T} {A0 : List Addr}, Rp K F H v0 t0 A0 → T.atK p t0 = some t → ∃ (v : V) (A1 B : List Addr), LocK H v0 p v ∧ Rp K F H v t A1 ∧ (∀ a, A0.count a = A1.count a + B.count a) ∧
    ∀ {F' : Addr → Prop} {H' : Hp}, Mono F F' H H' → (∀ a ∈ B, H' a = H a) → ∀ {t' : T} {A2 : List Addr}, Rp K F' H' v t' A2 → ∃ t0' C, T.putK? p t' t0 = some t0' ∧ Rp K F' H' v0 t0' C ∧ ∀ a, C.count a = A2.count a + B.count a
  | [], v0, t0, t, A0, h, e => by
    cases e
    exact ⟨v0, A0, [], .here v0, h, fun a => by simp, fun m k t' A2 x => ⟨t', A2, rfl, x, fun a => by simp⟩⟩
  | .ix j :: js, _, .ol ts, t, _, .ol (a := a0) (vs := vs) (A := A1) h r, e => by
    obtain ⟨t1, e1, e2⟩ := Option.bind_eq_some_iff.mp (show (atI ts j).bind (T.atK js) = some t from e)
    obtain ⟨k, ek, ev⟩ := atI_ix e1
    obtain ⟨v1, A2, B2, g1, g2, g3, g4⟩ := r.around ev
    obtain ⟨v, A3, B3, l, x, hc, pt⟩ := Rp.locK g2 e2
    have lv : atI vs j = some v1 := by
      show (ixN vs.length j).bind (fun k => vs[k]?) = _
      rw [r.len, ek]; exact g1
    refine ⟨v, A3, a0 :: (B3 ++ B2), .lst h lv l, x, fun a => by rw [List.count_cons, List.count_cons, List.count_append, g3 a, hc a]; omega, fun {F' H'} m kk t' A4 y => ?_⟩
    have k2 : ∀ a ∈ B2, H' a = H a := fun a ha => kk a (List.mem_cons_of_mem _ (List.mem_append_right _ ha))
    have k3 : ∀ a ∈ B3, H' a = H a := fun a ha => kk a (List.mem_cons_of_mem _ (List.mem_append_left _ ha))
    obtain ⟨t1', C, q1, q2, q3⟩ := pt m k3 y
    obtain ⟨C2, s, q4⟩ := g4.put m k2 q2
    have es : vs.set k v1 = vs := set_self g1
    rw [es] at s
    refine ⟨.ol (ts.set k t1'), a0 :: C2, ?_, .ol ((kk a0 List.mem_cons_self).trans h) s, fun a => by rw [List.count_cons, List.count_cons, List.count_append, q4 a, q3 a]; omega⟩
    show (ixN ts.length j).bind _ = _
    rw [ek]
    show (ts[k]?).bind _ = _
    rw [ev]
    show (T.putK? js t' t1).map _ = _
    rw [q1]
    rfl
  | .ix j :: js, _, .ot ts, t, _, .ot (a := a0) (vs := vs) (A := A1) h r, e => by
    obtain ⟨t1, e1, e2⟩ := Option.bind_eq_some_iff.mp (show (atI ts j).bind (T.atK js) = some t from e)
    obtain ⟨k, ek, ev⟩ := atI_ix e1
    obtain ⟨v1, A2, B2, g1, g2, g3, g4⟩ := r.around ev
    obtain ⟨v, A3, B3, l, x, hc, pt⟩ := Rp.locK g2 e2
    have lv : atI vs j = some v1 := by
      show (ixN vs.length j).bind (fun k => vs[k]?) = _
      rw [r.len, ek]; exact g1
    refine ⟨v, A3, B3 ++ B2, .tup h lv l, x, fun a => by rw [List.count_append, g3 a, hc a]; omega, fun {F' H'} m kk t' A4 y => ?_⟩
    have k2 : ∀ a ∈ B2, H' a = H a := fun a ha => kk a (List.mem_append_right _ ha)
    have k3 : ∀ a ∈ B3, H' a = H a := fun a ha => kk a (List.mem_append_left _ ha)
    obtain ⟨t1', C, q1, q2, q3⟩ := pt m k3 y
    obtain ⟨C2, s, q4⟩ := g4.put m k2 q2
    have es : vs.set k v1 = vs := set_self g1
    rw [es] at s
    refine ⟨.ot (ts.set k t1'), C2, ?_, .ot (m.still _ _ h trivial) s, fun a => by rw [q4 a, q3 a, List.count_append]; omega⟩
    show (ixN ts.length j).bind _ = _
    rw [ek]
    show (ts[k]?).bind _ = _
    rw [ev]
    show (T.putK? js t' t1).map _ = _
    rw [q1]
    rfl
  | .key k :: js, _, .od ks ts, t, _, .od (a := a0) (kvs := kvs) (A := A1) h e0 dd r, e => by
    obtain ⟨n, en, e⟩ := Option.bind_eq_some_iff.mp (show (kAt ks k).bind (fun n => (ts[n]?).bind (T.atK js)) = some t from e)
    obtain ⟨t1, ev, e2⟩ := Option.bind_eq_some_iff.mp e
    obtain ⟨v1, A2, B2, g1, g2, g3, g4⟩ := r.around ev
    obtain ⟨v, A3, B3, l, x, hc, pt⟩ := Rp.locK g2 e2
    have lv : valV kvs k = some v1 := by
      obtain ⟨u, h1, h2⟩ := valV_at (kvs := kvs) (k := k) (n := n) (by rw [e0]; exact en)
      rw [List.getElem?_map, h1] at g1
      cases g1
      exact h2
    refine ⟨v, A3, a0 :: (B3 ++ B2), .dic h lv l, x, fun a => by rw [List.count_cons, List.count_cons, List.count_append, g3 a, hc a]; omega, fun {F' H'} m kk t' A4 y => ?_⟩
    have k2 : ∀ a ∈ B2, H' a = H a := fun a ha => kk a (List.mem_cons_of_mem _ (List.mem_append_right _ ha))
    have k3 : ∀ a ∈ B3, H' a = H a := fun a ha => kk a (List.mem_cons_of_mem _ (List.mem_append_left _ ha))
    obtain ⟨t1', C, q1, q2, q3⟩ := pt m k3 y
    obtain ⟨C2, s, q4⟩ := g4.put m k2 q2
    have es : (kvs.map Prod.snd).set n v1 = kvs.map Prod.snd := set_self g1
    rw [es] at s
    refine ⟨.od ks (ts.set n t1'), a0 :: C2, ?_, .od ((kk a0 List.mem_cons_self).trans h) e0 dd s, fun a => by rw [List.count_cons, List.count_cons, List.count_append, q4 a, q3 a]; omega⟩
    show (kAt ks k).bind _ = _
    rw [en]
    show (ts[n]?).bind _ = _
    rw [ev]
    show (T.putK? js t' t1).map _ = _
    rw [q1]
    rfl
  | .fld k :: js, _, .ob _ ks ts, t, _, .ob (a := a0) (x := xn) (kvs := kvs) (A := A1) h ec e0 r, e => by
    obtain ⟨n, en, e⟩ := Option.bind_eq_some_iff.mp (show (kAt ks k).bind (fun n => (ts[n]?).bind (T.atK js)) = some t from e)
    obtain ⟨t1, ev, e2⟩ := Option.bind_eq_some_iff.mp e
    obtain ⟨v1, A2, B2, g1, g2, g3, g4⟩ := r.around ev
    obtain ⟨v, A3, B3, l, x, hc, pt⟩ := Rp.locK g2 e2
    have lv : kvs.lookup k = some v1 := by
      obtain ⟨u, h1, h2⟩ := lookup_at (kvs := kvs) (f := k) (n := n) (by rw [e0]; exact en)
      rw [List.getElem?_map, h1] at g1
      cases g1
      exact h2
    refine ⟨v, A3, a0 :: (B3 ++ B2), .ins h lv l, x, fun a => by rw [List.count_cons, List.count_cons, List.count_append, g3 a, hc a]; omega, fun {F' H'} m kk t' A4 y => ?_⟩
    have k2 : ∀ a ∈ B2, H' a = H a := fun a ha => kk a (List.mem_cons_of_mem _ (List.mem_append_right _ ha))
    have k3 : ∀ a ∈ B3, H' a = H a := fun a ha => kk a (List.mem_cons_of_mem _ (List.mem_append_left _ ha))
    obtain ⟨t1', C, q1, q2, q3⟩ := pt m k3 y
    obtain ⟨C2, s, q4⟩ := g4.put m k2 q2
    have es : (kvs.map Prod.snd).set n v1 = kvs.map Prod.snd := set_self g1
    rw [es] at s
    refine ⟨.ob xn ks (ts.set n t1'), a0 :: C2, ?_, .ob ((kk a0 List.mem_cons_self).trans h) ec e0 s, fun a => by rw [List.count_cons, List.count_cons, List.count_append, q4 a, q3 a]; omega⟩
    show (kAt ks k).bind _ = _
    rw [en]
    show (ts[n]?).bind _ = _
    rw [ev]
    show (T.putK? js t' t1).map _ = _
    rw [q1]
    rfl
  | .ix _ :: _, _, .d _, _, _, _, e => by cases e
  | .ix _ :: _, _, .od _ _, _, _, _, e => by cases e
  | .ix _ :: _, _, .ob _ _ _, _, _, _, e => by cases e
  | .ix _ :: _, _, .rd _, _, _, _, e => by cases e
  | .ix _ :: _, _, .ex _, _, _, _, e => by cases e
  | .key _ :: _, _, .d _, _, _, _, e => by cases e
  | .key _ :: _, _, .ol _, _, _, _, e => by cases e
  | .key _ :: _, _, .ot _, _, _, _, e => by cases e
  | .key _ :: _, _, .ob _ _ _, _, _, _, e => by cases e
  | .key _ :: _, _, .rd _, _, _, _, e => by cases e
  | .key _ :: _, _, .ex _, _, _, _, e => by cases e
  | .fld _ :: _, _, .d _, _, _, _, e => by cases e
  | .fld _ :: _, _, .ol _, _, _, _, e => by cases e
  | .fld _ :: _, _, .ot _, _, _, _, e => by cases e
  | .fld _ :: _, _, .od _ _, _, _, _, e => by cases e
  | .fld _ :: _, _, .rd _, _, _, _, e => by cases e
  | .fld _ :: _, _, .ex _, _, _, _, e => by cases e
end
end L3
/-! L3t -/
/-! L3t: changes in dicts and objects that are owned. -/
namespace L3
open PySem PySem.Spec PyProof.Rows L2

/-! ### views -/
def opKey (x y : T) : R RV := match x, y.key with
  | .od ks ts, some k => (ofO ((kAt ks k).bind fun n => ts[n]?)).bind fun t => .ok (.v t)
  | _, _ => .bad
abbrev rKey : R2 := fun x y H Q => ∃ a v, x = .ref a ∧ DGet H a y (some v) ∧ Q v H
theorem opKey_v {K : PySem.W.Frag} : OpV K rKey opKey := by
  intro F H v u x y A B hx hy Q q
  unfold opKey at q
  split at q
  · rename_i ks ts k hk
    obtain ⟨t, e, q⟩ := then_ofO.mp (then_bind.mp q)
    obtain ⟨n, e1, e2⟩ := Option.bind_eq_some_iff.mp e
    cases hx with
    | @od a kvs _ _ A1 h e0 dd r =>
      obtain ⟨w, A2, B2, g1, g2, g3, _⟩ := r.around e2
      obtain ⟨u', h1, h2⟩ := valV_at (kvs := kvs) (k := k) (n := n) (by rw [e0]; exact e1)
      rw [List.getElem?_map, h1] at g1
      cases g1
      refine ⟨a, u', rfl, ?_, q u' A2 g2 fun b => by have := g3 b; rw [List.count_append, List.count_cons]; omega⟩
      rw [key_rp hy hk]
      have := DGet.k (k := k) h
      rwa [h2] at this
  · exact q.elim
theorem opKey_nox : NoX opKey := by
  intro x y c
  unfold opKey
  split
  · exact bind_noexc (fun _ => ofO_noexc _) (by intro _ _ z; cases z) c
  · intro z; cases z
def opFld (f : Str) : T → R RV
  | .ob _ fs ts => (ofO ((kAt fs f).bind fun n => ts[n]?)).bind fun t => .ok (.v t)
  | _ => .bad
abbrev rFld (K : PySem.W.Frag) (f : Str) : V → Hp → VK → Prop := fun x H Q => ∃ a C dx fs v, x = .ref a ∧ H a = some (.ins C dx fs) ∧ Cls K C ∧ NoAttr K C f ∧ fs.lookup f = some v ∧ Q v H
/-- classes whose objects are plain, and without the attribute -/
def PlainC (K : PySem.W.Frag) (x : Str) (f : Str) : Prop := ∀ C, clK K x = some C → Cls K C ∧ NoAttr K C f
def opFldC (x f : Str) : T → R RV
  | .ob y fs ts => guard (decide (x = y)) ((ofO ((kAt fs f).bind fun n => ts[n]?)).bind fun t => .ok (.v t))
  | _ => .bad
theorem opFld_v {K : PySem.W.Frag} {x f : Str} (hp : PlainC K x f) : UnV K (rFld K f) (opFldC x f) := by
  intro F H v t A hx Q q
  unfold opFldC at q
  split at q
  · rename_i y fs ts
    obtain ⟨g, q1⟩ := then_guard.mp q
    have g := of_decide_eq_true g
    subst g
    obtain ⟨t, e, q2⟩ := then_ofO.mp (then_bind.mp q1)
    obtain ⟨n, e1, e2⟩ := Option.bind_eq_some_iff.mp e
    cases hx with
    | @ob a C dx _ kvs _ _ A1 h ec e0 r =>
      obtain ⟨w, A2, B2, g1, g2, g3, _⟩ := r.around e2
      obtain ⟨u', h1, h2⟩ := lookup_at (kvs := kvs) (f := f) (n := n) (by rw [e0]; exact e1)
      rw [List.getElem?_map, h1] at g1
      cases g1
      obtain ⟨c1, c2⟩ := hp _ ec
      exact ⟨a, C, dx, kvs, u', rfl, h, c1, c2, h2, q2 u' A2 g2 fun b => by have := g3 b; rw [List.count_cons]; omega⟩
  · exact q.elim
section
variable {X : Cx} {E : Str → Hp → Prop} {e a b : Expr} {te ta tb : TE} {m ma mb : MP} {pos : Pos}
theorem qp_key (hu : X.A.units + 1 < cLine) (ha : QP X a ta ma) (hb : QP X b tb mb) (hs : NoSl b := by exact fun _ _ => rfl) : QP X (.Subscript a b pos) (tOp rKey ta tb) (pBin opKey ma mb) := ⟨pe_dget hu ha.pe hb.pe hs, sim_pbin opKey_v ha.sim hb.sim⟩
theorem qp_fld {x f : Str} (hp : PlainC X.K x f) (ha : QP X a ta ma) (hb : attributeBase a f X.env (eval a X.env) = eval a X.env := by rfl) : QP X (.Attribute a f pos) (tUn (rFld X.K f) ta) (pUn (opFldC x f) ma) := ⟨pe_fld ha.pe hb, sim_pun (opFld_v hp) ha.sim⟩
end

/-! ### places -/
abbrev MLK := Env → Option (List PK)
def SimLK (K : PySem.W.Frag) (i : Nat) (te : TE) (mp : MLK) : Prop :=
  ∀ (c : C0) (H : Hp) (tv : List (Option V)) (td : Env) (σ : L2.St) (ρ : Env) (A : List Addr) (p : List PK) (t0 t : T), tv.length = td.length → StW K c H (tv ++ σ) (td ++ ρ) A → mp ρ = some p → ρ[i]? = some (some t0) → T.atK p t0 = some t → ∀ Q : VK,
    (∀ v0 v, σ[i]? = some (some v0) → LocK H v0 p v → Q v H) → te σ H Q
structure QLK (X : Cx) (i : Nat) (e : Expr) (te : TE) (mp : MLK) : Prop where
  pe : PE X e te
  sim : SimLK X.K i te mp
def kHere : MLK := fun _ => some []
def kIx (mp : MLK) (mi : MP) : MLK := fun ρ => (mp ρ).bind fun p => ((mi ρ).bind T.int?).bind fun j => some (p ++ [.ix j])
def kKey (mp : MLK) (mi : MP) : MLK := fun ρ => (mp ρ).bind fun p => ((mi ρ).bind T.key).bind fun j => some (p ++ [.key j])
def kFld (mp : MLK) (f : Str) : MLK := fun ρ => (mp ρ).bind fun p => some (p ++ [.fld f])
section
variable {X : Cx} {E : Str → Hp → Prop} {a b : Expr} {ta tb : TE} {pos : Pos}
theorem qk_name (i : Nat) {x : Str} {pos : Pos} (hN : X.N[i]? = some x := by rfl) (hv : Vis X.env.scope x := by first | exact Or.inl rfl | exact Or.inr (Or.inl rfl) | exact Or.inr (Or.inr rfl)) (hd : (x == ("__debug__" : Str)) = false := by decide)
    (hcd : (x == ("__classdict__" : Str)) = false := by decide) : QLK X i (.Name x pos) (tVar i) kHere := ⟨pe_var hN hv hd hcd, fun c H tv td σ ρ A p t0 t hl w e1 e2 e3 Q q => by
  cases e1
  obtain ⟨v, A1, e4, _, _⟩ := w.see hl e2
  exact ⟨v, e4, q v v e4 (.here v)⟩⟩
/-- a part of a part -/
theorem locK_step {K : PySem.W.Frag} {c : C0} {H : Hp} {tv : List (Option V)} {td : Env} {σ : L2.St} {ρ : Env} {A : List Addr} {i : Nat} {p0 : List PK} {j : PK} {t0 t : T} (hl : tv.length = td.length) (w : StW K c H (tv ++ σ) (td ++ ρ) A) (e2 : ρ[i]? = some (some t0)) (e3 : T.atK (p0 ++ [j]) t0 = some t) :
    ∃ t1, T.atK p0 t0 = some t1 ∧ ∀ v0 v1, σ[i]? = some (some v0) → LocK H v0 p0 v1 → ∃ v2 A1, LocK H v1 [j] v2 ∧ LocK H v0 (p0 ++ [j]) v2 ∧ Rp K (Fok c A) H v1 t1 A1 := by
  obtain ⟨t1, e8, e9⟩ := atK_snoc e3
  refine ⟨t1, e8, fun v0 v1 ev0 l1 => ?_⟩
  obtain ⟨v0', A0, ev0', r0, _⟩ := w.see hl e2
  rw [ev0] at ev0'; cases ev0'
  obtain ⟨v1', A1, B1, l1', r1, _, _⟩ := r0.locK e8
  have := l1.uniq l1'
  subst this
  obtain ⟨v2, A2, B2, l2, _, _, _⟩ := r1.locK e9
  exact ⟨v2, A1, l2, l1.snoc l2, r1⟩
theorem qk_ix {i : Nat} {mp : MLK} {mi : MP} (ha : QLK X i a ta mp) (hb : QP X b tb mi) (hs : PlainIx b := by exact fun _ _ => rfl) : QLK X i (.Subscript a b pos) (tOp (rIx X.K) ta tb) (kIx mp mi) := by
  refine ⟨pe_ix ix_seq ha.pe hb.pe hs, fun c H tv td σ ρ A p t0 t hl w e1 e2 e3 Q q => ?_⟩
  unfold kIx at e1
  obtain ⟨p0, e4, e5⟩ := Option.bind_eq_some_iff.mp e1
  obtain ⟨j, e6', e7⟩ := Option.bind_eq_some_iff.mp e5
  obtain ⟨tj, e6, e60⟩ := Option.bind_eq_some_iff.mp e6'
  cases e7
  cases int?_eq e60
  obtain ⟨t1, e8, st⟩ := locK_step hl w e2 e3
  refine ha.sim c H tv td σ ρ A p0 t0 t1 hl w e4 e2 e8 _ fun v0 v1 ev0 l1 => ?_
  obtain ⟨v2, A1, l2, l3, _⟩ := st v0 v1 ev0 l1
  refine hb.sim c H tv td σ ρ A _ hl w e6 _ fun u A3 r3 _ => ?_
  have eu := r3.i
  cases l2 with
  | lst h1 h2 h3 => cases h3; exact .inl ⟨_, _, j, v2, rfl, eu, .of h1, h2, q v0 v2 ev0 l3⟩
  | tup h1 h2 h3 => cases h3; exact .inr (.inl ⟨_, _, j, v2, rfl, eu, .of h1, h2, q v0 v2 ev0 l3⟩)
theorem qk_key {i : Nat} {mp : MLK} {mi : MP} (hu : X.A.units + 1 < cLine) (ha : QLK X i a ta mp) (hb : QP X b tb mi) (hs : NoSl b := by exact fun _ _ => rfl) : QLK X i (.Subscript a b pos) (tOp rKey ta tb) (kKey mp mi) := by
  refine ⟨pe_dget hu ha.pe hb.pe hs, fun c H tv td σ ρ A p t0 t hl w e1 e2 e3 Q q => ?_⟩
  unfold kKey at e1
  obtain ⟨p0, e4, e5⟩ := Option.bind_eq_some_iff.mp e1
  obtain ⟨j, e6', e7⟩ := Option.bind_eq_some_iff.mp e5
  obtain ⟨tj, e6, e60⟩ := Option.bind_eq_some_iff.mp e6'
  cases e7
  obtain ⟨t1, e8, st⟩ := locK_step hl w e2 e3
  refine ha.sim c H tv td σ ρ A p0 t0 t1 hl w e4 e2 e8 _ fun v0 v1 ev0 l1 => ?_
  obtain ⟨v2, A1, l2, l3, _⟩ := st v0 v1 ev0 l1
  refine hb.sim c H tv td σ ρ A _ hl w e6 _ fun u A3 r3 _ => ?_
  have eu := key_rp r3 e60
  cases l2 with
  | dic h1 h2 h3 =>
    cases h3
    refine ⟨_, v2, rfl, ?_, q v0 v2 ev0 l3⟩
    rw [eu]
    have := DGet.k (k := j) h1
    rwa [h2] at this
theorem qk_fld {i : Nat} {mp : MLK} {x f : Str} (hp : PlainC X.K x f) (hx : ∀ ρ p t0 t, mp ρ = some p → T.atK p t0 = some t → ∀ fs ts, t = .ob x fs ts ∨ True) (ha : QLK X i a ta mp) (hb : attributeBase a f X.env (eval a X.env) = eval a X.env := by rfl) : True := trivial
end

/-! ### the heart: a thing that lies in slot i at p is changed -/
def putAtK (i : Nat) (p : List PK) (tc : T) (ρ : Env) : Option Env := match ρ[i]? with
  | some (some t) => (T.putK? p tc t).map fun t' => ρ.set i (some t')
  | _ => none
def atKo (p : List PK) (o : Option (Option T)) : Option T := match o with
  | some (some t) => T.atK p t
  | _ => none
theorem atKo_some {p : List PK} {o : Option (Option T)} {tc : T} (h : atKo p o = some tc) : ∃ t, o = some (some t) ∧ T.atK p t = some tc := by
  unfold atKo at h
  split at h
  · exact ⟨_, rfl, h⟩
  · cases h
theorem StW.writeG {K : PySem.W.Frag} {c : C0} {H : Hp} {tv : List (Option V)} {td : Env} {σ : L2.St} {ρ : Env} {A Aa B : List Addr} (hl : tv.length = td.length) (u : ∀ a, A.count a ≤ 1) (ow : ∀ a ∈ A, a ∈ c.A0 ∨ c.H0 a = none) (k : KeepC c H) (hc : ∀ a, Aa.count a + B.count a ≤ A.count a)
    (s : Sl K (Fok c A) H (tv ++ σ) (td ++ ρ) B) {i : Nat} {p : List PK} {t0 tc : T} (e0 : ρ[i]? = some (some t0)) (e1 : T.atK p t0 = some tc) :
    ∃ (v0 v : V) (Al : List Addr), σ[i]? = some (some v0) ∧ LocK H v0 p v ∧ Rp K (Fok c A) H v tc Al ∧
      ∀ (a : Addr) (o' : HO) (A1 : List Addr), v = .ref a → (∀ b, Al.count b = (a :: A1).count b) → ∀ (res : V) (tr tc' : T) (C1 C2 : List Addr) (ρ' : Env), Rp K (Fok c A) H res tr C1 →
        (∀ {F' : Addr → Prop} {H' : Hp}, Mono (Fok c A) F' H H' → (∀ b ∈ C2, H' b = H b) → H' a = some o' → Rp K F' H' (.ref a) tc' (a :: C2)) → (∀ b, C1.count b + C2.count b ≤ A1.count b + Aa.count b) → putAtK i p tc' ρ = some ρ' →
        StR K c (upd H a o') (some res :: (tv ++ σ)) (some tr :: (td ++ ρ')) := by
  have hlen := s.len
  have hi : i < ρ.length := (List.getElem?_eq_some_iff.mp e0).1
  obtain ⟨B1, hb, ar, get⟩ := s.around (i := tv.length + i) (by rw [hlen, List.length_append]; omega)
  obtain ⟨v0, A0, e3, x, hc1⟩ := get t0 (by rw [app_at hl.symm, e0])
  rw [app_at rfl] at e3
  obtain ⟨v, Al, Bl, l, xl, hc2, pt⟩ := x.locK e1
  refine ⟨v0, v, Al, e3, l, xl, fun a o' A1 ev hal res tr tc' C1 C2 ρ' xr xs hC ep => ?_⟩
  subst ev
  have cc : ∀ b, Al.count b = A1.count b + (if a = b then 1 else 0) := fun b => by
    rw [hal, List.count_cons]
    by_cases e : a = b
    · simp [e]
    · simp [e]
  have tot : ∀ b, A1.count b + (if a = b then 1 else 0) + Bl.count b + B1.count b + Aa.count b ≤ A.count b := fun b => by
    have h1 := hc b
    have h2 := hc1 b
    have h3 := hc2 b
    have h4 := cc b
    omega
  have aA : a ∈ A := List.count_pos_iff.mp (by have := tot a; rw [if_pos rfl] at this; omega)
  obtain ⟨u0, ha, nst⟩ := xl.own a (List.count_pos_iff.mp (by have := cc a; rw [if_pos rfl] at this; omega))
  have ne : ∀ {C : List Addr}, (∀ b, C.count b + (if a = b then 1 else 0) ≤ A.count b) → ∀ b ∈ C, b ≠ a := fun {C} h b hb e => by
    subst e
    have h1 := h b
    have h2 := u b
    have h3 := List.count_pos_iff.mpr hb
    rw [if_pos rfl] at h1
    omega
  let H2 := upd H a o'
  have mo : Mono (Fok c A) (Fok c A) H H2 := ⟨fun b ws e f => ⟨by show upd H a _ b = _; rw [upd_ne (fun z => f.2 (by rw [z]; exact aA))]; exact e, f⟩, fun b uu e st => by
    show upd H a _ b = _
    rw [upd_ne (fun z => by rw [z, ha] at e; cases e; exact nst st)]
    exact e⟩
  have eqs : ∀ {C : List Addr}, (∀ b ∈ C, b ≠ a) → ∀ b ∈ C, H2 b = H b := fun h b hb => upd_ne (h b hb)
  have nC1 : ∀ b ∈ C1, b ≠ a := ne fun b => by have := hC b; have := tot b; omega
  have nC2 : ∀ b ∈ C2, b ≠ a := ne fun b => by have := hC b; have := tot b; omega
  have nBl : ∀ b ∈ Bl, b ≠ a := ne fun b => by have := tot b; omega
  have nB1 : ∀ b ∈ B1, b ≠ a := ne fun b => by have := tot b; omega
  obtain ⟨t0', C3, q1, q2, q3⟩ := pt mo (eqs nBl) (t' := tc') (A2 := a :: C2) (xs mo (eqs nC2) upd_same)
  obtain ⟨C4, s4, q4⟩ := ar.put mo (eqs nB1) q2
  rw [app_set rfl, set_self e3, app_set hl.symm] at s4
  have er : ρ' = ρ.set i (some t0') := by
    unfold putAtK at ep
    rw [e0] at ep
    dsimp only at ep
    rw [q1] at ep
    cases ep
    rfl
  subst er
  have fin : ∀ b, (C1 ++ C4).count b ≤ A.count b := fun b => by
    have h1 := q4 b
    have h2 := q3 b
    have h3 := hC b
    have h4 := tot b
    rw [List.count_append]
    rw [List.count_cons] at h2
    by_cases e : a = b
    · simp [e] at h2 h4; omega
    · simp [e] at h2 h4; omega
  refine ⟨C1 ++ C4, fun b => Nat.le_trans (fin b) (u b), ?_, fun b hb => ow b (List.count_pos_iff.mp (Nat.lt_of_lt_of_le (List.count_pos_iff.mpr hb) (fin b))), ⟨fun b o e n => ?_, fun b e => ?_⟩⟩
  · exact (Sl.cons (xr.mono mo (eqs nC1)) s4).mono (.sub fun b _ => Fok.sub fin b) fun _ _ => rfl
  · rw [upd_ne]
    · exact k.keep b o e n
    · intro z
      subst z
      rcases ow b aA with y | y
      · exact n y
      · rw [e] at y; cases y
  · by_cases z : b = a
    · subst z
      rw [upd_same] at e; cases e
    · rw [upd_ne z] at e
      exact k.there b e

/-! ### d[k] = e -/
def putT (ks : List Key) (ts : List T) (k : Key) (t : T) : List Key × List T := match kAt ks k with
  | some n => (ks, ts.set n t)
  | none => (ks ++ [k], ts ++ [t])
def mKeySet (i : Nat) (mp : MLK) (mk : MP) (me : MEx) : MS := fun ρ => (me ρ).bind fun r => (ofO (mp r.2)).bind fun p => (ofO ((mk r.2).bind T.key)).bind fun k => (ofO (atKo p r.2[i]?)).bind fun tc => match tc with
  | .od ks ts => guard (decide (ks.length < sLine)) ((ofO (putAtK i p (.od (putT ks ts k r.1).1 (putT ks ts k r.1).2) r.2)).bind fun ρ' => .ok (.next ρ'))
  | _ => .bad
theorem RpAll.snoc2 {K : PySem.W.Frag} {F : Addr → Prop} {H : Hp} {vs : List V} {ts : List T} {A B : List Addr} {v : V} {t : T} (r : RpAll K F H vs ts A) (x : Rp K F H v t B) : ∃ C, RpAll K F H (vs ++ [v]) (ts ++ [t]) C ∧ ∀ a, C.count a ≤ A.count a + B.count a := by
  obtain ⟨C, s, z⟩ := r.append (.cons x .nil)
  exact ⟨C, s, fun a => by rw [z a]; simp⟩
theorem put_od {K : PySem.W.Frag} {F : Addr → Prop} {H : Hp} {a : Addr} {kvs : List (Key × V)} {ks : List Key} {ts : List T} {A1 Aa : List Addr} {k : Key} {v : V} {t : T} (e0 : kvs.map Prod.fst = ks) (dd : ks.Nodup) (r : RpAll K F H (kvs.map Prod.snd) ts A1) (x : Rp K F H v t Aa) :
    ∃ C2, (∀ b, C2.count b ≤ A1.count b + Aa.count b) ∧ ∀ {F' : Addr → Prop} {H' : Hp}, Mono F F' H H' → (∀ b ∈ C2, H' b = H b) → H' a = some (.dK (putK kvs k v)) → Rp K F' H' (.ref a) (.od (putT ks ts k t).1 (putT ks ts k t).2) (a :: C2) := by
  unfold putT
  cases e : kAt ks k with
  | some n =>
    have hn : n < ts.length := by
      have h1 := kAt_lt e
      have h2 := (List.getElem?_eq_some_iff.mp h1).1
      have h3 := r.len
      rw [← e0] at h2
      simp at h2 h3
      omega
    obtain ⟨C, s, z⟩ := r.setk n hn x
    obtain ⟨g1, g2⟩ := putK_at (v := v) (by rw [e0]; exact dd) (by rw [e0]; exact e)
    refine ⟨C, fun b => z b, fun m hk ha => .od ha (g1.trans e0) dd ?_⟩
    rw [g2]
    exact s.mono m hk
  | none =>
    obtain ⟨C, s, z⟩ := r.snoc2 x
    have hv : valV kvs k = none := valV_no (by rw [e0]; exact e)
    refine ⟨C, fun b => z b, fun m hk ha => .od ha (ks := ks ++ [k]) (ts := ts ++ [t]) ?_ ?_ ?_⟩
    · rw [putK_new v hv, List.map_append, e0]; rfl
    · rw [List.nodup_append]
      exact ⟨dd, by simp, fun x hx y hy z => kAt_none e (by simp at hy; rw [← hy, ← z]; exact hx)⟩
    · rw [putK_new v hv, List.map_append]
      exact s.mono m hk
section
variable {X : Cx} {E : Str → Hp → Prop} {io : List Nat} {o k value : Expr} {to tk tv' : TE} {pos pos' : Pos}
theorem qs_keySet {i : Nat} {mp : MLK} {mk : MP} {me : MEx} {g : Bool} (hu : X.A.units + 1 < cLine) (ho : QLK X i o to mp) (hk : QP X k tk mk) (hv : QE X E g value tv' me) (hs : swapsWith value (some (.Subscript o k pos')) pos.line X.env = pure false := by rfl) :
    QS X E io (.Assign [.Subscript o k pos'] value pos) (sDPut to tk tv') (mKeySet i mp mk me) := by
  refine ⟨ps_dput hu ho.pe hk.pe hv.pe hs, fun c H tv td σ ρ hl st D q => ?_⟩
  unfold mKeySet at q
  refine hv.sim c H tv td σ ρ hl st _ ((then_bind.mp q).imp fun r q v H1 _ st1 => ?_)
  obtain ⟨p, e1, q⟩ := then_ofO.mp (then_bind.mp q)
  obtain ⟨kk, e2', q⟩ := then_ofO.mp (then_bind.mp q)
  obtain ⟨tj, e2, e20⟩ := Option.bind_eq_some_iff.mp e2'
  obtain ⟨tc, e3, q⟩ := then_ofO.mp (then_bind.mp q)
  obtain ⟨t0, e6, e7⟩ := atKo_some e3
  cases tc with
  | od ks ts =>
    obtain ⟨g1, q⟩ := then_guard.mp q
    have g1 := of_decide_eq_true g1
    obtain ⟨ρ', e5, q⟩ := then_ofO.mp (then_bind.mp q)
    obtain ⟨A, w⟩ := st1
    have w' : StW X.K c H1 ((some v :: tv) ++ σ) ((some r.1 :: td) ++ r.2) A := w
    refine ho.sim c H1 (some v :: tv) (some r.1 :: td) σ r.2 A p t0 _ (by simp [hl]) w' e1 e6 e7 _ fun v0 vo ev0 lo => ?_
    refine hk.sim c H1 (some v :: tv) (some r.1 :: td) σ r.2 A _ (by simp [hl]) w' e2 _ fun u Au ru _ => ?_
    have eu := key_rp ru e20
    obtain ⟨Aa, B, eA, x, s⟩ := w.top
    obtain ⟨v1, vc, Al, ev1, l1, rc, fin⟩ := StW.writeG (Aa := Aa) hl w.uniq w.own w.keep (fun a => by rw [eA, List.count_append]; exact Nat.le_refl _) s e6 e7
    rw [ev0] at ev1; cases ev1
    have := lo.uniq l1
    subst this
    cases rc with
    | @od a kvs _ _ A1 h e0 dd rr =>
      have hlen : kvs.length < sizeLine := by rw [← sLine_eq]; rw [← e0] at g1; simpa using g1
      subst eu
      obtain ⟨C2, hc2, mk⟩ := put_od (a := a) (k := kk) e0 dd rr x
      refine ⟨a, _, rfl, DPut.k h hlen, ?_⟩
      exact q σ _ .refl (fin a _ A1 rfl (fun _ => rfl) .non (.d .none) _ [] C2 ρ' (.d .non) mk (fun b => by simpa using hc2 b) e5).drop
  | _ => exact q.elim
end

/-! ### a display with texts as keys -/
def mDisp (ks : List Key) (ma : MA) : MEx := fun ρ => (ma ρ).bind fun r => guard (decide (r.1.length = ks.length ∧ ks.Nodup ∧ ks.length ≤ 15)) (.ok (.od ks r.1, r.2))
theorem StR.push_od {K : PySem.W.Frag} {c : C0} {H : Hp} {sl : List (Option V)} {ρ : Env} {p : Addr} (h : StR K c H sl ρ) (hp : H p = none) : StR K c (upd H p (.dK [])) (some (.ref p) :: sl) (some (.od [] []) :: ρ) := by
  obtain ⟨A, w⟩ := h
  have sm := same_upd (o := .dK []) hp
  have m0 : Mono (Fok c A) (Fok c (p :: A)) H H := Fok.fresh hp
  have eq1 : ∀ a ∈ A, (upd H p (.dK [])) a = H a := fun a ha => upd_ne (fun z => w.not_mem_of_none hp (by rw [← z]; exact ha))
  have s2 := (w.slots.mono m0 fun _ _ => rfl).mono (.same sm) eq1
  have cc : Sl K (Fok c (p :: A)) (upd H p (.dK [])) (some (.ref p) :: sl) (some (.od [] []) :: ρ) ([p] ++ A) := .cons (.od (kvs := []) upd_same rfl List.nodup_nil .nil) s2
  refine ⟨p :: A, fun a => ?_, cc, fun a ha => ?_, w.keep.grow sm⟩
  · rw [List.count_cons]
    have h2 := w.uniq a
    by_cases e : p = a
    · subst e
      have : A.count p = 0 := List.count_eq_zero.mpr (w.not_mem_of_none hp)
      simp [this]
    · have e' : (p == a) = false := by simpa using e
      simp [e']; omega
  · rcases List.mem_cons.mp ha with z | z
    · exact .inr (by rw [z]; exact w.keep.there p hp)
    · exact w.own a z
theorem zip_fst {α β : Type} : ∀ {xs : List α} {ys : List β}, xs.length = ys.length → (xs.zip ys).map Prod.fst = xs
  | [], _, _ => rfl
  | x :: xs, y :: ys, h => by simp at h; simp [zip_fst h]
  | _ :: _, [], h => by simp at h
theorem zip_snd {α β : Type} : ∀ {xs : List α} {ys : List β}, xs.length = ys.length → (xs.zip ys).map Prod.snd = ys
  | [], [], _ => rfl
  | [], _ :: _, h => by simp at h
  | x :: xs, y :: ys, h => by simp at h; simp [zip_snd h]
  | _ :: _, [], h => by simp at h
theorem StR.fill_od {K : PySem.W.Frag} {c : C0} {H : Hp} {sl : List (Option V)} {ρ : Env} {p : Addr} {vs : List V} {ts : List T} {ks : List Key} (hl : vs.length = ts.length) (hk : ks.length = ts.length) (hn : ks.Nodup) (h : StR K c H (vs.map some ++ (some (.ref p) :: sl)) (ts.map some ++ (some (.od [] []) :: ρ))) :
    H p = some (.dK []) ∧ StR K c (upd H p (.dK (ks.zip vs))) (some (.ref p) :: sl) (some (.od ks ts) :: ρ) := by
  obtain ⟨A, w⟩ := h
  obtain ⟨A1, B, eA, ra, s⟩ := w.slots.front hl
  cases s with
  | cons x s =>
    rename_i A2 B2
    cases x with
    | @od _ kvs _ _ A3 hp e0 dd r =>
      cases kvs with
      | cons y ys => simp at e0
      | nil =>
        cases r
        refine ⟨hp, ?_⟩
        have cnt : ∀ a, A.count a = A1.count a + ((if p = a then 1 else 0) + B2.count a) := fun a => by
          rw [eA, List.count_append, List.count_append]
          by_cases e : p = a
          · simp [e]
          · simp [e]
        have pA : p ∈ A := List.count_pos_iff.mp (by have := cnt p; rw [if_pos rfl] at this; omega)
        have ne1 : ∀ b ∈ A1, b ≠ p := fun b hb z => by
          subst z
          have h1 := cnt b
          have h2 := w.uniq b
          have h3 := List.count_pos_iff.mpr hb
          rw [if_pos rfl] at h1
          omega
        have ne2 : ∀ b ∈ B2, b ≠ p := fun b hb z => by
          subst z
          have h1 := cnt b
          have h2 := w.uniq b
          have h3 := List.count_pos_iff.mpr hb
          rw [if_pos rfl] at h1
          omega
        have mo : Mono (Fok c A) (Fok c A) H (upd H p (.dK (ks.zip vs))) := ⟨fun b ws e f => ⟨by rw [upd_ne (fun z => f.2 (by rw [z]; exact pA))]; exact e, f⟩, fun b uu e st => by
          rw [upd_ne (fun z => by rw [z, hp] at e; cases e; exact st)]
          exact e⟩
        have r2 := ra.mono mo fun b hb => upd_ne (ne1 b hb)
        have s2 := s.mono mo fun b hb => upd_ne (ne2 b hb)
        have cc : Sl K (Fok c A) (upd H p (.dK (ks.zip vs))) (some (.ref p) :: sl) (some (.od ks ts) :: ρ) ((p :: A1) ++ B2) := .cons (.od upd_same (zip_fst (by omega)) hn (by rw [zip_snd (by omega)]; exact r2)) s2
        have fin : ∀ b, ((p :: A1) ++ B2).count b = A.count b := fun b => by
          rw [cnt b, List.count_append, List.count_cons]
          by_cases e : p = b
          · simp [e]; omega
          · simp [e]
        refine ⟨_, fun b => by rw [fin]; exact w.uniq b, cc.mono (.sub fun b _ => Fok.sub (fun a => Nat.le_of_eq (fin a)) b) fun _ _ => rfl, fun b hb => w.own b (List.count_pos_iff.mp (by rw [← fin]; exact List.count_pos_iff.mpr hb)), ⟨fun b o e n => ?_, fun b e => ?_⟩⟩
        · rw [upd_ne]
          · exact w.keep.keep b o e n
          · intro z
            subst z
            rcases w.own b pA with y | y
            · exact n y
            · rw [e] at y; cases y
        · by_cases z : b = p
          · subst z
            rw [upd_same] at e; cases e
          · rw [upd_ne z] at e
            exact w.keep.there b e
theorem merge_nodup : ∀ {more kvs : List (Key × V)}, ((kvs ++ more).map Prod.fst).Nodup → mergeK kvs more = kvs ++ more
  | [], kvs, h => by simp [mergeK]
  | p :: r, kvs, h => by
    have hv : valV kvs p.1 = none := valV_no (by
      cases e : kAt (kvs.map Prod.fst) p.1 with
      | none => rfl
      | some n =>
        have := kAt_lt e
        rw [List.map_append, List.nodup_append] at h
        exact (h.2.2 p.1 (List.mem_of_getElem? this) p.1 (by simp) rfl).elim)
    have e : mergeK kvs (p :: r) = mergeK (putK kvs p.1 p.2) r := rfl
    rw [e, putK_new p.2 hv, merge_nodup (by simpa using h)]
    simp
def SimD (K : PySem.W.Frag) (E : Str → Hp → Prop) (ks : List Key) (trs : List (TE × TE)) (m : MA) : Prop :=
  ∀ (c : C0) (H : Hp) (tv : List (Option V)) (td : Env) (σ : L2.St) (ρ : Env), tv.length = td.length → StR K c H (tv ++ σ) (td ++ ρ) → ∀ Q : List (V × V) → Hp → Prop,
    Then (m ρ) (fun r => ∀ vs H', vs.length = r.1.length → ks.length = r.1.length → StR K c H' (vs.map some ++ (tv ++ σ)) (r.1.map some ++ (td ++ r.2)) → Q ((ks.zip vs).map fun kv => (kV kv.1, kv.2)) H') (fun x => ∀ H', KeepC c H' → E x H') → tPairs trs σ H Q
structure QD (X : Cx) (E : Str → Hp → Prop) (pos : Pos) (keys : List (Option Expr)) (values : List Expr) (ks : List Key) (trs : List (TE × TE)) (m : MA) : Prop where
  pps : PPs X pos keys values trs
  sim : SimD X.K E ks trs m
section
variable {X : Cx} {E : Str → Hp → Prop} {pos : Pos} {keys : List (Option Expr)} {values : List Expr} {ks : List Key} {trs : List (TE × TE)} {m : MA}
theorem qd_nil : QD X E pos [] [] [] [] mNil := ⟨pps_nil, fun c H tv td σ ρ hl st Q q => q [] H rfl rfl st⟩
theorem qd_cons {x : Str} {j : Nat} {p1 : Pos} {v : Expr} {tv : TE} {me : MEx} {g : Bool} (h : QE X E g v tv me) (hr : QD X E pos keys values ks trs m) : QD X E pos (some (.Constant (.str x) j p1) :: keys) (v :: values) (.inr x :: ks) ((tC (.str x), tv) :: trs) (mCons me m) := by
  refine ⟨pps_cons pe_str h.pe hr.pps, fun c H tv' td σ ρ hl st Q q => ?_⟩
  unfold mCons at q
  rw [then_bind] at q
  show tv σ H _
  refine h.sim c H tv' td σ ρ hl st _ (q.imp ?_)
  intro z q1 w H1 sm1 st1
  rw [then_bind] at q1
  refine hr.sim c H1 (some w :: tv') (some z.1 :: td) σ z.2 (by simp [hl]) st1 _ (q1.imp ?_)
  intro y q2 vs H2 hvs hks st2
  exact q2 (w :: vs) H2 (by simp [hvs]) (by simp [hks]) (StR.raise (xs := vs.map some) (as := y.1.map some) (by simp [hvs]) st2)
theorem qe_disp (h : QD X E pos keys values ks trs m) (hall : keys.all (·.isSome) = true := by rfl) (hl : keys.length = values.length := by rfl) (h0 : keys ≠ [] := by exact fun z => nomatch z) (h15 : keys.length ≤ 15 := by decide) : QE X E false (.Dict keys values pos) (tDisp trs) (mDisp ks m) := by
  refine ⟨pe_disp h.pps hall hl h0 h15, fun c H tv td σ ρ hl st Q q => ?_⟩
  unfold mDisp at q
  rw [then_bind] at q
  intro p hp
  refine h.sim c (upd H p (.dK [])) (some (.ref p) :: tv) (some (.od [] []) :: td) σ ρ (by simp [hl]) (st.push_od hp) _ (q.imp ?_)
  intro r q1 vs H2 hvs hks st2
  obtain ⟨g, q1⟩ := then_guard.mp q1
  obtain ⟨g1, g2, g3⟩ := of_decide_eq_true g
  obtain ⟨e1, e2⟩ := StR.fill_od (sl := tv ++ σ) (ρ := td ++ r.2) hvs g1.symm g2 st2
  have hz : ((ks.zip vs).map Prod.fst) = ks := zip_fst (by omega)
  refine ⟨e1, ks.zip vs, rfl, by simp; omega, ?_⟩
  rw [merge_nodup (by simpa [hz] using g2)]
  exact q1 _ _ (fun z => nomatch z) e2
end

theorem u1 {k : Nat} {A : Around} (r : Room k A) : A.units + 1 < cLine := by have := r.un; omega
/-! ### xs[i] op= e, ints -/
def mAugIx (i : Nat) (mp : ML) (mi : MP) (f : Int → Int → Int) (me : MP) : MS := fun ρ => (ofO (mp ρ)).bind fun p => (ofO ((mi ρ).bind T.int?)).bind fun j => (ofO (lstAt p ρ[i]?)).bind fun ts => (ofO (ixN ts.length j)).bind fun k => (ofO ((ts[k]?).bind T.int?)).bind fun x => (ofO ((me ρ).bind T.int?)).bind fun y =>
  (ofO (putAt i p (ts.set k (.d (.int (f x y)))) ρ)).bind fun ρ' => .ok (.next ρ')
section
variable {X : Cx} {E : Str → Hp → Prop} {io : List Nat} {a b e : Expr} {ta tb te : TE} {pos tpos : Pos} {mi me : MP} {mp : ML}
def gIx : V → V → Hp → VK → Prop := fun o i H Q => ∃ a vs j v, o = .ref a ∧ i = .int j ∧ H a = some (.lst vs) ∧ atI vs j = some v ∧ Q v H
theorem get_ix : PGet X gIx := by
  intro pins s σ H x y v u Q I rx ry h
  obtain ⟨p, xs, i, z, rfl, rfl, hq, he, q⟩ := h
  cases rx
  obtain ⟨t, rfl⟩ := ry
  obtain ⟨its, r, pl, hz⟩ := I.list (.of hq)
  obtain ⟨j, h1, h2, h3, h4, h5⟩ := atI_get he
  obtain ⟨w, ew, rw'⟩ := r.get h2
  have hl := r.length
  have hn := line63
  have fin : EP X pins σ Q w s := ⟨z, H, I, rw', q⟩
  by_cases h0 : 0 ≤ i
  · have hj : i.toNat = j := by
      rw [seqIndex_of h0 h5] at h1
      exact Option.some.inj h1
    exact wpAny_getItem_list pl.isList h0 (by omega) (by rw [hj]; simpa using ew) fin
  · have hj : (i + (its.toArray.size : Int)).toNat = j := by
      rw [seqIndex_neg (by omega) h4] at h1
      rw [List.size_toArray, ← hl]
      exact Option.some.inj h1
    exact wpAny_getItem_list_neg (Q := fun r s' => r = w ∧ EP X pins σ Q r s') pl.isList (by omega) (by rw [List.size_toArray] <;> omega) (by omega) (by rw [hj]; simpa using ew) ⟨rfl, fin⟩ |> fun z => wpAny_mono z (fun _ _ h => h.2) fun _ _ h => h
theorem qs_augIx {i : Nat} {f : Int → Int → Int} {op : Operator} (ho : QL X i a ta mp) (hi : QP X b tb mi) (he : QP X e te me) (hp : PIp X op (ipI f))
    (ha : ∀ ov iv new, augStore b ov iv new = (do holding [new, ov, iv] (setItem ov iv new); release [new, ov, iv] []; pure .next) := by intros; rfl) :
    QS X E io (.AugAssign (.Subscript a b tpos) op e pos) (tAugS ta tb te gIx (ipI f) rSetL) (mAugIx i mp mi f me) := by
  refine ⟨ps_augS ho.pe hi.pe get_ix he.pe hp set_list ha, fun c H tv td σ ρ hl st D q => ?_⟩
  unfold mAugIx at q
  obtain ⟨p, e1, q⟩ := then_ofO.mp (then_bind.mp q)
  obtain ⟨j, e2', q⟩ := then_ofO.mp (then_bind.mp q)
  obtain ⟨tj, e2, e20⟩ := Option.bind_eq_some_iff.mp e2'
  cases int?_eq e20
  obtain ⟨ts, e3, q⟩ := then_ofO.mp (then_bind.mp q)
  obtain ⟨k, e4, q⟩ := then_ofO.mp (then_bind.mp q)
  obtain ⟨x, e5', q⟩ := then_ofO.mp (then_bind.mp q)
  obtain ⟨tx, e5, e50⟩ := Option.bind_eq_some_iff.mp e5'
  cases int?_eq e50
  obtain ⟨y, e6', q⟩ := then_ofO.mp (then_bind.mp q)
  obtain ⟨ty, e6, e60⟩ := Option.bind_eq_some_iff.mp e6'
  cases int?_eq e60
  obtain ⟨ρ', e7, q⟩ := then_ofO.mp (then_bind.mp q)
  obtain ⟨t0, e8, e9⟩ := lstAt_some e3
  obtain ⟨A, w⟩ := st
  refine ho.sim c H tv td σ ρ A p t0 _ hl w e1 e8 e9 _ fun v0 vo ev0 lo => ?_
  refine hi.sim c H tv td σ ρ A _ hl w e2 _ fun u Au ru _ => ?_
  have eu := ru.i
  obtain ⟨v1, a1, vs, A1, ev1, l1, ha1, rl, fin⟩ := StW.write (Aa := []) hl w.uniq w.own w.keep (fun a => by simp) w.slots e8 e9
  rw [ev0] at ev1; cases ev1
  have := lo.uniq l1
  subst this
  obtain ⟨vx, Ax, Bx, g1, g2, g3, g4⟩ := rl.around e5
  have ex := g2.i
  subst ex
  have hat : atI vs j = some (.int x) := by
    show (ixN vs.length j).bind (fun k => vs[k]?) = _
    rw [rl.len, e4]; exact g1
  refine ⟨a1, vs, j, _, rfl, eu, ha1, hat, ?_⟩
  refine he.sim c H tv td σ ρ A _ hl w e6 _ fun u2 Au2 ru2 _ => ?_
  have eu2 := ru2.i
  subst eu2
  refine ⟨x, y, rfl, rfl, ?_⟩
  refine ⟨a1, vs, j, k, rfl, eu, ha1, by rw [rl.len]; exact e4, ?_⟩
  obtain ⟨C, s', z⟩ := g4.put (Mono.sub fun _ _ h => h) (fun _ _ => rfl) (v' := .int (f x y)) (t' := .d (.int (f x y))) (A2 := []) (.d (.int _))
  exact q σ _ .refl (fin .non (.d .none) _ _ [] C ρ' (.d .non) s' (fun b => by have := z b; have := g3 b; simp at *; omega) e7).drop
theorem qs_ret0 {g : Bool} : QS X E io (.Return none pos) tRetN (mRet (mC .none)) := by
  refine ⟨ps_retN, fun c H tv td σ ρ hl st D q => ?_⟩
  unfold mRet mC at q
  exact q .non σ H .refl (st.pushC fun _ _ => .non)
end

/-! ### range(i, j, -1) -/
def downItems (i j : Int) : List T := (List.range (i - j).toNat).map fun k => .d (.int (i + (k : Nat) * (-1)))
def miR3 (m : MA) : MI := fun ρ => (m ρ).bind fun r => match r.1 with | [.d (.int i), .d (.int j), .d (.int k)] => guard (small62 i && (small62 j && decide (k = -1))) (.ok (downItems i j, r.2)) | _ => .bad
theorem src_down {K : PySem.W.Frag} {i j : Int} : Src K (Itc i (-1) (i - j).toNat) [] [] (downItems i j) where
  len := rfl
  goes := fun c H sl ρ k hi st => by simpa [downItems, Itc] using hi
  stops := fun c H sl ρ st => by
    show (i - j).toNat ≤ (downItems i j).length
    unfold downItems
    rw [List.length_map, List.length_range]
    exact Nat.le_refl _
  yields := by
    intro c H sl ρ k x H' t ht st y
    obtain ⟨rfl, rfl⟩ := y
    refine ⟨Same.refl _, ?_⟩
    unfold downItems at ht
    rw [List.getElem?_map] at ht
    obtain ⟨z, e1, rfl⟩ := Option.map_eq_some_iff.mp ht
    have : z = k := by
      obtain ⟨h1, h2⟩ := List.getElem?_eq_some_iff.mp e1
      simpa using h2.symm
    subst this
    exact StR.pushC st fun _ _ => .int _
theorem sim_iR3 {K : PySem.W.Frag} {ta : TA} {E : Str → Hp → Prop} {m : MA} {g : Bool} (s : SimA K E g ta m) : SimI K E (iRng3 ta) (miR3 m) := by
  intro c H tv td σ ρ hl st Rr q
  unfold miR3 at q
  rw [then_bind] at q
  refine s c H tv td σ ρ hl st _ (q.imp ?_)
  rintro ⟨ts, ρ1⟩ q1 vs H1 _ hvs st1
  dsimp only at q1 hvs st1
  split at q1
  · rename_i i j k
    obtain ⟨gd, q2⟩ := then_guard.mp q1
    rw [Bool.and_eq_true, Bool.and_eq_true] at gd
    match vs, hvs, st1 with
    | [v, u, x], _, st1 =>
      obtain ⟨rfl, st2⟩ := StR.top1 st1
      obtain ⟨rfl, st3⟩ := StR.top1 st2
      obtain ⟨rfl, st4⟩ := StR.top1 st3
      have h1 := of_decide_eq_true gd.1
      have h2 := of_decide_eq_true gd.2.1
      have h3 := of_decide_eq_true gd.2.2
      subst h3
      exact ⟨i, j, -1, (i - j).toNat, rfl, RgC.neg h1.1 h1.2 h2.1 h2.2, q2 _ H1 [] [] src_down st4⟩
  · exact q1.elim
theorem qi_range3 {X : Cx} {E : Str → Hp → Prop} {tg a b d : Expr} {ta : TA} {m : MA} {g : Bool} {p pos : Pos} (hm : X.mg "range" = none) (ha : QA X E g [a, b, d] ta m) (hg : Gl X "range" := by rfl)
    (hs : starEach [a, b, d] X.env = (false, eval a X.env) :: starEach [b, d] X.env := by rfl) (hpl : (backTo pos (starEach [b, d] X.env)).any (·.1) = false := by rfl) : QI X E tg (.Call (.Name "range" p) [a, b, d] [] pos) (iRng3 ta) (miR3 m) := ⟨pi_range3 hg hm ha.pa hs hpl, sim_iR3 ha.sim⟩
end L3
namespace L3
open PySem PySem.Spec PyProof.Rows L2
/-! ### a method whose arguments may write what lies elsewhere: the slot is hidden from them -/
def mMethH (i : Nat) (mp : ML) (op : List T → List T → Option (T × List T)) (ma : MA) : MEx := fun ρ => (ofO (mp ρ)).bind fun p => (ofO (lstAt p ρ[i]?)).bind fun ts => (ma (ρ.set i none)).bind fun r => (ofO (op ts r.1)).bind fun z => (ofO (putAt i p z.2 (r.2.set i (ρ[i]?.join)))).bind fun ρ' => .ok (z.1, ρ')
theorem app_set2 {α : Type} {xs ys : List α} {n i : Nat} {x : α} (h : xs.length = n) : (xs ++ ys).set (n + i) x = xs ++ ys.set i x := by
  subst h
  rw [List.set_append_right _ _ (by omega)]
  congr 2
  omega
theorem sim_methH {K : PySem.W.Frag} {E : Str → Hp → Prop} {i : Nat} {mp : ML} {ma : MA} {to : TE} {t : TA} {g : Bool} {rM : V → List V → Hp → VK → Prop} {op : List T → List T → Option (T × List T)} (hv : UpdV K rM op) (sl : SimL K i to mp) (sa : SimA K E g t ma) : SimE K E false (tBM K "list" rM to t) (mMethH i mp op ma) := by
  intro c H tv td σ ρ hl st Q q
  unfold mMethH at q
  obtain ⟨p, ep, q⟩ := then_ofO.mp (then_bind.mp q)
  obtain ⟨ts0, el, q⟩ := then_ofO.mp (then_bind.mp q)
  obtain ⟨t0, e0, e1⟩ := lstAt_some el
  have q1 := then_bind.mp q
  obtain ⟨A, w⟩ := st
  refine sl c H tv td σ ρ A p t0 _ hl w ep e0 e1 _ fun v0 v ev0 lv => ?_
  obtain ⟨v0', a0, vs0, A10, ev0', l0, ha0, _, _⟩ := StW.write (Aa := []) hl w.uniq w.own w.keep (fun a => by simp) w.slots e0 e1
  rw [ev0] at ev0'; cases ev0'
  have ev := lv.uniq l0
  subst ev
  refine ⟨ty_list ha0, ?_⟩
  -- the slot's tree and what is around it
  have hlen := w.slots.len
  have hi : i < ρ.length := (List.getElem?_eq_some_iff.mp e0).1
  obtain ⟨B1, hb, ar, get⟩ := w.slots.around (i := tv.length + i) (by rw [hlen, List.length_append]; omega)
  obtain ⟨v0', A0, e3, x, hc1⟩ := get t0 (by rw [app_at hl.symm, e0])
  rw [app_at rfl] at e3
  rw [ev0] at e3; cases e3
  have memB : ∀ a ∈ B1, a ∈ A := fun a ha => List.count_pos_iff.mp (by have := List.count_pos_iff.mpr ha; have := hb a; omega)
  have memA0 : ∀ a ∈ A0, a ∈ A := fun a ha => List.count_pos_iff.mp (by have := List.count_pos_iff.mpr ha; have := hc1 a; omega)
  have dis : ∀ a ∈ A0, a ∉ B1 := fun a h1 h2 => by
    have := List.count_pos_iff.mpr h1
    have := List.count_pos_iff.mpr h2
    have := hc1 a
    have := w.uniq a
    omega
  let c' : C0 := ⟨H, B1, Fok c A⟩
  obtain ⟨C, sC, zC⟩ := ar.gone (some v0)
  have eset : (tv ++ σ).set (tv.length + i) (some v0) = tv ++ σ := by rw [app_set2 rfl, set_self ev0]
  rw [eset, app_set2 hl.symm] at sC
  have mo : Mono (Fok c A) (Fok c' C) H H := .sub fun a _ f => ⟨.inl f, fun z => f.2 (memB a (List.count_pos_iff.mp (by have := List.count_pos_iff.mpr z; have := zC a; omega)))⟩
  have w' : StW K c' H (tv ++ σ) (td ++ ρ.set i none) C := ⟨fun a => by rw [zC]; exact Nat.le_trans (hb a) (w.uniq a), sC.mono mo fun _ _ => rfl, fun a ha => .inl (show a ∈ B1 from List.count_pos_iff.mp (by have := List.count_pos_iff.mpr ha; have := zC a; omega)), ⟨fun a o e _ => e, fun a e => e⟩⟩
  have kcc : ∀ H', KeepC c' H' → KeepC c H' := fun H' k' => by
    refine ⟨fun a o e n => k'.keep a o (w.keep.keep a o e n) fun z => ?_, fun a e => w.keep.there a (k'.there a e)⟩
    rcases w.own a (memB a z) with y | y
    · exact n y
    · rw [e] at y; cases y
  refine sa c' H tv td σ (ρ.set i none) hl ⟨C, w'⟩ _ (q1.mono (fun r q1 => ?_) fun x hx H' k' => hx H' (kcc H' k'))
  intro ys H1 sm hys st1
  obtain ⟨z, ez, q4⟩ := then_ofO.mp (then_bind.mp q1)
  obtain ⟨ρ', eρ, q5⟩ := then_ofO.mp (then_bind.mp q4)
  obtain ⟨A2, w2⟩ := st1
  -- what lies in the slot stands as it was
  have keepA0 : ∀ a ∈ A0, H1 a = H a := fun a ha => by
    obtain ⟨u, e, _⟩ := x.own a ha
    rw [e]
    exact w2.keep.keep a u e (dis a ha)
  have thr : ∀ a, H1 a = none → H a = none := fun a e => w2.keep.there a e
  have dis2 : ∀ a ∈ A0, a ∉ A2 := fun a h1 h2 => by
    rcases w2.own a h2 with z | z
    · exact dis a h1 z
    · obtain ⟨u, e, _⟩ := x.own a h1
      have z : H a = none := z
      rw [e] at z; cases z
  have tot : ∀ a, A2.count a + A0.count a ≤ 1 := fun a => by
    by_cases h1 : a ∈ A0
    · rw [List.count_eq_zero.mpr (dis2 a h1)]
      have := hc1 a
      have := w.uniq a
      omega
    · rw [List.count_eq_zero.mpr h1]
      have := w2.uniq a
      omega
  let A3 := A2 ++ A0
  have cnt3 : ∀ a, A3.count a = A2.count a + A0.count a := fun a => List.count_append
  have mo2 : Mono (Fok c' A2) (Fok c A3) H1 H1 := .sub fun a ha ⟨f1, f2⟩ => by
    refine ⟨?_, fun z => ?_⟩
    · rcases f1 with f1 | f1 | f1
      · exact f1.1
      · exact .inr (.inl (w.keep.there a f1))
      · rcases w.own a (memB a f1) with y | y
        · exact .inr (.inr y)
        · exact .inr (.inl y)
    · rcases List.mem_append.mp z with z | z
      · exact f2 z
      · rcases f1 with f1 | f1 | f1
        · exact f1.2 (memA0 a z)
        · obtain ⟨u, e, _⟩ := x.own a z
          have f1 : H a = none := f1
          rw [e] at f1; cases f1
        · exact dis a z f1
  have moX : Mono (Fok c A) (Fok c A3) H H1 := ⟨fun a vs e f => ⟨w2.keep.keep a _ e fun z => f.2 (memB a z), f.1, fun z => by
      rcases List.mem_append.mp z with z | z
      · rcases w2.own a z with y | y
        · exact f.2 (memB a y)
        · have y : H a = none := y
          rw [e] at y; cases y
      · exact f.2 (memA0 a z)⟩, fun a u e stl => w2.keep.keep a u e fun z => by
      obtain ⟨_, e2, ns⟩ := sC.own a (List.count_pos_iff.mp (by have := List.count_pos_iff.mpr (show a ∈ B1 from z); have := zC a; omega))
      rw [e] at e2; cases e2; exact ns stl⟩
  obtain ⟨Aa, B, eA, ra, s⟩ := w2.slots.front hys
  have ra3 := ra.mono mo2 fun _ _ => rfl
  have s3 := s.mono mo2 fun _ _ => rfl
  have x3 := x.mono moX keepA0
  -- the slot is put back
  have hi2 : i < r.2.length := by
    have := s3.len
    have h2 := w'.slots.len
    simp at this h2
    omega
  obtain ⟨B2, hb2, ar2, _⟩ := s3.around (i := tv.length + i) (by
    have := s3.len
    rw [this, List.length_append]; omega)
  obtain ⟨C4, s4, z4⟩ := ar2.put (Mono.sub fun _ _ f => f) (fun _ _ => rfl) x3
  rw [eset, app_set2 hl.symm] at s4
  have ej : (ρ[i]?).join = some t0 := by rw [e0]; rfl
  rw [ej] at eρ
  have e0' : (r.2.set i (some t0))[i]? = some (some t0) := by rw [List.getElem?_set_self hi2]
  have own3 : ∀ a ∈ A3, a ∈ c.A0 ∨ c.H0 a = none := fun a ha => by
    rcases List.mem_append.mp ha with z | z
    · rcases w2.own a z with y | y
      · exact w.own a (memB a y)
      · exact .inr (w.keep.there a y)
    · exact w.own a (memA0 a z)
  have kc3 : KeepC c H1 := by
    refine ⟨fun a o e n => w2.keep.keep a o (w.keep.keep a o e n) fun z => ?_, fun a e => w.keep.there a (thr a e)⟩
    rcases w.own a (memB a z) with y | y
    · exact n y
    · rw [e] at y; cases y
  have hAa : ∀ a, Aa.count a + C4.count a ≤ A3.count a := fun a => by
    have h1 := z4 a
    have h2 := hb2 a
    have h3 := cnt3 a
    have h4 : A2.count a = Aa.count a + B.count a := by rw [eA, List.count_append]
    omega
  obtain ⟨v1, a, vs, A1, ev1, l1, ha, rl, fin⟩ := StW.write (Aa := Aa) hl (fun a => by rw [cnt3]; exact tot a) own3 kc3 hAa s4 e0' e1
  rw [ev0] at ev1; cases ev1
  -- the same list
  have ea : a0 = a := by
    have hx : ∀ {p : List Int} {v : V} {t tt : T} {AA : List Addr}, Rp K (Fok c A) H v t AA → (∀ b ∈ AA, H1 b = H b) → T.at? p t = some tt → ∀ {u u' : V}, Loc H v p u → Loc H1 v p u' → u = u' := by
      intro p
      induction p with
      | nil => intro v t tt AA _ _ _ u u' h1 h2; cases h1; cases h2; rfl
      | cons j js ih =>
        intro v t tt AA hr hk he u u' h1 h2
        cases hr with
        | @ol b ws _ AB hh rr =>
          have he : (atI _ j).bind (T.at? js) = some tt := he
          obtain ⟨t1, e5, e6⟩ := Option.bind_eq_some_iff.mp he
          obtain ⟨k, ek, ek2⟩ := atI_ix e5
          obtain ⟨vv, A5, B5, g1, g2, g3, _⟩ := rr.around ek2
          have hb : H1 b = some (.lst ws) := (hk b List.mem_cons_self).trans hh
          have lv : atI ws j = some vv := by
            show (ixN ws.length j).bind (fun k => ws[k]?) = _
            rw [rr.len, ek]; exact g1
          have hk5 : ∀ b' ∈ A5, H1 b' = H b' := fun b' h => hk b' (List.mem_cons_of_mem _ (List.count_pos_iff.mp (by have := List.count_pos_iff.mpr h; have := g3 b'; omega)))
          cases h1 with
          | lst y1 y2 y3 =>
            cases h2 with
            | lst y4 y5 y6 =>
              rw [hh] at y1; cases y1
              rw [hb] at y4; cases y4
              rw [lv] at y2 y5
              cases y2; cases y5
              exact ih g2 hk5 e6 y3 y6
            | tup y4 _ _ => rw [hb] at y4; cases y4
          | tup y1 _ _ => rw [hh] at y1; cases y1
        | @ot b ws _ AB hh rr =>
          have he : (atI _ j).bind (T.at? js) = some tt := he
          obtain ⟨t1, e5, e6⟩ := Option.bind_eq_some_iff.mp he
          obtain ⟨k, ek, ek2⟩ := atI_ix e5
          obtain ⟨vv, A5, B5, g1, g2, g3, _⟩ := rr.around ek2
          have hb : H1 b = some (.tup ws) := moX.still _ _ hh trivial
          have lv : atI ws j = some vv := by
            show (ixN ws.length j).bind (fun k => ws[k]?) = _
            rw [rr.len, ek]; exact g1
          have hk5 : ∀ b' ∈ A5, H1 b' = H b' := fun b' h => hk b' (List.count_pos_iff.mp (by have := List.count_pos_iff.mpr h; have := g3 b'; omega))
          cases h1 with
          | tup y1 y2 y3 =>
            cases h2 with
            | tup y4 y5 y6 =>
              rw [hh] at y1; cases y1
              rw [hb] at y4; cases y4
              rw [lv] at y2 y5
              cases y2; cases y5
              exact ih g2 hk5 e6 y3 y6
            | lst y4 _ _ => rw [hb] at y4; cases y4
          | lst y1 _ _ => rw [hh] at y1; cases y1
        | d _ => cases he
        | od _ _ _ _ => cases he
        | ob _ _ _ _ => cases he
        | rd _ _ => cases he
        | ex _ _ _ => cases he
    have := hx x keepA0 e1 l0 l1
    cases this; rfl
  subst ea
  refine hv _ H1 a0 vs ys ts0 r.1 A1 Aa z ha rl ra3 ez Q fun res vs' C1 C2 x1 x2 hC => ?_
  exact q5 _ _ (fun y => by cases y) (fin res z.1 vs' z.2 C1 C2 ρ' x1 x2 hC eρ)

theorem qe_methH {X : Cx} {E : Str → Hp → Prop} {o e : Expr} {es : List Expr} {to : TE} {t : TA} {name : Str} {apos cpos : Pos} {id : String} {rM : V → List V → Hp → VK → Prop} {op : List T → List T → Option (T × List T)} {g : Bool} {i : Nat} {mp : ML} {ma : MA} (slot : Slot "list" name id) (hty : typeOf (.builtin id) = pure (.type "method_descriptor")) (hm : MtR X id rM) (hv : UpdV X.K rM op) (ho : QL X i o to mp) (ha : QA X E g (e :: es) t ma)
    (hbase : attributeBase o name X.env (eval o X.env) = eval o X.env := by rfl)
    (hfew : ((backTo cpos (starEach (e :: es) X.env)).all (fun x => !x.1) && (backToKw cpos (keywordEach [] X.env)).all (fun x => x.1.isSome)
      && decide ((e :: es).length + ([] : List Keyword).length + (if ([] : List Keyword).isEmpty then 0 else 1) < 30)) = true := by rfl)
    (hline : (apos.endLine == cpos.line) = true := by rfl) (hs : starEach (e :: es) X.env = (false, eval e X.env) :: starEach es X.env := by rfl) (hplain : (backTo cpos (starEach es X.env)).any (·.1) = false := by rfl) :
    QE X E false (.Call (.Attribute o name apos) (e :: es) [] cpos) (tBM X.K "list" rM to t) (mMethH i mp op ma) := ⟨pe_bm PySem.F.plainAttrs_list slot hty hm ho.pe ha.pa hbase hfew hline hs hplain, sim_methH hv ho.sim ha.sim⟩

/-! ### constants of the module -/
structure KC (K : PySem.W.Frag) (u : Value) (v : V) (x : PyData) : Prop where
  rel : RelV v u
  fz : ∀ F H, Fz K F H v x
inductive CVs : List Value → List V → List PyData → Prop
  | nil : CVs [] [] []
  | int {i : Int} {t : Tok} {us : List Value} {vs : List V} {ds : List PyData} : CVs us vs ds → CVs (.int i t :: us) (.int i :: vs) (.int i :: ds)
  | str {x : Str} {t : Tok} {us : List Value} {vs : List V} {ds : List PyData} : CVs us vs ds → CVs (.str x t :: us) (.str x :: vs) (.str x :: ds)
theorem CVs.vals : ∀ {us : List Value} {vs : List V} {ds : List PyData}, CVs us vs ds → Vals vs us
  | _, _, _, .nil => .nil
  | _, _, _, .int r => .cons ⟨_, rfl⟩ r.vals
  | _, _, _, .str r => .cons ⟨_, rfl⟩ r.vals
theorem CVs.fz {K : PySem.W.Frag} {F : Addr → Prop} {H : Hp} : ∀ {us : List Value} {vs : List V} {ds : List PyData}, CVs us vs ds → FzAll K F H vs ds
  | _, _, _, .nil => .nil
  | _, _, _, .int r => .cons (.int _) r.fz
  | _, _, _, .str r => .cons (.str _) r.fz
theorem kc_tup {K : PySem.W.Frag} {a : Addr} {od : Option Addr} {us : List Value} {vs : List V} {ds : List PyData} {n : Nat} {sl : Array (Option Value)} (l : K.lookup a = some ⟨.type "tuple", od, .seq us.toArray n, sl⟩) (h : CVs us vs ds) (hz : us.length ≤ 1000) : KC K (.ref a) (.ref a) (.tuple ds) :=
  ⟨rfl, fun F H => .tup (.inr ⟨_, us.toArray, n, l, rfl, rfl, by rw [sizeLine_eq]; simp; omega, by simpa using h.vals⟩) h.fz⟩
theorem kc_int {K : PySem.W.Frag} {i : Int} {t : Tok} : KC K (.int i t) (.int i) (.int i) := ⟨⟨_, rfl⟩, fun _ _ => .int i⟩
theorem kc_str {K : PySem.W.Frag} {i : Str} {t : Tok} : KC K (.str i t) (.str i) (.str i) := ⟨⟨_, rfl⟩, fun _ _ => .str i⟩

/-! ### xs * k -/
def opRep (x y : T) : R RV := match x.lst?, y with
  | some ds, .d (.int k) => guard (decide (-(2 ^ 62) ≤ k ∧ k < 2 ^ 62 ∧ ds.length * k.toNat ≤ sLine)) (.ok (.nl (List.replicate k.toNat ds).flatten))
  | _, _ => .bad
theorem FzAll.rep {K : PySem.W.Frag} {F : Addr → Prop} {H : Hp} {vs : List V} {ds : List PyData} (h : FzAll K F H vs ds) : ∀ (k : Nat), FzAll K F H (List.replicate k vs).flatten (List.replicate k ds).flatten
  | 0 => .nil
  | k + 1 => by
    rw [List.replicate_succ, List.replicate_succ, List.flatten_cons, List.flatten_cons]
    exact h.append (h.rep k)
theorem opRep_v {K : PySem.W.Frag} : OpV K rRep opRep := by
  intro F H v u x y A B hx hy Q q
  unfold opRep at q
  split at q
  · rename_i ds k e1
    obtain ⟨g, q⟩ := then_guard.mp q
    obtain ⟨g1, g2, g3⟩ := of_decide_eq_true g
    obtain ⟨a, vs, rfl, h1, f⟩ := hx.lst? e1
    have := hy.i
    subst this
    exact ⟨a, k, vs, rfl, rfl, h1, by omega, by omega, by rw [f.len, ← sLine_eq]; exact g3, fun p hp => q p _ hp (f.rep _)⟩
  · exact q.elim
theorem opRep_nox : NoX opRep := by
  intro x y c
  unfold opRep
  split
  · unfold guard
    split <;> (intro z; cases z)
  · intro z; cases z

/-! ### a name that is only read from here on is frozen -/
def fzSlot (i : Nat) (ρ : Env) : R Env := match ρ[i]? with
  | some (some t) => (match t.fz with | some x => .ok (ρ.set i (some (.d x))) | none => .bad)
  | _ => .bad
def fzNext (i : Nat) : Out → R Out
  | .next ρ => (fzSlot i ρ).bind fun ρ' => .ok (.next ρ')
  | o => .ok o
def mThenFz (i : Nat) (m : MS) : MS := fun ρ => (m ρ).bind (fzNext i)
theorem StR.fzSlot {K : PySem.W.Frag} {c : C0} {H : Hp} {tv : List (Option V)} {td : Env} {σ : L2.St} {ρ ρ' : Env} {i : Nat} (hl : tv.length = td.length) (st : StR K c H (tv ++ σ) (td ++ ρ)) (e : L3.fzSlot i ρ = .ok ρ') : StR K c H (tv ++ σ) (td ++ ρ') := by
  unfold L3.fzSlot at e
  cases e0 : ρ[i]? with
  | none => rw [e0] at e; cases e
  | some o =>
    cases o with
    | none => rw [e0] at e; cases e
    | some t =>
      rw [e0] at e
      dsimp only at e
      cases ef : t.fz with
      | none => rw [ef] at e; cases e
      | some x =>
        rw [ef] at e
        cases e
        have hs : (mVar i ρ) = .ok (.d x, ρ.set i (some (.d x))) := by
          unfold mVar
          rw [e0]
          cases t with
          | d y =>
            simp [T.fz] at ef
            subst ef
            dsimp only
            rw [set_self e0]
          | _ => dsimp only; rw [ef]
        have := sim_var (K := K) (E := fun _ _ => True) i c H tv td σ ρ hl st (fun v H' => H' = H → StR K c H (tv ++ σ) (td ++ ρ.set i (some (.d x)))) (by
          rw [hs]
          intro v H' sm st1 eh
          subst eh
          exact st1.drop)
        obtain ⟨v, _, q⟩ := this
        exact q rfl
theorem qs_thenFz {X : Cx} {E : Str → Hp → Prop} {io : List Nat} {s : Stmt} {ts : TS} {m : MS} (i : Nat) (h : QS X E io s ts m) : QS X E io s ts (mThenFz i m) := by
  refine ⟨h.ps, fun c H tv td σ ρ hl st D q => ?_⟩
  unfold mThenFz at q
  rw [then_bind] at q
  refine h.sim c H tv td σ ρ hl st D (q.imp fun o q1 => ?_)
  cases o with
  | next ρ1 =>
    intro σ' H' sio st'
    have q1 : Then ((L3.fzSlot i ρ1).bind fun ρ' => R.ok (Out.next ρ')) _ _ := q1
    rw [then_bind] at q1
    cases e : L3.fzSlot i ρ1 with
    | bad => rw [e] at q1; exact q1.elim
    | exc y => unfold L3.fzSlot at e; split at e <;> (try split at e) <;> cases e
    | ok ρ2 =>
      rw [e] at q1
      exact q1 σ' H' sio (st'.fzSlot hl e)
  | ret t ρ1 => exact q1
  | brk ρ1 => exact q1
  | cont ρ1 => exact q1

/-! ### a name is frozen ahead of an expression -/
def mPreFz (i : Nat) (m : MEx) : MEx := fun ρ => (fzSlot i ρ).bind m
theorem qe_preFz {X : Cx} {E : Str → Hp → Prop} {g : Bool} {e : Expr} {te : TE} {m : MEx} (i : Nat) (h : QE X E g e te m) : QE X E g e te (mPreFz i m) := by
  refine ⟨h.pe, fun c H tv td σ ρ hl st Q q => ?_⟩
  unfold mPreFz at q
  cases ef : L3.fzSlot i ρ with
  | bad => rw [ef] at q; exact q.elim
  | exc y => unfold L3.fzSlot at ef; split at ef <;> (try split at ef) <;> cases ef
  | ok ρ2 =>
    rw [ef] at q
    exact h.sim c H tv td σ ρ2 hl (st.fzSlot hl ef) Q q

/-! ### a look: a test that sees all slots frozen and leaves them as they were -/
def fzO : Option T → Option T
  | some t => t.fz.map T.d
  | none => none
def fzEnv (ρ : Env) : Env := ρ.map fzO
def lookK (ρ : Env) (r : Bool × Env) : R (Bool × Env) := .ok (r.1, ρ)
def mLookT (m : MT) : MT := fun ρ => (m (fzEnv ρ)).bind (lookK ρ)
theorem Sl.fzEnv {K : PySem.W.Frag} {F F' : Addr → Prop} {H : Hp} (hF : ∀ a, F' a) : ∀ {sl : List (Option V)} {ρ : Env} {A : List Addr}, Sl K F H sl ρ A → Sl K F' H sl (L3.fzEnv ρ) []
  | _, _, _, .nil => .nil
  | _, _, _, .skip h => .skip (Sl.fzEnv hF h)
  | _, _, _, .cons (t := t) h r => by
    show Sl K F' H _ ((t.fz.map T.d) :: L3.fzEnv _) []
    cases e : t.fz with
    | none => exact .skip (Sl.fzEnv hF r)
    | some x => exact .cons (A := []) (.d (h.freeze (fun a _ _ => hF a) (fun a _ => hF a) e)) (Sl.fzEnv hF r)
theorem Sl.blind {K : PySem.W.Frag} {F : Addr → Prop} {H : Hp} {sl : List (Option V)} {ρ : Env} : ∀ {tv : List (Option V)} {td : Env}, tv.length = td.length → Sl K F H sl ρ [] → Sl K F H (tv ++ sl) (td.map (fun _ => none) ++ ρ) []
  | [], [], _, h => h
  | _ :: _, _ :: _, e, h => .skip (Sl.blind (by simpa using e) h)
  | [], _ :: _, e, _ => by simp at e
  | _ :: _, [], e, _ => by simp at e
theorem Sl.tail {K : PySem.W.Frag} {F : Addr → Prop} {H : Hp} {sl : List (Option V)} {ρ : Env} : ∀ {tv : List (Option V)} {td : Env} {A : List Addr}, tv.length = td.length → Sl K F H (tv ++ sl) (td ++ ρ) A → ∃ B, Sl K F H sl ρ B
  | [], [], _, _, h => ⟨_, h⟩
  | _ :: _, _ :: _, _, e, .skip h => Sl.tail (by simpa using e) h
  | _ :: _, _ :: _, _, e, .cons _ h => Sl.tail (by simpa using e) h
  | [], _ :: _, _, e, _ => by simp at e
  | _ :: _, [], _, e, _ => by simp at e
def lookC (H : Hp) : C0 := ⟨H, [], fun _ => True⟩
theorem StR.look0 {K : PySem.W.Frag} {c : C0} {H : Hp} {tv : List (Option V)} {td : Env} {σ : L2.St} {ρ : Env} (hl : tv.length = td.length) (st : StR K c H (tv ++ σ) (td ++ ρ)) : StR K (lookC H) H (tv ++ σ) (td.map (fun _ => none) ++ L3.fzEnv ρ) := by
  obtain ⟨A, w⟩ := st
  obtain ⟨B, h⟩ := Sl.tail hl w.slots
  exact ⟨[], ⟨by simp, Sl.blind hl (Sl.fzEnv (fun a => ⟨.inl trivial, by simp⟩) h), by simp, ⟨fun _ _ h _ => h, fun _ h => h⟩⟩⟩
theorem KeepC.same {H H' : Hp} (k : KeepC (lookC H) H') : Same H H' := fun a o e => k.keep a o e (by simp [lookC])
theorem qt_look {X : Cx} {E : Str → Hp → Prop} {e : Expr} {tt : TT} {m : MT} (h : QT X E e tt m) : QT X E e tt (mLookT m) := by
  refine ⟨h.pt, fun c H tv td σ ρ hl st Q q => ?_⟩
  unfold mLookT at q
  rw [then_bind] at q
  refine h.sim (lookC H) H tv (td.map fun _ => none) σ (fzEnv ρ) (by simpa using hl) (st.look0 hl) Q (q.mono (fun r q1 => ?_) ?_)
  · intro H' st'
    exact q1 H' (st.grow st'.keep.same)
  · exact fun x q1 H' k => q1 H' (st.keep.grow k.same)
end L3
/-! L3w -/
/-! L3w: list(zip(a, b)) as a value. -/
namespace L3
open PySem PySem.Spec PyProof.Rows L2
theorem zip_no_len : typeLookup (.type "zip") "__len__" = pure none := am_miss_of_fast (by decide +kernel)
theorem zip_no_hint : typeLookup (.type "zip") "__length_hint__" = pure none := am_miss_of_fast (by decide +kernel)
/-- a zip that is drawn from while all that it gave stays -/
structure ZAt (z TI TO i1 i2 l1 l2 : Addr) (xs ys : Array Value) (N : Nat) (Ts : List Addr) (h : Heap) : Prop where
  pTI : IsPair h TI (.ref i1) (.ref i2)
  it1 : h.IsListIter i1 l1 Ts.length
  it2 : h.IsListIter i2 l2 Ts.length
  li1 : h.IsList l1 xs
  li2 : h.IsList l2 ys
  own : (IsZip h z TI TO .none ∧ ∃ a b, IsPair h TO a b) ∨ ∃ T f oT, IsZipHeld h z TI TO T f ∧ h.get? T = some oT ∧ T ≠ z ∧ T ≠ i1 ∧ T ≠ i2 ∧ N ≤ T
/-- what was given -/
structure ZGave (xs ys : Array Value) (N : Nat) (Ts : List Addr) (h : Heap) : Prop where
  up : Ts.Pairwise (· < ·)
  new : ∀ T ∈ Ts, N ≤ T ∧ T < h.objs.size
  is : ∀ (j : Nat) (T : Addr), Ts[j]? = some T → ∃ x y, IsPair h T x y ∧ xs[j]? = some x ∧ ys[j]? = some y
theorem ZAt.frame {z TI TO i1 i2 l1 l2 S : Addr} {xs ys : Array Value} {N : Nat} {Ts : List Addr} {h h' : Heap} (k : ZAt z TI TO i1 i2 l1 l2 xs ys N Ts h) (hS : S < N) (hn : S ∉ [z, TI, TO, i1, i2, l1, l2]) (e : ∀ b o, b ≠ S → h.get? b = some o → h'.get? b = some o) : ZAt z TI TO i1 i2 l1 l2 xs ys N Ts h' := by
  simp only [List.mem_cons, List.not_mem_nil, or_false, not_or] at hn
  obtain ⟨n1, n2, n3, n4, n5, n6, n7⟩ := hn
  refine ⟨e _ _ (Ne.symm n2) k.pTI, k.it1.at fun o q => e _ o (Ne.symm n4) q, k.it2.at fun o q => e _ o (Ne.symm n5) q, k.li1.at fun o q => e _ o (Ne.symm n6) q, k.li2.at fun o q => e _ o (Ne.symm n7) q, ?_⟩
  rcases k.own with ⟨hz, a, b, hTO⟩ | ⟨T, f, oT, hz, hT, r1, r2, r3, r4⟩
  · exact .inl ⟨e _ _ (Ne.symm n1) hz, a, b, e _ _ (Ne.symm n3) hTO⟩
  · exact .inr ⟨T, f, oT, e _ _ (Ne.symm n1) hz, e _ _ (fun q => Nat.not_le_of_lt hS (q ▸ r4)) hT, r1, r2, r3, r4⟩
theorem ZGave.frame {S : List Addr} {xs ys : Array Value} {N : Nat} {Ts : List Addr} {h h' : Heap} (k : ZGave xs ys N Ts h) (hS : ∀ b ∈ S, b < N) (hl : h.objs.size ≤ h'.objs.size) (e : ∀ b o, b ∉ S → h.get? b = some o → h'.get? b = some o) : ZGave xs ys N Ts h' := by
  refine ⟨k.up, fun T hT => ⟨(k.new T hT).1, Nat.lt_of_lt_of_le (k.new T hT).2 hl⟩, fun j T hj => ?_⟩
  obtain ⟨x, y, hp, ex, ey⟩ := k.is j T hj
  refine ⟨x, y, e _ _ (fun hm => ?_) hp, ex, ey⟩
  exact absurd (k.new T (List.mem_of_getElem? hj)).1 (Nat.not_le_of_lt (hS T hm))
theorem ZGave.snoc {xs ys : Array Value} {N : Nat} {Ts : List Addr} {h : Heap} {T : Addr} {x y : Value} (k : ZGave xs ys N Ts h) (hT : ∀ U ∈ Ts, U < T) (hN : N ≤ T) (hp : IsPair h T x y) (ex : xs[Ts.length]? = some x) (ey : ys[Ts.length]? = some y) : ZGave xs ys N (Ts ++ [T]) h := by
  refine ⟨List.pairwise_append.mpr ⟨k.up, List.pairwise_singleton .., fun a ha b hb => by simp at hb; subst hb; exact hT a ha⟩, fun U hU => ?_, fun j U hj => ?_⟩
  · rcases List.mem_append.mp hU with e | e
    · exact k.new U e
    · simp at e; subst e; exact ⟨hN, Heap.lt_size hp⟩
  · by_cases hj2 : j < Ts.length
    · rw [List.getElem?_append_left hj2] at hj
      exact k.is j U hj
    · have hj3 : j = Ts.length := by
        have := (List.getElem?_eq_some_iff.mp hj).1
        simp at this
        omega
      subst hj3
      rw [List.getElem?_append_right (Nat.le_refl _)] at hj
      simp at hj
      subst hj
      exact ⟨x, y, hp, ex, ey⟩
section
variable {prog : Program} {w : World} {A : Around} {R : Result → Shared → Prop} {z TI TO i1 i2 l1 l2 : Addr} {xs ys : Array Value}
theorem z_item {s : Shared} {N : Nat} {Ts : List Addr} {Q : Option Value → Shared → Prop} {E : Value → Shared → Prop} (D : ZipApart z TI TO i1 i2 l1 l2) (hN : N ≤ s.heap.objs.size) (hlt : Ts.length < min xs.size ys.size) (k : ZAt z TI TO i1 i2 l1 l2 xs ys N Ts s.heap) (g : ZGave xs ys N Ts s.heap) (hw : ∀ b ∈ [z, TO, i1, i2], b < N)
    (hQ : ∀ h' T, ZAt z TI TO i1 i2 l1 l2 xs ys N (Ts ++ [T]) h' → ZGave xs ys N (Ts ++ [T]) h' → s.heap.objs.size ≤ h'.objs.size → (∀ b o, b ∉ [z, TO, i1, i2] → s.heap.get? b = some o → h'.get? b = some o) → Q (some (.ref T)) { s with heap := h' }) :
    wpAny (model prog w) A (pyNext (.ref z)) Q E s := by
  have hix : Ts.length < xs.size := Nat.lt_of_lt_of_le hlt (Nat.min_le_left ..)
  have hiy : Ts.length < ys.size := Nat.lt_of_lt_of_le hlt (Nat.min_le_right ..)
  have ex := Array.getElem?_eq_getElem hix
  have ey := Array.getElem?_eq_getElem hiy
  have lt : ∀ {c o}, s.heap.get? c = some o → s.heap.objs.size ≠ c := fun e => Nat.ne_of_gt (Heap.lt_size e)
  have n1 : s.heap.objs.size ≠ i1 := let ⟨_, e, _⟩ := k.it1; lt e
  have n2 : s.heap.objs.size ≠ i2 := let ⟨_, e, _⟩ := k.it2; lt e
  have tl : ∀ U ∈ Ts, U < s.heap.objs.size := fun U hU => (g.new U hU).2
  rcases k.own with ⟨hz, a, b, hTO⟩ | ⟨T, f, oT, hz, hT, r1, r2, r3, r4⟩
  · refine wpAny_pyNext_zip_item D hz k.pTI hTO k.it1 k.it2 k.li1 k.li2 ex ey fun h' a1 a2 a3 a4 a5 a6 hk => ?_
    have hk' : ∀ c o, c ∉ [z, TO, i1, i2] → s.heap.get? c = some o → h'.get? c = some o := fun c o hc e => hk c o (fun x => hc (by simp [x])) (fun x => hc (by simp [x])) (fun x => hc (by simp [x])) (fun x => hc (by simp [x])) e
    exact hQ h' _ ⟨hk _ _ D.TIz D.TITO D.TIi1 D.TIi2 k.pTI, by simpa using a3, by simpa using a4, k.li1.at fun o e => hk _ o D.l1z D.l1TO D.l1i1 D.l1i2 e, k.li2.at fun o e => hk _ o D.l2z D.l2TO D.l2i1 D.l2i2 e,
      .inr ⟨s.heap.objs.size, false, _, a1, a5, lt hz, n1, n2, hN⟩⟩ ((g.frame hw (by omega) hk').snoc tl hN a5 ex ey) (by omega) hk'
  · refine wpAny_pyNext_zip_item_held D hz hT k.pTI k.it1 k.it2 k.li1 k.li2 ex ey fun h' a1 a3 a4 a5 a6 hk => ?_
    have hk' : ∀ c o, c ∉ [z, TO, i1, i2] → s.heap.get? c = some o → h'.get? c = some o := fun c o hc e => hk c o (fun x => hc (by simp [x])) (fun x => hc (by simp [x])) (fun x => hc (by simp [x])) e
    exact hQ h' _ ⟨hk _ _ D.TIz D.TIi1 D.TIi2 k.pTI, by simpa using a3, by simpa using a4, k.li1.at fun o e => hk _ o D.l1z D.l1i1 D.l1i2 e, k.li2.at fun o e => hk _ o D.l2z D.l2i1 D.l2i2 e,
      .inr ⟨T, true, oT, a1, hk _ _ r1 r2 r3 hT, r1, r2, r3, r4⟩⟩ ((g.frame hw (by omega) hk').snoc tl hN a5 ex ey) (by omega) hk'
theorem z_done {s : Shared} {N : Nat} {Ts : List Addr} {Q : Option Value → Shared → Prop} {E : Value → Shared → Prop} (hh : A.handled = none) (D : ZipApart z TI TO i1 i2 l1 l2) (hlt : Ts.length = min xs.size ys.size) (k : ZAt z TI TO i1 i2 l1 l2 xs ys N Ts s.heap)
    (hQ : ∀ h', (∀ b o, b ∉ [z, TO, i1, i2] → s.heap.get? b = some o → h'.get? b = some o) → Q none { s with heap := h' }) : wpAny (model prog w) A (pyNext (.ref z)) Q E s := by
  have hend : xs[Ts.length]? = none ∨ ys[Ts.length]? = none := by
    rw [hlt]
    rcases Nat.le_total xs.size ys.size with h | h
    · exact .inl (Array.getElem?_eq_none (by rw [Nat.min_eq_left h]; exact Nat.le_refl _))
    · exact .inr (Array.getElem?_eq_none (by rw [Nat.min_eq_right h]; exact Nat.le_refl _))
  rcases k.own with ⟨hz, a, b, hTO⟩ | ⟨T, f, oT, hz, hT, r1, r2, r3, r4⟩
  · exact wpAny_pyNext_zip_end hh D hz k.pTI hTO k.it1 k.it2 k.li1 k.li2 hend fun h' hk => hQ h' fun c o hc e => hk c o (fun x => hc (by simp [x])) (fun x => hc (by simp [x])) (fun x => hc (by simp [x])) (fun x => hc (by simp [x])) e
  · exact wpAny_pyNext_zip_end_held hh D hz hT k.pTI k.it1 k.it2 k.li1 k.li2 hend fun h' hk => hQ h' fun c o hc e => hk c o (fun x => hc (by simp [x])) (fun x => hc (by simp [x])) (fun x => hc (by simp [x])) e
/-- the list that is being filled -/
def LstAt (h : Heap) (S : Addr) (Ts : List Addr) : Prop := ∃ (acc : Array Value) (c : Nat), h.get? S = some { cls := .type "list", dict := none, data := .seq acc c, slots := #[] } ∧ acc.toList = Ts.map Value.ref
theorem z_loop (hh : A.handled = none) (D : ZipApart z TI TO i1 i2 l1 l2) (hn : min xs.size ys.size ≤ sizeLine) {S N : Addr} (res : Value) (hSN : S < N) (hS : S ∉ [z, TI, TO, i1, i2, l1, l2]) (hw : ∀ b ∈ [z, TO, i1, i2], b < N) {h0 : Heap} :
    ∀ (k : Nat) (Ts : List Addr) (s : Shared), min xs.size ys.size - Ts.length = k → Ts.length ≤ min xs.size ys.size → N ≤ s.heap.objs.size → ZAt z TI TO i1 i2 l1 l2 xs ys N Ts s.heap → ZGave xs ys N Ts s.heap → LstAt s.heap S Ts → (∀ b o, b ∉ [S, z, TO, i1, i2] → h0.get? b = some o → s.heap.get? b = some o) →
    (∀ h' Ts', Ts'.length = min xs.size ys.size → ZGave xs ys N Ts' h' → LstAt h' S Ts' → (∀ b o, b ∉ [S, z, TO, i1, i2] → h0.get? b = some o → h'.get? b = some o) → R (.ok (.ret res)) { s with heap := h' }) →
    codeAny (model prog w) A (.builtin "list.extend.loop" ⟨[.ref S, .ref z, res], []⟩) R s := by
  have sub : ∀ b, b ∉ [S, z, TO, i1, i2] → b ∉ [z, TO, i1, i2] := fun b h hm => h (List.mem_cons_of_mem _ hm)
  have hSw : S ∉ [z, TO, i1, i2] := fun hm => hS (by simp at hm ⊢; rcases hm with e | e | e | e <;> simp [e])
  intro k
  induction k with
  | zero =>
    intro Ts s hk hle hN st g hl keep hR
    refine codeAny_builtin F.entry_extend_loop ?_
    rw [Around.under_plainId F.plain_extend_loop _]
    refine wpAny_bind (z_done (A := A.in1) (by exact hh) D (by omega) st fun h' hk' => ?_)
    obtain ⟨acc, c, hl, ha⟩ := hl
    refine wpAny_pure (hR h' Ts (by omega) ?_ ⟨acc, c, hk' _ _ hSw hl, ha⟩ fun b o hb e => hk' b o (sub b hb) (keep b o hb e))
    have is' : ∀ (j : Nat) (T : Addr), Ts[j]? = some T → ∃ x y, IsPair h' T x y ∧ xs[j]? = some x ∧ ys[j]? = some y := fun j T hj => by
      obtain ⟨x, y, hp, ex, ey⟩ := g.is j T hj
      exact ⟨x, y, hk' _ _ (fun hm => absurd (g.new T (List.mem_of_getElem? hj)).1 (Nat.not_le_of_lt (hw T hm))) hp, ex, ey⟩
    refine ⟨g.up, fun T hT => ⟨(g.new T hT).1, ?_⟩, is'⟩
    obtain ⟨j, hj, e⟩ := List.getElem_of_mem hT
    obtain ⟨x, y, hp, _⟩ := is' j T (by rw [List.getElem?_eq_getElem hj, e])
    exact Heap.lt_size hp
  | succ k ih =>
    intro Ts s hk hle hN st g hl keep hR
    refine codeAny_builtin F.entry_extend_loop ?_
    rw [Around.under_plainId F.plain_extend_loop _]
    refine wpAny_bind (z_item (A := A.in1) D hN (by omega) st g hw fun h' T st' g' hsz hk' => ?_)
    obtain ⟨acc, c, hl, ha⟩ := hl
    have la : acc.size = Ts.length := by rw [← Array.length_toList, ha, List.length_map]
    have hl' := hk' _ _ hSw hl
    refine wpAny_bind ?_
    have oth : ∀ (b : Addr) (o : Obj), b ≠ S → h'.get? b = some o → (h'.update S (Obj.mapSeq (·.push (.ref T)))).get? b = some o := fun b o hb e => (Heap.get?_update_other _ _ (Ne.symm hb)).trans e
    refine wpAny_updateSeq hl' rfl (wpAny_pure ⟨plainId_quiet F.plain_extend_loop _, ih (Ts ++ [T]) _ (by simp; omega) (by simp; omega) ?_ (st'.frame hSN hS oth) ?_ ⟨_, _, Heap.get?_update_self _ hl' rfl, ?_⟩ ?_ hR⟩) (by rw [la]; omega) (by show (acc.push (.ref T)).size ≤ sizeLine + 1; rw [Array.size_push, la]; omega)
    · show N ≤ (h'.update S _).objs.size
      rw [Heap.size_update]
      exact Nat.le_trans hN hsz
    · refine g'.frame (S := [S]) (by simpa using hSN) (by rw [Heap.size_update]; exact Nat.le_refl _) fun b o hb e => oth b o (by simpa using hb) e
    · simp [ha]
    · exact fun b o hb e => oth b o (fun q => hb (by simp [q])) (hk' b o (sub b hb) (keep b o hb e))
theorem z_hint {s : Shared} {Q : Bool → Shared → Prop} {E : Value → Shared → Prop} (hT : s.TypeIs (.ref z) "zip") (h : Q true s) : wpAny (model prog w) A (Builtin.List.listLengthHint (.ref z)) Q E s := by
  unfold Builtin.List.listLengthHint
  refine wpAny_bind (wpAny_specialOf hT zip_no_len ?_)
  show wpAny _ _ (specialOf (Value.ref z) (Str.ofString "__length_hint__") >>= _) _ _ _
  refine wpAny_bind (wpAny_specialOf hT zip_no_hint ?_)
  exact wpAny_pure h
theorem z_type {N : Nat} {Ts : List Addr} {s : Shared} (k : ZAt z TI TO i1 i2 l1 l2 xs ys N Ts s.heap) : s.TypeIs (.ref z) "zip" := by
  rcases k.own with ⟨hz, _⟩ | ⟨T, f, oT, hz, _⟩
  · exact ⟨_, hz, rfl⟩
  · exact ⟨_, hz, rfl⟩
theorem z_extend {s : Shared} (hh : A.handled = none) (D : ZipApart z TI TO i1 i2 l1 l2) (hn : min xs.size ys.size ≤ sizeLine) {S N : Addr} (res : Value) (hSN : S < N) (hS : S ∉ [z, TI, TO, i1, i2, l1, l2]) (hw : ∀ b ∈ [z, TO, i1, i2], b < N) (hN : N ≤ s.heap.objs.size)
    (hz : IsZip s.heap z TI TO .none) (hTO : ∃ a b, IsPair s.heap TO a b) (st : ZAt z TI TO i1 i2 l1 l2 xs ys N [] s.heap) {c0 : Nat} (hl : s.heap.get? S = some { cls := .type "list", data := .seq #[] c0 })
    (hR : ∀ h' Ts', Ts'.length = min xs.size ys.size → ZGave xs ys N Ts' h' → LstAt h' S Ts' → (∀ b o, b ∉ [S, z, TO, i1, i2] → s.heap.get? b = some o → h'.get? b = some o) → R (.ok (.ret res)) { s with heap := h' }) :
    wpAny (model prog w) A.in1 (Builtin.List.listExtendWith (.ref S) (.ref z) res)
      (fun fin s' => match fin with | .done f => R (.ok f) s' | .again c' => c'.quiet = true ∧ codeAny (model prog w) A c' R s') (fun e s' => R (.error e) s') s := by
  have hT : s.TypeIs (.ref z) "zip" := z_type st
  have hSz : S ≠ z := fun e => hS (by simp [e])
  unfold Builtin.List.listExtendWith
  refine wpAny_bind (wpAny_typeOf hT ?_)
  have h1 : Builtin.List.listSameRef (.ref S) (.ref z) = false := by simp [Builtin.List.listSameRef, hSz]
  have h2 : (Value.type "zip" == Value.type "list") = false := by decide
  have h3 : (Value.type "zip" == Value.type "tuple") = false := by decide
  simp only [h1, h2, h3, Bool.or_false, Bool.false_eq_true, if_false]
  refine wpAny_bind (wpAny_pyIter_zip hz ?_)
  refine wpAny_bind (wpAny_holding (z_hint hT ?_))
  have gave : ∀ h : Heap, ZGave xs ys N [] h := fun h => ⟨.nil, by simp, by simp⟩
  have key : ∀ (h : Heap) (c1 : Nat), N ≤ h.objs.size → (∀ b o, b ≠ S → s.heap.get? b = some o → h.get? b = some o) → h.get? S = some { cls := .type "list", data := .seq #[] c1 } →
      codeAny (model prog w) A (.builtin "list.extend.loop" ⟨[.ref S, .ref z, res], []⟩) R { s with heap := h } := fun h c1 hN' hk hS1 =>
    z_loop hh D hn res hSN hS hw (h0 := s.heap) _ [] _ rfl (Nat.zero_le _) hN' (st.frame hSN hS hk) (gave h) ⟨_, _, hS1, rfl⟩ (fun b o hb e => hk b o (fun q => hb (by simp [q])) e) hR
  refine wpAny_ite_split (fun _ => ?_) (fun _ => wpAny_pure ⟨plainId_quiet F.plain_extend_loop _, key _ c0 hN (fun b o _ e => e) hl⟩)
  refine wpAny_bind (wpAny_rule ?_)
  refine wpAny_bind ?_
  show wpAny _ _ (updateSeq S (·.push .none) >>= fun _ => updateSeq S (·.pop)) _ _ _
  refine wpAny_bind (wpAny_updateSeq hl rfl ?_)
  have hS2 := Heap.get?_update_self (Obj.mapSeq (·.push Value.none)) hl rfl
  refine wpAny_updateSeq (hz := by seq_fits) hS2 rfl ?_
  have hS3 := Heap.get?_update_self (Obj.mapSeq (·.pop)) hS2 rfl
  refine wpAny_pure ⟨plainId_quiet F.plain_extend_loop _, key _ _ ?_ (fun b o hb e => ?_) hS3⟩
  · rw [Heap.size_update, Heap.size_update]; exact hN
  · exact (Heap.get?_update_other _ _ (Ne.symm hb)).trans ((Heap.get?_update_other _ _ (Ne.symm hb)).trans e)
/-- list(z), z a zip of two lists that nothing was drawn from -/
theorem call_list_zip {s : Shared} {Q : Value → Shared → Prop} {E : Value → Shared → Prop} (hh : A.handled = none) (D : ZipApart z TI TO i1 i2 l1 l2) (hn : min xs.size ys.size ≤ sizeLine) (hb : ∀ b ∈ [z, TI, TO, i1, i2, l1, l2], b < s.heap.objs.size)
    (hz : IsZip s.heap z TI TO .none) (hTI : IsPair s.heap TI (.ref i1) (.ref i2)) (hTO : ∃ a b, IsPair s.heap TO a b) (h1 : s.heap.IsListIter i1 l1 0) (h2 : s.heap.IsListIter i2 l2 0) (hl1 : s.heap.IsList l1 xs) (hl2 : s.heap.IsList l2 ys)
    (hQ : ∀ h' Ts, Ts.length = min xs.size ys.size → ZGave xs ys (s.heap.objs.size + 1) Ts h' → LstAt h' s.heap.objs.size Ts → (∀ b o, b ∉ [z, TO, i1, i2] → s.heap.get? b = some o → h'.get? b = some o) → Q (.ref s.heap.objs.size) { s with heap := h' }) :
    wpAny (model prog w) A (call (.type "list") [.ref z]) Q E s := by
  refine callType_codes (Q₁ := fun obj s₁ => obj = .ref s.heap.objs.size ∧ s₁ = { s with heap := s.heap.push { cls := .type "list", data := .seq #[] } }) PySem.F.called_list (PySem.F.typeCall_list_1 _) PySem.F.entry_list_init
    (code_list_new _ ⟨rfl, rfl⟩) fun obj s₁ h₁ => ?_
  obtain ⟨rfl, rfl⟩ := h₁
  have hS : (s.heap.push { cls := .type "list", data := .seq #[] }).get? s.heap.objs.size = some { cls := .type "list", data := .seq #[] } := Heap.get?_push_size _ rfl
  refine ⟨⟨_, hS, rfl⟩, PySem.F.args_list_init_2 _ _, ?_⟩
  show wpAny _ _ (do let old ← Builtin.List.listItems (.ref s.heap.objs.size); Builtin.List.listUpdate (.ref s.heap.objs.size) (fun _ => #[]); letGo old.toList.reverse; Builtin.List.listExtendWith (.ref s.heap.objs.size) (.ref z) .none) _ _ _
  refine wpAny_bind ?_
  unfold Builtin.List.listItems
  refine wpAny_bind (wpAny_seqItems hS rfl (wpAny_pure ?_))
  show wpAny _ _ (updateSeq s.heap.objs.size (fun _ => #[]) >>= fun _ => letGo (#[] : Array Value).toList.reverse >>= fun _ => Builtin.List.listExtendWith (.ref s.heap.objs.size) (.ref z) .none) _ _ _
  refine wpAny_bind (wpAny_updateSeq hS rfl ?_)
  have hS2 := Heap.get?_update_self (Obj.mapSeq (fun _ => (#[] : Array Value))) hS rfl
  have oth : ∀ b o, s.heap.get? b = some o → ((s.heap.push { cls := .type "list", data := .seq #[] }).update s.heap.objs.size (Obj.mapSeq (fun _ => (#[] : Array Value)))).get? b = some o := fun b o e =>
    (Heap.get?_update_other _ _ (Nat.ne_of_gt (Heap.lt_size e))).trans (Heap.get?_push_of_some _ e)
  have hsz : ((s.heap.push { cls := .type "list", data := .seq #[] }).update s.heap.objs.size (Obj.mapSeq (fun _ => (#[] : Array Value)))).objs.size = s.heap.objs.size + 1 := by rw [Heap.size_update, Heap.size_push]
  have lt7 : ∀ b ∈ [z, TO, i1, i2], b < s.heap.objs.size := fun b hm => hb b (by simp at hm ⊢; rcases hm with e | e | e | e <;> simp [e])
  refine wpAny_bind (wpAny_letGo ?_)
  have hTO2 : ∃ a b, IsPair ((s.heap.push { cls := .type "list", data := .seq #[] }).update s.heap.objs.size (Obj.mapSeq (fun _ => (#[] : Array Value)))) TO a b := let ⟨a, b, e⟩ := hTO; ⟨a, b, oth _ _ e⟩
  have st2 : ZAt z TI TO i1 i2 l1 l2 xs ys (s.heap.objs.size + 1) [] ((s.heap.push { cls := .type "list", data := .seq #[] }).update s.heap.objs.size (Obj.mapSeq (fun _ => (#[] : Array Value)))) :=
    ⟨oth _ _ hTI, h1.at fun o e => oth _ o e, h2.at fun o e => oth _ o e, hl1.at fun o e => oth _ o e, hl2.at fun o e => oth _ o e, .inl ⟨oth _ _ hz, hTO2⟩⟩
  refine z_extend (prog := prog) (w := w) (A := A.in1) (s := { s with heap := (s.heap.push { cls := .type "list", data := .seq #[] }).update s.heap.objs.size (Obj.mapSeq (fun _ => (#[] : Array Value))) }) (N := s.heap.objs.size + 1) hh D hn .none (Nat.lt_succ_self _) (fun hm => Nat.lt_irrefl _ (hb _ hm)) (fun b hm => Nat.lt_succ_of_lt (lt7 b hm)) (Nat.le_of_eq hsz.symm) (oth _ _ hz) hTO2 st2 hS2 fun h' Ts l g la k => ?_
  exact ⟨rfl, hQ h' Ts l g la fun b o hm e => k b o (fun q => by
    rcases List.mem_cons.mp q with q | q
    · exact absurd (Heap.lt_size e) (by rw [q]; exact Nat.lt_irrefl _)
    · exact hm q) (oth b o e)⟩
end
section
variable {X : Cx} {pins : List (Addr × Obj)} {σ : L2.St}
def layAll (os : List (Addr × HO)) (H : Hp) : Hp := os.foldl (fun H p => upd H p.1 p.2) H
theorem inv_layMany {h' : Heap} {t' : Nat} : ∀ (os : List (Addr × HO)) {H : Hp} {s : Shared}, Inv X pins σ H s → (∀ b u, s.heap.get? b = some u → h'.get? b = some u) → (os.map Prod.fst).Nodup → (∀ p ∈ os, s.heap.get? p.1 = none ∧ H p.1 = none) →
    (∀ p ∈ os, ∀ (G : Heap) (H2 : Hp), (∀ o, h'.get? p.1 = some o → G.get? p.1 = some o) → ObjOk X.prog X.w H2 G p.1 p.2) → Inv X pins σ (layAll os H) { s with heap := h', toks := t' }
  | [], H, s, I, k, _, _, _ => I.kept k
  | p :: r, H, s, I, k, nd, fr, ok => by
    obtain ⟨G, g1, g2⟩ := restrict h' fun b => (s.heap.get? b).isSome || b == p.1
    have nd' := List.nodup_cons.mp nd
    have k1 : ∀ b u, s.heap.get? b = some u → G.get? b = some u := fun b u e => by
      rw [g1 b (by simp [e])]
      exact k b u e
    have gp : G.get? p.1 = h'.get? p.1 := g1 _ (by simp)
    have I1 := I.laidN (h' := G) (t' := s.toks) k1 (fr p List.mem_cons_self).1 (fr p List.mem_cons_self).2 (ok p List.mem_cons_self G _ fun o e => gp.trans e)
    refine inv_layMany r (s := { s with heap := G }) I1 (fun b u e => ?_) nd'.2 (fun q hq => ?_) fun q hq => ok q (List.mem_cons_of_mem _ hq)
    · cases hb : ((s.heap.get? b).isSome || b == p.1) with
      | true => rw [← g1 b hb]; exact e
      | false =>
        have := g2 b hb
        rw [show G.get? b = some u from e] at this
        cases this
    · have hne : q.1 ≠ p.1 := fun e => nd'.1 (e ▸ List.mem_map.mpr ⟨q, hq, rfl⟩)
      obtain ⟨f1, f2⟩ := fr q (List.mem_cons_of_mem _ hq)
      refine ⟨g2 _ (by simp [f1, hne]), ?_⟩
      show upd H p.1 p.2 q.1 = none
      rw [upd_ne hne]; exact f2
theorem vals_adr : ∀ bs : List Addr, Vals (bs.map V.ref) (bs.map Value.ref)
  | [] => .nil
  | _ :: r => .cons rfl (vals_adr r)
def zipOs (q : Addr) (Ts : List Addr) (xs ys : List V) : List (Addr × HO) := (q, .lst (Ts.map V.ref)) :: (Ts.zip (xs.zip ys)).map fun p => (p.1, .tup [p.2.1, p.2.2])
def tListZip (K : PySem.W.Frag) (ta : TA) : TE := fun σ H Q => ta σ H fun vs H1 => ∃ a b xs ys, vs = [.ref a, .ref b] ∧ SqL K H1 a xs ∧ SqL K H1 b ys ∧
  ∀ (q : Addr) (Ts : List Addr), H1 q = none → Ts.Nodup → q ∉ Ts → (∀ T ∈ Ts, H1 T = none) → Ts.length = min xs.length ys.length → Q (.ref q) (layAll (zipOs q Ts xs ys) H1)
theorem pe_listZip {e e2 : Expr} {ta : TA} {p p0 pos pos0 : Pos} (hc : X.calm = true) (hg0 : Gl X "list") (hm0 : X.mg "list" = none) (hg : Gl X "zip") (hm : X.mg "zip" = none) (ha : PA X [e, e2] ta)
    (hs : starEach [e, e2] X.env = (false, eval e X.env) :: starEach [e2] X.env := by rfl) (hpl : (backTo pos (starEach [e2] X.env)).any (·.1) = false := by rfl)
    (na : starEach [.Call (.Name "zip" p) [e, e2] [] pos] X.env = (false, eval (.Call (.Name "zip" p) [e, e2] [] pos) X.env) :: starEach [] X.env := by rfl) :
    PE X (.Call (.Name "list" p0) [.Call (.Name "zip" p) [e, e2] [] pos] [] pos0) (tListZip X.K ta) := by
  refine ⟨fun pins s σ H Q I h => ?_⟩
  refine Call_ (ld_blt I hg0 hm0 boot_list (PyProof.Rows.callWith_type1 (args_cons (Call_ (ld_blt I hg hm PyProof.Rows.boot_zip (PyProof.Rows.callWith_type1 (thn (ha.run pos pins s σ H _ I h) fun us s1 ⟨vs, H1, I1, r1, q1⟩ => ?_) hs hpl))) na) na))
  obtain ⟨a, b, xs, ys, ex, hqx, hqy, q⟩ := q1
  subst ex
  cases r1 with
  | cons r rr =>
    cases rr with
    | cons r' rr =>
      cases rr
      cases r
      cases r'
      obtain ⟨its, rv, p1, sz1⟩ := I1.list hqx
      obtain ⟨its2, rv2, p2, _⟩ := I1.list hqy
      have la : a < s1.heap.objs.size := p1.lt
      have lb : b < s1.heap.objs.size := p2.lt
      refine call_zip_2 p1.isList p2.isList fun hz' hz hTI hTO h1 h2 hsz hk => ?_
      refine args_nil ?_
      have l1 : its.length = xs.length := rv.length.symm
      have l2 : its2.length = ys.length := rv2.length.symm
      refine call_list_zip (s := { s1 with heap := hz' }) (I1.ok.hd hc) (PySem.W.ktu_apart s1.heap.objs.size a b la lb) (by simp; omega) (fun c hcm => ?_) hz hTI ⟨_, _, hTO⟩ h1 h2 (p1.isList.at fun o e => hk _ o e) (p2.isList.at fun o e => hk _ o e) fun h' Ts hl g lst hk' => ?_
      · have e' : c = s1.heap.objs.size + 4 ∨ c = s1.heap.objs.size + 2 ∨ c = s1.heap.objs.size + 3 ∨ c = s1.heap.objs.size ∨ c = s1.heap.objs.size + 1 ∨ c = a ∨ c = b := by simpa using hcm
        show c < hz'.objs.size
        rw [hsz]
        have la' : a < s1.heap.objs.size + 5 := Nat.lt_of_lt_of_le la (Nat.le_add_right _ _)
        have lb' : b < s1.heap.objs.size + 5 := Nat.lt_of_lt_of_le lb (Nat.le_add_right _ _)
        rcases e' with z | z | z | z | z | z | z <;> subst z <;> first | exact la' | exact lb' | exact Nat.add_lt_add_left (by decide) _ | exact Nat.lt_add_of_pos_right (by decide)
      · have hle : s1.heap.objs.size ≤ hz'.objs.size := by rw [hsz]; exact Nat.le_add_right _ _
        have hTn : ∀ T ∈ Ts, s1.heap.objs.size ≤ T ∧ hz'.objs.size ≠ T := fun T hT => by
          have := (g.new T hT).1
          exact ⟨Nat.le_trans hle (Nat.le_of_succ_le this), fun e => Nat.not_succ_le_self _ (e ▸ this)⟩
        have nd : Ts.Nodup := g.up.imp fun h => Nat.ne_of_lt h
        have hSn : hz'.objs.size ∉ Ts := fun hm => (hTn _ hm).2 rfl
        have hlen : Ts.length = min xs.length ys.length := by rw [hl]; simp [l1, l2]
        have hnone : ∀ c, s1.heap.objs.size ≤ c → s1.heap.get? c = none := fun c hc => by
          cases e : s1.heap.get? c with
          | none => rfl
          | some o => exact absurd (Heap.lt_size e) (Nat.not_lt_of_le hc)
        have keep : ∀ c o, s1.heap.get? c = some o → h'.get? c = some o := fun c o e => by
          refine hk' c o (fun hm => ?_) (hk c o e)
          have e' : c = s1.heap.objs.size + 4 ∨ c = s1.heap.objs.size + 3 ∨ c = s1.heap.objs.size ∨ c = s1.heap.objs.size + 1 := by simpa using hm
          have hlt := Heap.lt_size e
          have : s1.heap.objs.size ≤ c := by rcases e' with z | z | z | z <;> subst z <;> first | exact Nat.le_add_right _ _ | exact Nat.le_refl _
          exact Nat.not_lt_of_le this hlt
        have fsts : ((Ts.zip (xs.zip ys)).map fun p => ((p.1, HO.tup [p.2.1, p.2.2]) : Addr × HO)).map Prod.fst = Ts := by
          rw [List.map_map]
          show (Ts.zip (xs.zip ys)).map Prod.fst = Ts
          exact List.map_fst_zip (by rw [List.length_zip, hlen]; exact Nat.le_refl _)
        refine ⟨.ref hz'.objs.size, layAll (zipOs hz'.objs.size Ts xs ys) H1, inv_layMany (s := s1) (t' := s1.toks) _ I1 keep ?_ ?_ ?_, rfl, q _ _ (I1.hok.fresh hle) nd hSn (fun T hT => I1.hok.fresh (hTn T hT).1) hlen⟩
        · show (hz'.objs.size :: _).Nodup
          rw [fsts]
          exact List.nodup_cons.mpr ⟨hSn, nd⟩
        · intro p hp
          have : s1.heap.objs.size ≤ p.1 := by
            rcases List.mem_cons.mp hp with e | hp
            · rw [e]; exact hle
            · have hm : p.1 ∈ Ts := by rw [← fsts]; exact List.mem_map.mpr ⟨p, hp, rfl⟩
              exact (hTn _ hm).1
          exact ⟨hnone _ this, I1.hok.fresh this⟩
        · intro p hp G H2 hG
          rcases List.mem_cons.mp hp with e | hp
          · subst e
            obtain ⟨acc, c, e1, e2⟩ := lst
            refine ⟨by rw [List.length_map, hlen]; omega, acc.toList, c, ?_, ?_⟩
            · rw [e2]; exact vals_adr Ts
            · rw [Array.toArray_toList]; exact hG _ e1
          · obtain ⟨z, hz, e⟩ := List.mem_map.mp hp
            subst e
            obtain ⟨j, hj, e⟩ := List.getElem_of_mem hz
            have ej : (Ts.zip (xs.zip ys))[j]? = some z := by rw [List.getElem?_eq_getElem hj, e]
            obtain ⟨j1, j2⟩ := List.getElem?_zip_eq_some.mp ej
            obtain ⟨j3, j4⟩ := List.getElem?_zip_eq_some.mp j2
            obtain ⟨x, y, hp2, ex, ey⟩ := g.is j z.1 j1
            obtain ⟨u, hu, ru⟩ := rv.get j3
            obtain ⟨u2, hu2, ru2⟩ := rv2.get j4
            have ex' : u = x := by
              have : its[j]? = some x := by simpa using ex
              rw [this] at hu; cases hu; rfl
            have ey' : u2 = y := by
              have : its2[j]? = some y := by simpa using ey
              rw [this] at hu2; cases hu2; rfl
            subst ex' ey'
            exact ⟨by show 2 ≤ sizeLine; decide, [u, u2], .cons ru (.cons ru2 .nil), ⟨_, hG _ hp2, rfl, _, rfl⟩⟩
theorem layAll_ne {a : Addr} : ∀ {os : List (Addr × HO)} {H : Hp}, a ∉ os.map Prod.fst → layAll os H a = H a
  | [], _, _ => rfl
  | p :: r, H, h => by
    have h' : a ≠ p.1 ∧ a ∉ r.map Prod.fst := ⟨fun e => h (e ▸ List.mem_cons_self), fun m => h (List.mem_cons_of_mem _ m)⟩
    show layAll r (upd H p.1 p.2) a = H a
    rw [layAll_ne h'.2, upd_ne h'.1]
theorem layAll_at : ∀ {os : List (Addr × HO)} {H : Hp} {p : Addr × HO}, (os.map Prod.fst).Nodup → p ∈ os → layAll os H p.1 = some p.2
  | q :: r, H, p, nd, h => by
    have nd' := List.nodup_cons.mp nd
    show layAll r (upd H q.1 q.2) p.1 = some p.2
    rcases List.mem_cons.mp h with e | h
    · subst e
      rw [layAll_ne nd'.1, upd_same]
    · exact layAll_at nd'.2 h
theorem layAll_same {os : List (Addr × HO)} {H : Hp} (h : ∀ p ∈ os, H p.1 = none) : Same H (layAll os H) := fun a o e => by
  rw [layAll_ne fun hm => ?_]
  · exact e
  · obtain ⟨p, hp, rfl⟩ := List.mem_map.mp hm
    rw [h p hp] at e
    cases e
theorem rp_zip {K : PySem.W.Frag} {F : Addr → Prop} {H : Hp} : ∀ {vs1 vs2 : List V} {ds es : List PyData} {Ts : List Addr}, FzAll K F H vs1 ds → FzAll K F H vs2 es → Ts.length = min vs1.length vs2.length → (∀ p ∈ Ts.zip (vs1.zip vs2), H p.1 = some (.tup [p.2.1, p.2.2])) → RpAll K F H (Ts.map V.ref) (zipItems ds es) []
  | _, _, _, _, [], .nil, _, _, _ => .nil
  | _, _, _, _, [], .cons _ _, .nil, _, _ => .nil
  | _, _, _, _, [], .cons _ _, .cons _ _, h, _ => by simp at h
  | _, _, _, _, _ :: _, .nil, _, h, _ => by simp at h
  | _, _, _, _, _ :: _, .cons _ _, .nil, h, _ => by simp at h
  | _, _, _, _, T :: Ts, .cons f r, .cons f2 r2, h, k => .cons (A := []) (B := []) (.d (.tup (.of (k _ List.mem_cons_self)) (.cons f (.cons f2 .nil)))) (rp_zip r r2 (by simp at h; omega) fun p hp => k p (List.mem_cons_of_mem _ hp))
def mListZip (m : MA) : MEx := fun ρ => (m ρ).bind fun r => match r.1 with | [.d (.list ds), .d (.list es)] => .ok (.ol (zipItems ds es), r.2) | _ => .bad
theorem sim_listZip {K : PySem.W.Frag} {E : Str → Hp → Prop} {ta : TA} {m : MA} {g : Bool} (s : SimA K E g ta m) : SimE K E g (tListZip K ta) (mListZip m) := by
  intro c H tv td σ ρ hl st Q q
  unfold mListZip at q
  rw [then_bind] at q
  refine s c H tv td σ ρ hl st _ (q.imp ?_)
  rintro ⟨ts, ρ1⟩ q1 vs H1 sm1 hvs st1
  dsimp only at q1 hvs st1
  split at q1
  · rename_i ds es
    match vs, hvs, st1 with
    | [v, u], _, st1 =>
      obtain ⟨A, w⟩ := st1
      obtain ⟨f, w2⟩ := StW.topD w
      obtain ⟨f2, w3⟩ := StW.topD w2
      cases f with
      | @lst a vs1 _ h _ f =>
        cases f2 with
        | @lst b vs2 _ h2 _ f2 =>
          refine ⟨a, b, vs1, vs2, rfl, .of h, .of h2, fun q Ts hq nd hqT hT hlen => ?_⟩
          have fsts : ((Ts.zip (vs1.zip vs2)).map fun p => ((p.1, HO.tup [p.2.1, p.2.2]) : Addr × HO)).map Prod.fst = Ts := by
            rw [List.map_map]
            show (Ts.zip (vs1.zip vs2)).map Prod.fst = Ts
            exact List.map_fst_zip (by rw [List.length_zip, hlen]; exact Nat.le_refl _)
          have ndo : ((zipOs q Ts vs1 vs2).map Prod.fst).Nodup := by
            show (q :: _).Nodup
            rw [fsts]
            exact List.nodup_cons.mpr ⟨hqT, nd⟩
          have none : ∀ p ∈ zipOs q Ts vs1 vs2, H1 p.1 = none := fun p hp => by
            rcases List.mem_cons.mp hp with e | hp
            · rw [e]; exact hq
            · exact hT _ (by rw [← fsts]; exact List.mem_map.mpr ⟨p, hp, rfl⟩)
          have sm := layAll_same none
          have m0 : Mono (Fok c A) (Fok c (q :: A)) H1 H1 := Fok.fresh hq
          have s2 := (w3.slots.mono m0 fun _ _ => rfl).mono (.same sm) fun a ha => by
            obtain ⟨u, e, _⟩ := w3.slots.own a ha
            rw [sm _ _ e, e]
          have hqA := w3.not_mem_of_none hq
          have rp := rp_zip (Ts := Ts) ((f.mono m0).mono (.same sm)) ((f2.mono m0).mono (.same sm)) hlen fun p hp => layAll_at (H := H1) ndo (List.mem_cons_of_mem _ (List.mem_map.mpr ⟨p, hp, rfl⟩))
          refine q1 _ _ (fun e => (sm1 e).trans sm) ⟨q :: A, fun a => ?_, .cons (A := [q]) (.ol (layAll_at (H := H1) ndo List.mem_cons_self) rp) s2, fun a ha => ?_, w3.keep.grow sm⟩
          · rw [List.count_cons]
            have h2 := w3.uniq a
            by_cases e : q = a
            · subst e
              have : A.count q = 0 := List.count_eq_zero.mpr hqA
              simp [this]
            · have e' : (q == a) = false := by simpa using e
              simp [e']; omega
          · rcases List.mem_cons.mp ha with z | z
            · subst z
              exact .inr (w3.keep.there _ hq)
            · exact w3.own a z
  · exact q1.elim
theorem qe_listZip {E : Str → Hp → Prop} {e e2 : Expr} {ta : TA} {m : MA} {g : Bool} {p p0 pos pos0 : Pos} (hc : X.calm = true) (hm0 : X.mg "list" = none) (hm : X.mg "zip" = none) (ha : QA X E g [e, e2] ta m) (hg0 : Gl X "list" := by rfl) (hg : Gl X "zip" := by rfl)
    (hs : starEach [e, e2] X.env = (false, eval e X.env) :: starEach [e2] X.env := by rfl) (hpl : (backTo pos (starEach [e2] X.env)).any (·.1) = false := by rfl)
    (na : starEach [.Call (.Name "zip" p) [e, e2] [] pos] X.env = (false, eval (.Call (.Name "zip" p) [e, e2] [] pos) X.env) :: starEach [] X.env := by rfl) :
    QE X E g (.Call (.Name "list" p0) [.Call (.Name "zip" p) [e, e2] [] pos] [] pos0) (tListZip X.K ta) (mListZip m) := ⟨pe_listZip hc hg0 hm0 hg hm ha.pa hs hpl na, sim_listZip ha.sim⟩
end
end L3
/-! L3x -/
/-! L3x: a clause `except C:` without a name, at a def's own level; its suite sees no locals. -/
namespace L3
open PySem PySem.Spec PyProof.Rows L2
def mTryO (xs : List Str) (mh mb : MS) : MS := fun ρ => match mb ρ with
  | .exc x => if xs.contains x then mh (List.replicate ρ.length none) else .bad
  | r => r
section
variable {X : Cx} {x : Str} {C : Addr} {b₀ : Stmt} {body suite : List Stmt} {np pos pos' : Pos} {mb mh : MS} {xs : List Str} {E : Str → Hp → Prop}
theorem qs0_tryO (hs : X.stack = X.env :: X.outer) (hf : X.env.frame = some X.env.locals) (hg : Gl X x) (hm : X.mg x = some (.ref C)) (hdb : (x == ("__debug__" : Str)) = false)
    (hcl : ∀ z ∈ xs, ∀ D, clK X.K z = some D → PySem.W.exmOne X.K (.ref D) (.ref C) = some true ∧ ExcC X.K D)
    (hb : ∀ (W : WX) (pn : List (Addr × Obj)) (xe : Value → Shared → Prop), Takes (X.tr pn xe) W → ∃ ts, QSs (X.tr pn xe) (EX (clK X.K) (EkW X W)) [] body ts mb)
    (hu : ∀ (a : Addr) (pn : List (Addr × Obj)), ∃ ts, QSs (X.suite a pn) (fun _ _ => False) [] (b₀ :: suite) ts mh) (hnx : ∀ ρ y, mh ρ ≠ .exc y) :
    QS0 X E [] (.Try body [.ExceptHandler (some (.Name x np)) none (b₀ :: suite) pos'] [] [] pos)
      (fun D σ H => σ.length = X.N.length → tMir X.K (EX (clK X.K) (EkW X (wOnly X.K (.ref C) (fun _ _ _ => tMir X.K (fun _ _ => False) mh) (fun _ _ _ _ => False) D))) mb D σ H) (mTryO xs mh mb) := by
  refine ⟨⟨fun pins s σ H D I h => (ps_try_only (Wout := fun _ _ _ _ => False) (ts := fun _ _ _ => tMir X.K (fun _ _ => False) mh) (tb := fun W => tMir X.K (EX (clK X.K) (EkW X W)) mb) hs hf ⟨hg, hdb, .inl hm⟩ ?tk (fun W pn xe tk _ => let ⟨_, h⟩ := hb W pn xe tk; h.mir) (fun a oe cls d pn _ _ => let ⟨_, h⟩ := hu a ((a, oe) :: pn); h.mir)).run pins s σ H D I (h I.len)⟩, fun c H σ ρ st D q hl0 => ?_⟩
  case tk => exact fun u s' ⟨_, _, _, _, _, _, _, _, _, _, _, _, _, _, _, _, w⟩ => w.elim
  refine ⟨c, ρ, st, ?_⟩
  unfold mTryO at q
  cases e : mb ρ with
  | ok o => rw [e] at q; exact q
  | bad => rw [e] at q; exact q.elim
  | exc z =>
    rw [e] at q
    dsimp only at q
    by_cases hz : xs.contains z = true
    · rw [if_pos hz] at q
      rw [then_exc]
      intro H' kc D' hD σ' hl
      obtain ⟨h1, h2⟩ := hcl z (by simpa using hz) D' hD
      have hlen : ρ.length = σ'.length := by
        obtain ⟨A, w⟩ := st
        rw [← w.slots.len, hl0, hl]
      refine ⟨true, h1, fun _ a ha => ⟨c, List.replicate ρ.length none, ⟨[], fun _ => by simp, by rw [hlen]; exact sl_none σ', fun a h => by simp at h, kc⟩, ?_⟩, fun h => by cases h⟩
      cases eh : mh (List.replicate ρ.length none) with
      | ok o => rw [eh] at q; exact OutTo.from ⟨by rw [hl, hl0], fun _ h => by simp at h⟩ q
      | bad => rw [eh] at q; exact q.elim
      | exc y => exact (hnx _ _ eh).elim
    · rw [if_neg hz] at q
      exact q.elim
end
theorem asgC_nox {x : PyData} {j : Nat} : ∀ ρ y, mAsg (mLift (pC x)) (mgName j) ρ ≠ .exc y := by
  intro ρ y h
  unfold mAsg mLift pC mgName at h
  simp only [R.bind] at h
  split at h <;> (try cases h)
  all_goals (first | (split at h <;> cases h) | (rename_i e; cases e))

/-! ### reverse, clear -/
def opReverse : List T → List T → Option (T × List T) := fun ts us => match us with
  | [] => some (.d .none, ts.reverse)
  | _ => none
def opClear : List T → List T → Option (T × List T) := fun _ us => match us with
  | [] => some (.d .none, [])
  | _ => none
theorem RpAll.rev {K : PySem.W.Frag} {F : Addr → Prop} {H : Hp} : ∀ {vs : List V} {ts : List T} {A : List Addr}, RpAll K F H vs ts A → ∃ B, RpAll K F H vs.reverse ts.reverse B ∧ ∀ a, B.count a = A.count a
  | _, _, _, .nil => ⟨[], .nil, fun _ => rfl⟩
  | _, _, _, .cons x r => by
    obtain ⟨B, h1, h2⟩ := RpAll.rev r
    obtain ⟨C, h3, h4⟩ := h1.snoc x
    refine ⟨C, by simpa using h3, fun a => ?_⟩
    rw [h4, h2, List.count_append]
    omega
theorem reverse_v {K : PySem.W.Frag} : UpdV K rReverse opReverse := by
  intro F H a vs ys ts us A1 A2 r ha r1 r2 e Q q
  unfold opReverse at e
  split at e
  · cases e
    cases r2
    obtain ⟨B, h1, h2⟩ := r1.rev
    exact ⟨a, vs, rfl, rfl, ha, q .non _ [] B (.d .non) h1 fun b => by rw [h2]; simp⟩
  · cases e
theorem clear_v {K : PySem.W.Frag} : UpdV K rClear opClear := by
  intro F H a vs ys ts us A1 A2 r ha r1 r2 e Q q
  unfold opClear at e
  split at e
  · cases e
    cases r2
    exact ⟨a, vs, rfl, rfl, ha, q .non _ [] [] (.d .non) .nil fun b => by simp⟩
  · cases e
section
variable {X : Cx} {E : Str → Hp → Prop} {o : Expr} {name : Str} {id : String} {to : TE} {i : Nat} {mp : ML} {op : List T → List T → Option (T × List T)} {rM : V → List V → Hp → VK → Prop} {apos cpos : Pos}
/-- a method without arguments -/
theorem qe_meth0 (slot : Slot "list" name id) (hty : typeOf (.builtin id) = pure (.type "method_descriptor")) (hm : MtR X id rM) (hv : UpdV X.K rM op) (ho : QL X i o to mp)
    (hbase : attributeBase o name X.env (eval o X.env) = eval o X.env := by rfl) (hline : (apos.endLine == cpos.line) = true := by rfl) :
    QE X E false (.Call (.Attribute o name apos) [] [] cpos) (tBM0 X.K "list" rM to) (mMeth i mp op mNil) := by
  refine ⟨pe_bm0 PySem.F.plainAttrs_list slot hty hm ho.pe hbase hline, ?_⟩
  have h := sim_meth (E := E) hv ho.sim (qa_nil (X := X) (E := E)).sim (.inl rfl)
  exact h
end
/-! rows -/
end L3
/-! L3y -/
/-! L3y: an expression that sees all slots frozen, leaves them as they were, and gives what has no list. -/
namespace L3
open PySem PySem.Spec PyProof.Rows L2
mutual
def calm : PyData → Bool
  | .none => true
  | .bool _ => true
  | .int _ => true
  | .str _ => true
  | .tuple xs => calmAll xs
  | _ => false
def calmAll : List PyData → Bool
  | [] => true
  | x :: xs => calm x && calmAll xs
end
section
variable {K : PySem.W.Frag} {F F' : Addr → Prop} {H : Hp}
mutual
theorem Fz.calm : ∀ {v : V} {x : PyData}, Fz K F H v x → L3.calm x = true → Fz K F' H v x
  | _, _, .non, _ => .non
  | _, _, .bl b, _ => .bl b
  | _, _, .int i, _ => .int i
  | _, _, .str x, _ => .str x
  | _, _, .lst _ _ _, h => by simp [L3.calm] at h
  | _, _, .tup h a, e => .tup h (FzAll.calm a (by simpa [L3.calm] using e))
theorem FzAll.calm : ∀ {vs : List V} {xs : List PyData}, FzAll K F H vs xs → calmAll xs = true → FzAll K F' H vs xs
  | _, _, .nil, _ => .nil
  | _, _, .cons h a, e => by
    simp only [calmAll, Bool.and_eq_true] at e
    exact .cons (Fz.calm h e.1) (FzAll.calm a e.2)
end
end
def lookEK (ρ : Env) : T × Env → R (T × Env)
  | (.d x, _) => guard (calm x) (.ok (.d x, ρ))
  | _ => .bad
def mLookE (m : MEx) : MEx := fun ρ => (m (fzEnv ρ)).bind (lookEK ρ)
theorem sim_lookE {K : PySem.W.Frag} {E : Str → Hp → Prop} {g : Bool} {te : TE} {m : MEx} (h : SimE K E g te m) : SimE K E g te (mLookE m) := by
  intro c H tv td σ ρ hl st Q q
  unfold mLookE at q
  rw [then_bind] at q
  refine h (lookC H) H tv (td.map fun _ => none) σ (fzEnv ρ) (by simpa using hl) (st.look0 hl) Q (q.mono (fun r q1 => ?_) ?_)
  · intro v H' sm st'
    obtain ⟨t, r2⟩ := r
    cases t with
    | d x =>
      unfold lookEK at q1
      obtain ⟨hc, q2⟩ := then_guard.mp q1
      have s := st'.keep.same
      obtain ⟨A, w⟩ := st.grow s
      obtain ⟨A', w'⟩ := st'
      exact q2 v H' sm ⟨A, w.pushD (w'.topD.1.calm hc)⟩
    | _ => exact q1.elim
  · exact fun x q1 H' k => q1 H' (st.keep.grow k.same)
theorem qe_lookE {X : Cx} {E : Str → Hp → Prop} {g : Bool} {e : Expr} {te : TE} {m : MEx} (h : QE X E g e te m) : QE X E g e te (mLookE m) := ⟨h.pe, sim_lookE h.sim⟩
end L3
/-! MA -/
namespace Sr
open PySem PySem.Spec PyProof.Rows L2 L3
@[irreducible] noncomputable def m_divisor : List T → R (T × List T) := mFn [] 0 (
    mSeq (mWhile (mTest (mLift (pBin opNe (pVar 1) (pC (.int 0))))) (mPar 0 1 (mCons (mVar 1) (mCons (mLift (pBin opMod (pVar 0) (pVar 1))) (mNil))))) <|
    mRet (mLift (pCallB opAbs (pCons (pVar 0) (pNil)))))
@[irreducible] noncomputable def m_below : List T → R (T × List T) := mFn [] 0 (
    mRet (mLift (pBin opLt (pBin opMulI (pBin opIdx (pVar 0) (pC (.int 0))) (pBin opIdx (pVar 1) (pC (.int 1)))) (pBin opMulI (pBin opIdx (pVar 1) (pC (.int 0))) (pBin opIdx (pVar 0) (pC (.int 1)))))))
@[irreducible] noncomputable def m__law_deck : List T → R (T × List T) := mFn [] 1 (
    mSeq (mAsg (mFz (mCallB opListOf (mCons (mFz (mSl opSlL (pVar 0) (oNone) (oSome (pC (.int 63))))) (mNil)))) (mgName 1)) <|
    mSeq (mIfS (mTest (mBin opEq (mVar 1) (mFz (mLst (mNil))))) (mAsg (mFz (mLst (mCons (mLift (pC (.int 0))) (mNil)))) (mgName 1)) (mNext)) <|
    mRet (mFz (mLst (mCons (mVar 1) (mCons (mLift (pBin opMod (pCallB opLen (pCons (pVar 0) (pNil))) (pC (.int 2)))) (mCons (mLift (pC (.int 0))) (mNil)))))))
@[irreducible] noncomputable def m__law_draw : List T → R (T × List T) := mFn [0] 3 (
    mSeq (mAsg (mLift (pBin opMod (pBin opIdx (pVar 0) (pC (.int 2))) (pCallB opLen (pCons (pBin opIdx (pVar 0) (pC (.int 0))) (pNil))))) (mgName 2)) <|
    mSeq (mAsg (mLift (pBin opAdd (pBin opIdx (pVar 0) (pC (.int 2))) (pC (.int 1)))) (mgItem 0 (lHere) (pC (.int 2)))) <|
    mSeq (mIfS (mTest (mLift (pBin opEq (pBin opIdx (pVar 0) (pC (.int 1))) (pC (.int 0))))) (mSeq (mAsg (mLift (pBin opMod (pBin opIdx (pBin opIdx (pVar 0) (pC (.int 0))) (pVar 2)) (pVar 1))) (mgName 4)) <|
    mSeq (mAsg (mLift (pBin opFdiv (pBin opIdx (pBin opIdx (pVar 0) (pC (.int 0))) (pVar 2)) (pVar 1))) (mgItem 0 (lIx (lHere) (pC (.int 0))) (pVar 2))) <|
    mRet (mVar 4)) (mNext)) <|
    mSeq (mAsg (mLift (pBin opMod (pBin opAdd (pBin opMulI (pBin opMod (pBin opIdx (pBin opIdx (pVar 0) (pC (.int 0))) (pVar 2)) (pC (.int 1000000021))) (pC (.int 6563))) (pBin opMulI (pBin opIdx (pVar 0) (pC (.int 2))) (pC (.int 130363)))) (pC (.int 1000000033)))) (mgName 3)) <|
    mSeq (mAsg (mLift (pBin opMod (pBin opMulI (pVar 3) (pVar 3)) (pC (.int 469762049)))) (mgName 3)) <|
    mRet (mLift (pBin opMod (pBin opFdiv (pBin opMod (pBin opAdd (pBin opMulI (pVar 3) (pC (.int 29443))) (pBin opIdx (pVar 0) (pC (.int 2)))) (pC (.int 167772161))) (pC (.int 3))) (pVar 1))))
@[irreducible] noncomputable def m_fraction : List T → R (T × List T) := mFn [] 1 (
    mSeq (mIfS (mTest (mLift (pBin opEq (pVar 1) (pC (.int 0))))) (mNever) (mNext)) <|
    mSeq (mAsg (mCallF false false 2 m_divisor [none, none] (mbCons (mVar 0) (mbCons (mVar 1) (mbNil)))) (mgName 2)) <|
    mSeq (mIfS (mTest (mLift (pBin opLt (pVar 1) (pC (.int 0))))) (mAsg (mLift (pBin opSub (pC (.int 0)) (pVar 2))) (mgName 2)) (mNext)) <|
    mRet (mTup (mCons (mLift (pBin opFdiv (pVar 0) (pVar 2))) (mCons (mLift (pBin opFdiv (pVar 1) (pVar 2))) (mNil)))))
@[irreducible] noncomputable def m_plus : List T → R (T × List T) := mFn [] 0 (
    mRet (mCallF false false 2 m_fraction [none, none] (mbCons (mLift (pBin opAdd (pBin opMulI (pBin opIdx (pVar 0) (pC (.int 0))) (pBin opIdx (pVar 1) (pC (.int 1)))) (pBin opMulI (pBin opIdx (pVar 1) (pC (.int 0))) (pBin opIdx (pVar 0) (pC (.int 1)))))) (mbCons (mLift (pBin opMulI (pBin opIdx (pVar 0) (pC (.int 1))) (pBin opIdx (pVar 1) (pC (.int 1))))) (mbNil)))))
@[irreducible] noncomputable def m_minus : List T → R (T × List T) := mFn [] 0 (
    mRet (mCallF false false 2 m_fraction [none, none] (mbCons (mLift (pBin opSub (pBin opMulI (pBin opIdx (pVar 0) (pC (.int 0))) (pBin opIdx (pVar 1) (pC (.int 1)))) (pBin opMulI (pBin opIdx (pVar 1) (pC (.int 0))) (pBin opIdx (pVar 0) (pC (.int 1)))))) (mbCons (mLift (pBin opMulI (pBin opIdx (pVar 0) (pC (.int 1))) (pBin opIdx (pVar 1) (pC (.int 1))))) (mbNil)))))
@[irreducible] noncomputable def m_times : List T → R (T × List T) := mFn [] 0 (
    mRet (mCallF false false 2 m_fraction [none, none] (mbCons (mLift (pBin opMulI (pBin opIdx (pVar 0) (pC (.int 0))) (pBin opIdx (pVar 1) (pC (.int 0))))) (mbCons (mLift (pBin opMulI (pBin opIdx (pVar 0) (pC (.int 1))) (pBin opIdx (pVar 1) (pC (.int 1))))) (mbNil)))))
@[irreducible] noncomputable def m_over : List T → R (T × List T) := mFn [] 0 (
    mRet (mCallF false false 2 m_fraction [none, none] (mbCons (mLift (pBin opMulI (pBin opIdx (pVar 0) (pC (.int 0))) (pBin opIdx (pVar 1) (pC (.int 1))))) (mbCons (mLift (pBin opMulI (pBin opIdx (pVar 0) (pC (.int 1))) (pBin opIdx (pVar 1) (pC (.int 0))))) (mbNil)))))
@[irreducible] noncomputable def m_bound_row : List T → R (T × List T) := mFn [] 3 (
    mSeq (mAsg (mLc (miL (mLift (pBin opIdx (pVar 0) (pC (.int 1))))) (mgName 5) (mtYes) (mLift (pC (.tuple [(.int 0), (.int 1)]))) [5]) (mgName 4)) <|
    mSeq (mAsg (mVar 2) (mgItem 4 (lHere) (pVar 1))) <|
    mRet (mTup (mCons (mFz (mLc (miL (mLift (pBin opIdx (pVar 0) (pC (.int 0))))) (mgName 6) (mtYes) (mLift (pC (.tuple [(.int 0), (.int 1)]))) [6])) (mCons (mVar 4) (mCons (mVar 3) (mNil))))))
@[irreducible] noncomputable def m__law_f : List T → R (T × List T) := mFn [] 2 (
    mSeq (mAsg (mLift (pCallB opAbs (pCons (pVar 0) (pNil)))) (mgName 2)) <|
    mSeq (mAsg (mLift (pCallB opAbs (pCons (pVar 1) (pNil)))) (mgName 3)) <|
    mSeq (mWhile (mTest (mLift (pBin opGt (pVar 3) (pC (.int 0))))) (mPar 2 3 (mCons (mVar 3) (mCons (mLift (pBin opMod (pVar 2) (pVar 3))) (mNil))))) <|
    mSeq (mIfS (mTest (mLift (pBin opLt (pVar 1) (pC (.int 0))))) (mAsg (mLift (pBin opSub (pC (.int 0)) (pVar 2))) (mgName 2)) (mNext)) <|
    mRet (mTup (mCons (mLift (pBin opFdiv (pVar 0) (pVar 2))) (mCons (mLift (pBin opFdiv (pVar 1) (pVar 2))) (mNil)))))
@[irreducible] noncomputable def m_is_plain : List T → R (T × List T) := mFn [] 1 (
    mSeq (mFor (miL (mFz (mBin opAdd (mLift (pBin opIdx (pVar 0) (pC (.int 0)))) (mLift (pBin opIdx (pVar 0) (pC (.int 1))))))) (mgName 1) (mIfS (mTest (mLift (pBin opNe (pVar 1) (pC (.tuple [(.int 0), (.int 1)]))))) (mRet (mLift (pC (.bool false)))) (mNext))) <|
    mRet (mNotV (mCallF false false 2 m_below [none, none] (mbCons (mLift (pBin opIdx (pVar 0) (pC (.int 2)))) (mbCons (mLift (pC (.tuple [(.int 0), (.int 1)]))) (mbNil))))))
@[irreducible] noncomputable def m__law_plus_3 : List T → R (T × List T) := mFn [] 0 (
    mRet (mCallF false false 2 m__law_f [none, none] (mbCons (mLift (pBin opAdd (pBin opMulI (pBin opIdx (pVar 0) (pC (.int 0))) (pBin opIdx (pVar 1) (pC (.int 1)))) (pBin opMulI (pBin opIdx (pVar 1) (pC (.int 0))) (pBin opIdx (pVar 0) (pC (.int 1)))))) (mbCons (mLift (pBin opMulI (pBin opIdx (pVar 0) (pC (.int 1))) (pBin opIdx (pVar 1) (pC (.int 1))))) (mbNil)))))
@[irreducible] noncomputable def m__law_times_2 : List T → R (T × List T) := mFn [] 0 (
    mRet (mCallF false false 2 m__law_f [none, none] (mbCons (mLift (pBin opMulI (pBin opIdx (pVar 0) (pC (.int 0))) (pBin opIdx (pVar 1) (pC (.int 0))))) (mbCons (mLift (pBin opMulI (pBin opIdx (pVar 0) (pC (.int 1))) (pBin opIdx (pVar 1) (pC (.int 1))))) (mbNil)))))
@[irreducible] noncomputable def m_put_on : List T → R (T × List T) := mFn [0] 0 (
    mIfS (mAnd (mNot (mTest (mCallF false false 1 m_is_plain [none] (mbCons (mVar 1) (mbNil))))) (mTest (mLift (pBin opNotInD (pVar 1) (pVar 0))))) (mDrop (mMeth 0 (lHere) opAppend (mCons (mVar 1) (mNil)))) (mNext))
@[irreducible] noncomputable def m_first_rows : List T → R (T × List T) := mFn [] 6 (
    mSeq (mAsg (mLst (mNil)) (mgName 1)) <|
    mSeq (mFor (miL (mLift (pBin opIdx (pVar 0) (pC (.int 2))))) (mgTup 3 (mgCons (mgName 2) (mgCons (mgName 3) (mgCons (mgName 4) (mgNil))))) (mDrop (mCallF false false 2 m_put_on [some 1, none] (mbIo 1 (mbCons (mTup (mCons (mFz (mCallB opListOf (mCons (mVar 2) (mNil)))) (mCons (mFz (mCallB opListOf (mCons (mVar 3) (mNil)))) (mCons (mVar 4) (mNil))))) (mbNil)))))) <|
    mSeq (mFor (miN (mCons (mLift (pBin opIdx (pVar 0) (pC (.int 1)))) (mNil))) (mgTup 2 (mgCons (mgName 5) (mgCons (mgName 6) (mgNil)))) (mSeq (mDrop (mCallF false false 2 m_put_on [some 1, none] (mbIo 1 (mbCons (mCallF false false 4 m_bound_row [none, none, none, none] (mbCons (mVar 0) (mbCons (mVar 5) (mbCons (mLift (pC (.tuple [(.int 1), (.int 1)]))) (mbCons (mCallF false false 2 m_minus [none, none] (mbCons (mLift (pC (.tuple [(.int 0), (.int 1)]))) (mbCons (mLift (pBin opIdx (pVar 6) (pC (.int 0)))) (mbNil)))) (mbNil)))))) (mbNil))))) <|
    mDrop (mCallF false false 2 m_put_on [some 1, none] (mbIo 1 (mbCons (mCallF false false 4 m_bound_row [none, none, none, none] (mbCons (mVar 0) (mbCons (mVar 5) (mbCons (mLift (pC (.tuple [(.int (-1)), (.int 1)]))) (mbCons (mLift (pBin opIdx (pVar 6) (pC (.int 1)))) (mbNil)))))) (mbNil)))))) <|
    mRet (mVar 1))
@[irreducible] noncomputable def m_mixed : List T → R (T × List T) := mFn [] 2 (
    mRet (mFz (mLc (miZ (mCons (mVar 0) (mCons (mVar 2) (mNil)))) (mgTup 2 (mgCons (mgName 4) (mgCons (mgName 5) (mgNil)))) (mtYes) (mCallF false false 2 m_plus [none, none] (mbCons (mCallF false false 2 m_times [none, none] (mbCons (mVar 4) (mbCons (mVar 1) (mbNil)))) (mbCons (mCallF false false 2 m_times [none, none] (mbCons (mVar 5) (mbCons (mVar 3) (mbNil)))) (mbNil)))) [4, 5])))
@[irreducible] noncomputable def m_taken_together : List T → R (T × List T) := mFn [] 3 (
    mSeq (mAsg (mCallF false false 2 m_minus [none, none] (mbCons (mLift (pC (.tuple [(.int 0), (.int 1)]))) (mbCons (mLift (pBin opIdx (pBin opIdx (pVar 1) (pC (.int 1))) (pVar 2))) (mbNil)))) (mgName 3)) <|
    mSeq (mAsg (mLift (pBin opIdx (pBin opIdx (pVar 0) (pC (.int 1))) (pVar 2))) (mgName 4)) <|
    mSeq (mAsg (mCallF false false 2 m_plus [none, none] (mbCons (mCallF false false 2 m_times [none, none] (mbCons (mLift (pBin opIdx (pVar 0) (pC (.int 2)))) (mbCons (mVar 3) (mbNil)))) (mbCons (mCallF false false 2 m_times [none, none] (mbCons (mLift (pBin opIdx (pVar 1) (pC (.int 2)))) (mbCons (mVar 4) (mbNil)))) (mbNil)))) (mgName 5)) <|
    mRet (mTup (mCons (mCallF false false 4 m_mixed [none, none, none, none] (mbCons (mLift (pBin opIdx (pVar 0) (pC (.int 0)))) (mbCons (mVar 3) (mbCons (mLift (pBin opIdx (pVar 1) (pC (.int 0)))) (mbCons (mVar 4) (mbNil)))))) (mCons (mCallF false false 4 m_mixed [none, none, none, none] (mbCons (mLift (pBin opIdx (pVar 0) (pC (.int 1)))) (mbCons (mVar 3) (mbCons (mLift (pBin opIdx (pVar 1) (pC (.int 1)))) (mbCons (mVar 4) (mbNil)))))) (mCons (mVar 5) (mNil))))))
@[irreducible] noncomputable def m_taken_out : List T → R (T × List T) := mFn [] 6 (
    mSeq (mThenFz 2 (mAsg (mLc (miL (mVar 0)) (mgName 7) (mTest (mCallF false false 2 m_below [none, none] (mbCons (mLift (pC (.tuple [(.int 0), (.int 1)]))) (mbCons (mLift (pBin opIdx (pBin opIdx (pVar 7) (pC (.int 1))) (pVar 1))) (mbNil))))) (mVar 7) [7]) (mgName 2))) <|
    mSeq (mThenFz 3 (mAsg (mLc (miL (mVar 0)) (mgName 7) (mTest (mCallF false false 2 m_below [none, none] (mbCons (mLift (pBin opIdx (pBin opIdx (pVar 7) (pC (.int 1))) (pVar 1))) (mbCons (mLift (pC (.tuple [(.int 0), (.int 1)]))) (mbNil))))) (mVar 7) [7]) (mgName 3))) <|
    mSeq (mAsg (mLc (miL (mVar 0)) (mgName 7) (mTest (mLift (pBin opEq (pBin opIdx (pBin opIdx (pVar 7) (pC (.int 1))) (pVar 1)) (pC (.tuple [(.int 0), (.int 1)]))))) (mVar 7) [7]) (mgName 4)) <|
    mSeq (mFor (miL (mVar 2)) (mgName 5) (mFor (miL (mVar 3)) (mgName 6) (mDrop (mCallF false false 2 m_put_on [some 4, none] (mbIo 4 (mbCons (mCallF false false 3 m_taken_together [none, none, none] (mbCons (mVar 5) (mbCons (mVar 6) (mbCons (mVar 1) (mbNil))))) (mbNil))))))) <|
    mRet (mTup (mCons (mVar 2) (mCons (mVar 3) (mCons (mVar 4) (mNil))))))
@[irreducible] noncomputable def m_rule_of : List T → R (T × List T) := mFn [] 5 (
    mSeq (mAsg (mCallF false false 1 m_first_rows [none] (mbCons (mVar 0) (mbNil))) (mgName 1)) <|
    mSeq (mAsg (mLst (mNil)) (mgName 2)) <|
    mSeq (mFor (miR3 (mCons (mLift (pBin opSub (pCallB opLen (pCons (pBin opIdx (pVar 0) (pC (.int 1))) (pNil))) (pC (.int 1)))) (mCons (mLift (pUn opNeg (pC (.int 1)))) (mCons (mLift (pUn opNeg (pC (.int 1)))) (mNil))))) (mgName 3) (mSeq (mAsg (mCallF false false 2 m_taken_out [none, none] (mbCons (mVar 1) (mbCons (mVar 3) (mbNil)))) (mgTup 3 (mgCons (mgName 4) (mgCons (mgName 5) (mgCons (mgName 1) (mgNil)))))) <|
    mDrop (mMeth 2 (lHere) opInsert (mCons (mLift (pC (.int 0))) (mCons (mTup (mCons (mVar 4) (mCons (mVar 5) (mNil)))) (mNil)))))) <|
    mRet (mTup (mCons (mVar 2) (mCons (mVar 1) (mNil)))))
@[irreducible] noncomputable def m__law_cell_2 : List T → R (T × List T) := mFn [] 0 (
    mSeq (mIfS (mTest (mLift (pBin opLt (pVar 1) (pCallB opLen (pCons (pVar 0) (pNil)))))) (mRet (mLift (pBin opIdx (pVar 0) (pVar 1)))) (mNext)) <|
    mRet (mLift (pBin opAdd (pBin opAdd (pBin opMulI (pBin opMulI (pC (.int 5)) (pVar 1)) (pVar 1)) (pBin opMulI (pC (.int 9)) (pVar 1))) (pC (.int 7)))))
@[irreducible] noncomputable def m__law_take_3 : List T → R (T × List T) := mFn [0] 2 (
    mSeq (mIfS (mNot (mTruth (pBin opKey (pVar 0) (pC (.str "mixed"))))) (mSeq (mAsg (mLift (pBin opMod (pBin opKey (pVar 0) (pC (.str "rest"))) (pVar 1))) (mgName 3)) <|
    mSeq (mKeySet 0 (kHere) (pC (.str "rest")) (mLift (pBin opFdiv (pBin opKey (pVar 0) (pC (.str "rest"))) (pVar 1)))) <|
    mRet (mVar 3)) (mNext)) <|
    mSeq (mKeySet 0 (kHere) (pC (.str "turn")) (mLift (pBin opAdd (pBin opKey (pVar 0) (pC (.str "turn"))) (pC (.int 1))))) <|
    mSeq (mAsg (mLift (pBin opMod (pBin opAdd (pBin opMod (pBin opKey (pVar 0) (pC (.str "rest"))) (pC (.int 2147483579))) (pBin opMulI (pC (.int 70001)) (pBin opKey (pVar 0) (pC (.str "turn"))))) (pC (.int 2147483579)))) (mgName 2)) <|
    mSeq (mAsg (mLift (pBin opMod (pBin opMulI (pVar 2) (pVar 2)) (pC (.int 2147483563)))) (mgName 2)) <|
    mSeq (mKeySet 0 (kHere) (pC (.str "rest")) (mLift (pBin opMod (pBin opAdd (pBin opMulI (pVar 2) (pC (.int 50021))) (pC (.int 7))) (pC (.int 2147483579))))) <|
    mRet (mLift (pBin opMod (pBin opFdiv (pBin opKey (pVar 0) (pC (.str "rest"))) (pC (.int 5))) (pVar 1))))
@[irreducible] noncomputable def m__law_frac : List T → R (T × List T) := mFn [] 2 (
    mSeq (mAsg (mLift (pCallB opAbs (pCons (pVar 0) (pNil)))) (mgName 2)) <|
    mSeq (mAsg (mVar 1) (mgName 3)) <|
    mSeq (mWhile (mTest (mLift (pBin opGt (pVar 3) (pC (.int 0))))) (mPar 2 3 (mCons (mVar 3) (mCons (mLift (pBin opMod (pVar 2) (pVar 3))) (mNil))))) <|
    mRet (mTup (mCons (mLift (pBin opFdiv (pVar 0) (pVar 2))) (mCons (mLift (pBin opFdiv (pVar 1) (pVar 2))) (mNil)))))
@[irreducible] noncomputable def m__law_state : List T → R (T × List T) := mFn [] 0 (
    mRet (mDisp [.inr "rest", .inr "mixed", .inr "turn"] (mCons (mCallF false false 2 m__law_cell_2 [none, none] (mbCons (mRd 0) (mbCons (mVar 1) (mbNil)))) (mCons (mBin opEq (mBin opMod (mCallF false false 2 m__law_cell_2 [none, none] (mbCons (mRd 0) (mbCons (mLift (pC (.int 0))) (mbNil)))) (mLift (pC (.int 2)))) (mLift (pC (.int 1)))) (mCons (mVar 1) (mNil))))))
@[irreducible] noncomputable def m__law_plus_4 : List T → R (T × List T) := mFn [] 0 (
    mRet (mCallF false false 2 m__law_frac [none, none] (mbCons (mLift (pBin opAdd (pBin opMulI (pBin opIdx (pVar 0) (pC (.int 0))) (pBin opIdx (pVar 1) (pC (.int 1)))) (pBin opMulI (pBin opIdx (pVar 1) (pC (.int 0))) (pBin opIdx (pVar 0) (pC (.int 1)))))) (mbCons (mLift (pBin opMulI (pBin opIdx (pVar 0) (pC (.int 1))) (pBin opIdx (pVar 1) (pC (.int 1))))) (mbNil)))))
@[irreducible] noncomputable def m__law_times_3 : List T → R (T × List T) := mFn [] 0 (
    mRet (mCallF false false 2 m__law_frac [none, none] (mbCons (mLift (pBin opMulI (pBin opIdx (pVar 0) (pC (.int 0))) (pBin opIdx (pVar 1) (pC (.int 0))))) (mbCons (mLift (pBin opMulI (pBin opIdx (pVar 0) (pC (.int 1))) (pBin opIdx (pVar 1) (pC (.int 1))))) (mbNil)))))
@[irreducible] noncomputable def m__law_some : List T → R (T × List T) := mFn [0] 1 (
    mSeq (mAsg (mCallF false false 2 m__law_take_3 [some 0, none] (mbIo 0 (mbCons (mLift (pC (.int 8))) (mbNil)))) (mgName 1)) <|
    mSeq (mIfS (mTest (mLift (pBin opEq (pVar 1) (pC (.int 7))))) (mRet (mCallF false false 2 m__law_frac [none, none] (mbCons (mBin opSub (mCallF false false 2 m__law_take_3 [some 0, none] (mbIo 0 (mbCons (mLift (pBin opPow (pC (.int 10)) (pC (.int 12)))) (mbNil)))) (mLift (pBin opMulI (pC (.int 5)) (pBin opPow (pC (.int 10)) (pC (.int 11)))))) (mbCons (mBin opAdd (mLift (pC (.int 1))) (mCallF false false 2 m__law_take_3 [some 0, none] (mbIo 0 (mbCons (mLift (pC (.int 97))) (mbNil))))) (mbNil))))) (mNext)) <|
    mSeq (mIfS (mTest (mLift (pBin opLt (pVar 1) (pC (.int 3))))) (mRet (mTup (mCons (mBin opSub (mCallF false false 2 m__law_take_3 [some 0, none] (mbIo 0 (mbCons (mLift (pC (.int 19))) (mbNil)))) (mLift (pC (.int 9)))) (mCons (mLift (pC (.int 1))) (mNil))))) (mNext)) <|
    mRet (mCallF false false 2 m__law_frac [none, none] (mbCons (mBin opSub (mCallF false false 2 m__law_take_3 [some 0, none] (mbIo 0 (mbCons (mLift (pC (.int 41))) (mbNil)))) (mLift (pC (.int 20)))) (mbCons (mBin opAdd (mLift (pC (.int 1))) (mCallF false false 2 m__law_take_3 [some 0, none] (mbIo 0 (mbCons (mLift (pC (.int 6))) (mbNil))))) (mbNil)))))
@[irreducible] noncomputable def m__law_weight : List T → R (T × List T) := mFn [0] 2 (
    mSeq (mAsg (mFz (mLst (mCons (mTup (mCons (mLift (pC (.int 0))) (mCons (mLift (pC (.int 1))) (mNil)))) (mCons (mTup (mCons (mLift (pC (.int 0))) (mCons (mLift (pC (.int 1))) (mNil)))) (mCons (mTup (mCons (mLift (pC (.int 1))) (mCons (mLift (pC (.int 1))) (mNil)))) (mCons (mTup (mCons (mLift (pUn opNeg (pC (.int 1)))) (mCons (mLift (pC (.int 1))) (mNil)))) (mCons (mTup (mCons (mLift (pC (.int 1))) (mCons (mLift (pC (.int 1))) (mNil)))) (mCons (mTup (mCons (mLift (pUn opNeg (pC (.int 1)))) (mCons (mLift (pC (.int 1))) (mNil)))) (mCons (mTup (mCons (mLift (pC (.int 2))) (mCons (mLift (pC (.int 1))) (mNil)))) (mCons (mTup (mCons (mLift (pUn opNeg (pC (.int 3)))) (mCons (mLift (pC (.int 2))) (mNil)))) (mCons (mTup (mCons (mLift (pC (.int 1))) (mCons (mLift (pC (.int 3))) (mNil)))) (mCons (mTup (mCons (mLift (pUn opNeg (pC (.int 2)))) (mCons (mLift (pC (.int 1))) (mNil)))) (mNil))))))))))))) (mgName 1)) <|
    mSeq (mAsg (mCallF false false 2 m__law_take_3 [some 0, none] (mbIo 0 (mbCons (mLift (pC (.int 12))) (mbNil)))) (mgName 2)) <|
    mSeq (mIfS (mTest (mLift (pBin opLt (pVar 2) (pC (.int 10))))) (mRet (mLift (pBin opIdx (pVar 1) (pVar 2)))) (mNext)) <|
    mRet (mCallF false false 2 m__law_frac [none, none] (mbCons (mBin opSub (mCallF false false 2 m__law_take_3 [some 0, none] (mbIo 0 (mbCons (mLift (pC (.int 41))) (mbNil)))) (mLift (pC (.int 20)))) (mbCons (mBin opAdd (mLift (pC (.int 1))) (mCallF false false 2 m__law_take_3 [some 0, none] (mbIo 0 (mbCons (mLift (pC (.int 6))) (mbNil))))) (mbNil)))))
@[irreducible] noncomputable def m__law_bounds_3 : List T → R (T × List T) := mFn [0] 1 (
    mSeq (mAsg (mCallF false false 1 m__law_some [some 0] (mbIo 0 (mbNil))) (mgName 1)) <|
    mRet (mTup (mCons (mVar 1) (mCons (mCallF false false 2 m__law_plus_4 [none, none] (mbCons (mVar 1) (mbCons (mCallF false false 2 m__law_frac [none, none] (mbCons (mCallF false false 2 m__law_take_3 [some 0, none] (mbIo 0 (mbCons (mLift (pC (.int 9))) (mbNil)))) (mbCons (mBin opAdd (mLift (pC (.int 1))) (mCallF false false 2 m__law_take_3 [some 0, none] (mbIo 0 (mbCons (mLift (pC (.int 3))) (mbNil))))) (mbNil)))) (mbNil)))) (mNil)))))
@[irreducible] noncomputable def m__law_made_2 : List T → R (T × List T) := mFn [0] 5 (
    mSeq (mAsg (mLst (mNil)) (mgName 2)) <|
    mSeq (mFor (miL (mLift (pBin opIdx (pVar 1) (pC (.int 0))))) (mgTup 2 (mgCons (mgName 3) (mgCons (mgName 4) (mgNil)))) (mSeq (mAsg (mCallF false false 2 m__law_frac [none, none] (mbCons (mCallF false false 2 m__law_take_3 [some 0, none] (mbIo 0 (mbCons (mLift (pC (.int 9))) (mbNil)))) (mbCons (mLift (pC (.int 8))) (mbNil)))) (mgName 5)) <|
    mSeq (mAsg (mCallF false false 2 m__law_plus_4 [none, none] (mbCons (mVar 3) (mbCons (mCallF false false 2 m__law_times_3 [none, none] (mbCons (mVar 5) (mbCons (mCallF false false 2 m__law_plus_4 [none, none] (mbCons (mVar 4) (mbCons (mTup (mCons (mLift (pUn opNeg (pBin opIdx (pVar 3) (pC (.int 0))))) (mCons (mLift (pBin opIdx (pVar 3) (pC (.int 1)))) (mNil)))) (mbNil)))) (mbNil)))) (mbNil)))) (mgName 6)) <|
    mSeq (mIfS (mTest (mBin opEq (mCallF false false 2 m__law_take_3 [some 0, none] (mbIo 0 (mbCons (mLift (pC (.int 12))) (mbNil)))) (mLift (pC (.int 5))))) (mAsg (mCallF false false 2 m__law_plus_4 [none, none] (mbCons (mVar 6) (mbCons (mCallF false false 1 m__law_some [some 0] (mbIo 0 (mbNil))) (mbNil)))) (mgName 6)) (mNext)) <|
    mDrop (mMeth 2 (lHere) opAppend (mCons (mVar 6) (mNil))))) <|
    mRet (mVar 2))
@[irreducible] noncomputable def m__law_moved_2 : List T → R (T × List T) := mFn [] 10 (
    mSeq (mThenFz 3 (mAsg (mLc (miZ (mCons (mLift (pBin opIdx (pVar 0) (pC (.int 0)))) (mCons (mVar 1) (mNil)))) (mgTup 2 (mgCons (mgTup 2 (mgCons (mgName 11) (mgCons (mgName 12) (mgNil)))) (mgCons (mgName 10) (mgNil)))) (mtYes) (mTup (mCons (mCallF false false 2 m__law_plus_4 [none, none] (mbCons (mVar 11) (mbCons (mVar 10) (mbNil)))) (mCons (mCallF false false 2 m__law_plus_4 [none, none] (mbCons (mVar 12) (mbCons (mVar 10) (mbNil)))) (mNil)))) [10, 11, 12]) (mgName 3))) <|
    mSeq (mThenFz 4 (mAsg (mLc (miZ (mCons (mLift (pBin opIdx (pVar 0) (pC (.int 1)))) (mCons (mVar 2) (mNil)))) (mgTup 2 (mgCons (mgTup 2 (mgCons (mgName 11) (mgCons (mgName 12) (mgNil)))) (mgCons (mgName 10) (mgNil)))) (mtYes) (mTup (mCons (mCallF false false 2 m__law_plus_4 [none, none] (mbCons (mVar 11) (mbCons (mVar 10) (mbNil)))) (mCons (mCallF false false 2 m__law_plus_4 [none, none] (mbCons (mVar 12) (mbCons (mVar 10) (mbNil)))) (mNil)))) [10, 11, 12]) (mgName 4))) <|
    mSeq (mAsg (mLst (mNil)) (mgName 5)) <|
    mSeq (mFor (miL (mLift (pBin opIdx (pVar 0) (pC (.int 2))))) (mgTup 3 (mgCons (mgName 6) (mgCons (mgName 7) (mgCons (mgName 8) (mgNil))))) (mSeq (mFor (miL (mFz (mBin opAdd (mFz (mListZip (mCons (mVar 6) (mCons (mVar 1) (mNil))))) (mFz (mListZip (mCons (mVar 7) (mCons (mVar 2) (mNil)))))))) (mgTup 2 (mgCons (mgName 9) (mgCons (mgName 10) (mgNil)))) (mAsg (mCallF false false 2 m__law_plus_4 [none, none] (mbCons (mVar 8) (mbCons (mCallF false false 2 m__law_times_3 [none, none] (mbCons (mVar 9) (mbCons (mTup (mCons (mLift (pUn opNeg (pBin opIdx (pVar 10) (pC (.int 0))))) (mCons (mLift (pBin opIdx (pVar 10) (pC (.int 1)))) (mNil)))) (mbNil)))) (mbNil)))) (mgName 8))) <|
    mDrop (mMeth 5 (lHere) opAppend (mCons (mTup (mCons (mFz (mCallB opListOf (mCons (mVar 6) (mNil)))) (mCons (mFz (mCallB opListOf (mCons (mVar 7) (mNil)))) (mCons (mVar 8) (mNil))))) (mNil))))) <|
    mRet (mTup (mCons (mVar 3) (mCons (mVar 4) (mCons (mVar 5) (mNil))))))
@[irreducible] noncomputable def m_worth_of : List T → R (T × List T) := mFn [] 3 (
    mSeq (mAsg (mLift (pBin opIdx (pVar 0) (pC (.int 2)))) (mgName 3)) <|
    mSeq (mFor (miL (mFz (mBin opAdd (mFz (mListZip (mCons (mLift (pBin opIdx (pVar 0) (pC (.int 0)))) (mCons (mVar 1) (mNil))))) (mFz (mListZip (mCons (mLift (pBin opIdx (pVar 0) (pC (.int 1)))) (mCons (mVar 2) (mNil)))))))) (mgTup 2 (mgCons (mgName 4) (mgCons (mgName 5) (mgNil)))) (mAsg (mCallF false false 2 m_plus [none, none] (mbCons (mVar 3) (mbCons (mCallF false false 2 m_times [none, none] (mbCons (mVar 4) (mbCons (mVar 5) (mbNil)))) (mbNil)))) (mgName 3))) <|
    mRet (mVar 3))
@[irreducible] noncomputable def m__law_plan_4 : List T → R (T × List T) := mFn [] 13 (
    mSeq (mAsg (mBin opFdiv (mCallF false false 2 m__law_cell_2 [none, none] (mbCons (mRd 0) (mbCons (mLift (pC (.int 0))) (mbNil)))) (mLift (pC (.int 2)))) (mgName 1)) <|
    mSeq (mAsg (mBin opIdx (mLst (mCons (mLift (pC (.int 1))) (mCons (mLift (pC (.int 0))) (mCons (mLift (pC (.int 2))) (mCons (mLift (pC (.int 2))) (mCons (mLift (pC (.int 3))) (mCons (mLift (pC (.int 3))) (mCons (mLift (pC (.int 2))) (mCons (mLift (pC (.int 1))) (mNil)))))))))) (mLift (pBin opMod (pBin opFdiv (pVar 1) (pC (.int 24))) (pC (.int 8))))) (mgName 2)) <|
    mSeq (mAsg (mBin opIdx (mLst (mCons (mLift (pBin opAdd (pC (.int 1)) (pBin opMod (pVar 1) (pC (.int 3))))) (mCons (mLift (pC (.int 6))) (mNil)))) (mCallB opInt1 (mCons (mAndV (mLift (pBin opEq (pBin opMod (pBin opFdiv (pVar 1) (pC (.int 3))) (pC (.int 8))) (pC (.int 5)))) (mLift (pBin opLt (pVar 2) (pC (.int 3))))) (mNil)))) (mgName 3)) <|
    mSeq (mAsg (mBin opIdx (mLst (mCons (mLift (pC (.int 8))) (mCons (mLift (pC (.int 8))) (mCons (mLift (pC (.int 6))) (mCons (mLift (pC (.int 3))) (mNil)))))) (mVar 2)) (mgName 4)) <|
    mSeq (mThenFz 5 (mAsg (mLc (miR1 (mCons (mVar 3) (mNil))) (mgName 8) (mtYes) (mCallF false false 1 (dropIo m__law_bounds_3) [none] (mbCons (mCallF false false 2 m__law_state [none, none] (mbCons (mRd 0) (mbCons (mLift (pBin opAdd (pC (.int 1)) (pVar 8))) (mbNil)))) (mbNil))) [8]) (mgName 5))) <|
    mSeq (mThenFz 6 (mAsg (mLc (miR1 (mCons (mVar 2) (mNil))) (mgName 8) (mtYes) (mCallF false false 1 (dropIo m__law_bounds_3) [none] (mbCons (mCallF false false 2 m__law_state [none, none] (mbCons (mRd 0) (mbCons (mLift (pBin opAdd (pC (.int 7)) (pVar 8))) (mbNil)))) (mbNil))) [8]) (mgName 6))) <|
    mSeq (mAsg (mLst (mNil)) (mgName 7)) <|
    mSeq (mFor (miR1 (mCons (mLift (pBin opSub (pVar 4) (pBin opMod (pBin opFdiv (pVar 1) (pC (.int 192))) (pBin opAdd (pC (.int 1)) (pVar 4))))) (mNil))) (mgName 8) (mSeq (mAsg (mCallF false false 2 m__law_state [none, none] (mbCons (mRd 0) (mbCons (mLift (pBin opAdd (pC (.int 11)) (pVar 8))) (mbNil)))) (mgName 9)) <|
    mSeq (mThenFz 10 (mAsg (mLc (miL (mVar 5)) (mgName 12) (mtYes) (mCallF false false 1 m__law_weight [some 9] (mbIo 9 (mbNil))) [12]) (mgName 10))) <|
    mSeq (mThenFz 11 (mAsg (mLc (miL (mVar 6)) (mgName 13) (mtYes) (mCallF false false 1 m__law_weight [some 9] (mbIo 9 (mbNil))) [13]) (mgName 11))) <|
    mDrop (mMeth 7 (lHere) opAppend (mCons (mTup (mCons (mVar 10) (mCons (mVar 11) (mCons (mCallF false false 1 m__law_some [some 9] (mbIo 9 (mbNil))) (mNil))))) (mNil))))) <|
    mRet (mTup (mCons (mVar 5) (mCons (mVar 6) (mCons (mVar 7) (mNil))))))
@[irreducible] noncomputable def m_chosen_by : List T → R (T × List T) := mFn [] 8 (
    mSeq (mAsg (mVar 0) (mgTup 2 (mgCons (mgName 4) (mgCons (mgName 5) (mgNil))))) <|
    mSeq (mFor (miL (mVar 5)) (mgName 2) (mIfS (mTest (mCallF false false 2 m_below [none, none] (mbCons (mCallF false false 3 m_worth_of [none, none, none] (mbCons (mVar 2) (mbCons (mVar 1) (mbCons (mFz (mLst (mNil))) (mbNil))))) (mbCons (mLift (pC (.tuple [(.int 0), (.int 1)]))) (mbNil))))) (mRaise "NoChoice") (mNext))) <|
    mSeq (mAsg (mLst (mNil)) (mgName 3)) <|
    mSeq (mFor (miN (mCons (mVar 4) (mNil))) (mgTup 2 (mgCons (mgName 6) (mgCons (mgName 7) (mgNil)))) (mSeq (mAsg (mLift (pC .none)) (mgName 8)) <|
    mSeq (mFor (miL (mLift (pBin opIdx (pVar 7) (pC (.int 0))))) (mgName 2) (mSeq (mAsg (mCallF false false 2 m_over [none, none] (mbCons (mCallF false false 2 m_minus [none, none] (mbCons (mLift (pC (.tuple [(.int 0), (.int 1)]))) (mbCons (mLookE (mCallF false false 3 m_worth_of [none, none, none] (mbCons (mVar 2) (mbCons (mVar 1) (mbCons (mVar 3) (mbNil)))))) (mbNil)))) (mbCons (mLift (pBin opIdx (pBin opIdx (pVar 2) (pC (.int 1))) (pVar 6))) (mbNil)))) (mgName 9)) <|
    mIfS (mOr (mTest (mLift (pBin opIsN (pVar 8) (pC .none)))) (mTest (mCallF false false 2 m_below [none, none] (mbCons (mVar 8) (mbCons (mVar 9) (mbNil)))))) (mAsg (mVar 9) (mgName 8)) (mNext))) <|
    mDrop (mMeth 3 (lHere) opAppend (mCons (mVar 8) (mNil))))) <|
    mRet (mVar 3))
@[irreducible] noncomputable def m__law_told : List T → R (T × List T) := mFn [] 1 (
    mSeq (mAsg (mLift (pC .none)) (mgName 2)) <|
    mSeq (mTryO ["NoChoice"] (mAsg (mLift (pC .none)) (mgName 2)) (mAsg (mCallF true false 2 m_chosen_by [none, none] (mbCons (mVar 0) (mbCons (mVar 1) (mbNil)))) (mgName 2))) <|
    mRet (mVar 2))
@[irreducible] noncomputable def m_law_11 : List T → R (T × List T) := mFn [] 14 (
    mSeq (mAsg (mCallF false false 1 m__law_plan_4 [none] (mbCons (mRd 0) (mbNil))) (mgName 1)) <|
    mSeq (mAsg (mCallF false false 1 m_rule_of [none] (mbCons (mVar 1) (mbNil))) (mgName 2)) <|
    mSeq (mAsg (mCallF false false 2 m__law_state [none, none] (mbCons (mRd 0) (mbCons (mLift (pC (.int 19))) (mbNil)))) (mgName 3)) <|
    mSeq (mThenFz 4 (mAsg (mLc (miL (mLift (pBin opIdx (pVar 1) (pC (.int 0))))) (mgName 11) (mtYes) (mCallF false false 1 m__law_some [some 3] (mbIo 3 (mbNil))) [11]) (mgName 4))) <|
    mSeq (mThenFz 5 (mAsg (mLc (miL (mLift (pBin opIdx (pVar 1) (pC (.int 1))))) (mgName 12) (mtYes) (mCallF false false 1 m__law_some [some 3] (mbIo 3 (mbNil))) [12]) (mgName 5))) <|
    mSeq (mAsg (mCallF false false 1 m_rule_of [none] (mbCons (mCallF false false 3 m__law_moved_2 [none, none, none] (mbCons (mVar 1) (mbCons (mVar 4) (mbCons (mVar 5) (mbNil))))) (mbNil))) (mgName 6)) <|
    mSeq (mFor (miR2 (mCons (mLift (pC (.int 20))) (mCons (mLift (pCallB opMax2 (pCons (pC (.int 24)) (pCons (pCallB opMin2 (pCons (pC (.int 36)) (pCons (pCallB opLen (pCons (pVar 0) (pNil))) (pNil)))) (pNil))))) (mNil)))) (mgName 7) (mSeq (mAsg (mCallF false false 2 (dropIo m__law_made_2) [none, none] (mbCons (mCallF false false 2 m__law_state [none, none] (mbCons (mRd 0) (mbCons (mVar 7) (mbNil)))) (mbCons (mVar 1) (mbNil)))) (mgName 8)) <|
    mSeq (mAsg (mCallF false false 2 m__law_told [none, none] (mbCons (mVar 2) (mbCons (mVar 8) (mbNil)))) (mgName 9)) <|
    mSeq (mAsg (mCallF false false 2 m__law_told [none, none] (mbCons (mVar 6) (mbCons (mFz (mLc (miZ (mCons (mVar 8) (mCons (mVar 4) (mNil)))) (mgTup 2 (mgCons (mgName 11) (mgCons (mgName 13) (mgNil)))) (mtYes) (mCallF false false 2 m__law_plus_4 [none, none] (mbCons (mVar 11) (mbCons (mVar 13) (mbNil)))) [11, 13])) (mbNil)))) (mgName 10)) <|
    mIfS (mTest (mLift (pBin opIsN (pVar 9) (pC .none)))) (mIfS (mTest (mLift (pBin opNotN (pVar 10) (pC .none)))) (mRet (mLift (pC (.bool false)))) (mNext)) (mIfS (mTest (mBin opNe (mVar 10) (mFz (mLc (miZ (mCons (mVar 9) (mCons (mVar 5) (mNil)))) (mgTup 2 (mgCons (mgName 14) (mgCons (mgName 13) (mgNil)))) (mtYes) (mCallF false false 2 m__law_plus_4 [none, none] (mbCons (mVar 14) (mbCons (mVar 13) (mbNil)))) [14, 13])))) (mRet (mLift (pC (.bool false)))) (mNext)))) <|
    mRet (mLift (pC (.bool true))))
@[irreducible] noncomputable def m__law_less_2 : List T → R (T × List T) := mFn [] 0 (
    mRet (mLift (pBin opLt (pBin opMulI (pBin opIdx (pVar 0) (pC (.int 0))) (pBin opIdx (pVar 1) (pC (.int 1)))) (pBin opMulI (pBin opIdx (pVar 1) (pC (.int 0))) (pBin opIdx (pVar 0) (pC (.int 1)))))))
end Sr
/-! O_k25 -/
namespace Sr
open PySem PySem.Spec PyProof.Rows L2 L3
def topS (i : Nat) : Stmt := PySem.Challenge.pw_shimright_k25_whole_moved_bounds.main.body.getD i (.Pass ⟨0, 0, 0, 0⟩)
abbrev s_divisor : Stmt := topS 5
abbrev N_divisor : List Str := ["one", "other"]
theorem sc_divisor : FnScope N_divisor ["one", "other"] (defScope s_divisor) := ⟨rfl, rfl, rfl, by decide +kernel, rfl, by decide +kernel, by decide +kernel⟩
abbrev s_below : Stmt := topS 11
abbrev N_below : List Str := ["q", "r"]
theorem sc_below : FnScope N_below ["q", "r"] (defScope s_below) := ⟨rfl, rfl, rfl, by decide +kernel, rfl, by decide +kernel, by decide +kernel⟩
abbrev s_bound_row : Stmt := topS 18
abbrev N_bound_row : List Str := ["plan", "k", "sign", "c", "b", "shim", "size"]
theorem sc_bound_row : FnScope N_bound_row ["plan", "k", "sign", "c"] (defScope s_bound_row) := ⟨rfl, rfl, rfl, by decide +kernel, rfl, by decide +kernel, by decide +kernel⟩
abbrev s__law_cell : Stmt := topS 27
abbrev N__law_cell : List Str := ["script", "k"]
theorem sc__law_cell : FnScope N__law_cell ["script", "k"] (defScope s__law_cell) := ⟨rfl, rfl, rfl, by decide +kernel, rfl, by decide +kernel, by decide +kernel⟩
abbrev s__law_take : Stmt := topS 29
abbrev N__law_take : List Str := ["state", "many", "stir", "found"]
theorem sc__law_take : FnScope N__law_take ["state", "many"] (defScope s__law_take) := ⟨rfl, rfl, rfl, by decide +kernel, rfl, by decide +kernel, by decide +kernel⟩
abbrev s__law_frac : Stmt := topS 30
abbrev N__law_frac : List Str := ["top", "bottom", "one", "other"]
theorem sc__law_frac : FnScope N__law_frac ["top", "bottom"] (defScope s__law_frac) := ⟨rfl, rfl, rfl, by decide +kernel, rfl, by decide +kernel, by decide +kernel⟩
abbrev s_fraction : Stmt := topS 6
abbrev N_fraction : List Str := ["top", "bottom", "many"]
theorem sc_fraction : FnScope N_fraction ["top", "bottom"] (defScope s_fraction) := ⟨rfl, rfl, rfl, by decide +kernel, rfl, by decide +kernel, by decide +kernel⟩
abbrev s_is_plain : Stmt := topS 16
abbrev N_is_plain : List Str := ["row", "number"]
theorem sc_is_plain : FnScope N_is_plain ["row"] (defScope s_is_plain) := ⟨rfl, rfl, rfl, by decide +kernel, rfl, by decide +kernel, by decide +kernel⟩
abbrev s__law_state : Stmt := topS 28
abbrev N__law_state : List Str := ["script", "k"]
theorem sc__law_state : FnScope N__law_state ["script", "k"] (defScope s__law_state) := ⟨rfl, rfl, rfl, by decide +kernel, rfl, by decide +kernel, by decide +kernel⟩
abbrev s__law_plus : Stmt := topS 31
abbrev N__law_plus : List Str := ["q", "r"]
theorem sc__law_plus : FnScope N__law_plus ["q", "r"] (defScope s__law_plus) := ⟨rfl, rfl, rfl, by decide +kernel, rfl, by decide +kernel, by decide +kernel⟩
abbrev s__law_times : Stmt := topS 32
abbrev N__law_times : List Str := ["q", "r"]
theorem sc__law_times : FnScope N__law_times ["q", "r"] (defScope s__law_times) := ⟨rfl, rfl, rfl, by decide +kernel, rfl, by decide +kernel, by decide +kernel⟩
abbrev s__law_some : Stmt := topS 34
abbrev N__law_some : List Str := ["state", "kind"]
theorem sc__law_some : FnScope N__law_some ["state"] (defScope s__law_some) := ⟨rfl, rfl, rfl, by decide +kernel, rfl, by decide +kernel, by decide +kernel⟩
abbrev s__law_weight : Stmt := topS 35
abbrev N__law_weight : List Str := ["state", "some", "kind"]
theorem sc__law_weight : FnScope N__law_weight ["state"] (defScope s__law_weight) := ⟨rfl, rfl, rfl, by decide +kernel, rfl, by decide +kernel, by decide +kernel⟩
abbrev s_plus : Stmt := topS 7
abbrev N_plus : List Str := ["q", "r"]
theorem sc_plus : FnScope N_plus ["q", "r"] (defScope s_plus) := ⟨rfl, rfl, rfl, by decide +kernel, rfl, by decide +kernel, by decide +kernel⟩
abbrev s_minus : Stmt := topS 8
abbrev N_minus : List Str := ["q", "r"]
theorem sc_minus : FnScope N_minus ["q", "r"] (defScope s_minus) := ⟨rfl, rfl, rfl, by decide +kernel, rfl, by decide +kernel, by decide +kernel⟩
abbrev s_times : Stmt := topS 9
abbrev N_times : List Str := ["q", "r"]
theorem sc_times : FnScope N_times ["q", "r"] (defScope s_times) := ⟨rfl, rfl, rfl, by decide +kernel, rfl, by decide +kernel, by decide +kernel⟩
abbrev s_over : Stmt := topS 10
abbrev N_over : List Str := ["q", "r"]
theorem sc_over : FnScope N_over ["q", "r"] (defScope s_over) := ⟨rfl, rfl, rfl, by decide +kernel, rfl, by decide +kernel, by decide +kernel⟩
abbrev s_put_on : Stmt := topS 17
abbrev N_put_on : List Str := ["rows", "row"]
theorem sc_put_on : FnScope N_put_on ["rows", "row"] (defScope s_put_on) := ⟨rfl, rfl, rfl, by decide +kernel, rfl, by decide +kernel, by decide +kernel⟩
abbrev s__law_bounds : Stmt := topS 36
abbrev N__law_bounds : List Str := ["state", "low"]
theorem sc__law_bounds : FnScope N__law_bounds ["state"] (defScope s__law_bounds) := ⟨rfl, rfl, rfl, by decide +kernel, rfl, by decide +kernel, by decide +kernel⟩
abbrev s__law_made : Stmt := topS 38
abbrev N__law_made : List Str := ["state", "plan", "found", "low", "high", "part", "size"]
theorem sc__law_made : FnScope N__law_made ["state", "plan"] (defScope s__law_made) := ⟨rfl, rfl, rfl, by decide +kernel, rfl, by decide +kernel, by decide +kernel⟩
abbrev s__law_moved : Stmt := topS 40
abbrev N__law_moved : List Str := ["plan", "moves", "shifts", "sizes", "shims", "demands", "a", "b", "c", "number", "by", "low", "high"]
theorem sc__law_moved : FnScope N__law_moved ["plan", "moves", "shifts"] (defScope s__law_moved) := ⟨rfl, rfl, rfl, by decide +kernel, rfl, by decide +kernel, by decide +kernel⟩
abbrev s_first_rows : Stmt := topS 19
abbrev N_first_rows : List Str := ["plan", "rows", "a", "b", "c", "k", "shim"]
theorem sc_first_rows : FnScope N_first_rows ["plan"] (defScope s_first_rows) := ⟨rfl, rfl, rfl, by decide +kernel, rfl, by decide +kernel, by decide +kernel⟩
abbrev s_mixed : Stmt := topS 20
abbrev N_mixed : List Str := ["ones", "many", "others", "more", "one", "other"]
theorem sc_mixed : FnScope N_mixed ["ones", "many", "others", "more"] (defScope s_mixed) := ⟨rfl, rfl, rfl, by decide +kernel, rfl, by decide +kernel, by decide +kernel⟩
abbrev s_worth_of : Stmt := topS 24
abbrev N_worth_of : List Str := ["row", "made", "choice", "found", "one", "other"]
theorem sc_worth_of : FnScope N_worth_of ["row", "made", "choice"] (defScope s_worth_of) := ⟨rfl, rfl, rfl, by decide +kernel, rfl, by decide +kernel, by decide +kernel⟩
abbrev s__law_plan : Stmt := topS 37
abbrev N__law_plan : List Str := ["script", "first", "shims", "many", "most", "sizes", "bounds", "demands", "k", "state", "a", "b", "size", "shim"]
theorem sc__law_plan : FnScope N__law_plan ["script"] (defScope s__law_plan) := ⟨rfl, rfl, rfl, by decide +kernel, rfl, by decide +kernel, by decide +kernel⟩
abbrev s_taken_together : Stmt := topS 21
abbrev N_taken_together : List Str := ["low", "high", "k", "many", "more", "c"]
theorem sc_taken_together : FnScope N_taken_together ["low", "high", "k"] (defScope s_taken_together) := ⟨rfl, rfl, rfl, by decide +kernel, rfl, by decide +kernel, by decide +kernel⟩
abbrev s_chosen_by : Stmt := topS 25
abbrev N_chosen_by : List Str := ["rule", "made", "row", "choice", "steps", "rows", "k", "step", "best", "worth"]
theorem sc_chosen_by : FnScope N_chosen_by ["rule", "made"] (defScope s_chosen_by) := ⟨rfl, rfl, rfl, by decide +kernel, rfl, by decide +kernel, by decide +kernel⟩
abbrev s_taken_out : Stmt := topS 22
abbrev N_taken_out : List Str := ["rows", "k", "lows", "highs", "left", "low", "high", "row"]
theorem sc_taken_out : FnScope N_taken_out ["rows", "k"] (defScope s_taken_out) := ⟨rfl, rfl, rfl, by decide +kernel, rfl, by decide +kernel, by decide +kernel⟩
abbrev s__law_told : Stmt := topS 39
abbrev N__law_told : List Str := ["rule", "made", "found"]
theorem sc__law_told : FnScope N__law_told ["rule", "made"] (defScope s__law_told) := ⟨rfl, rfl, rfl, by decide +kernel, rfl, by decide +kernel, by decide +kernel⟩
abbrev s_rule_of : Stmt := topS 23
abbrev N_rule_of : List Str := ["plan", "rows", "steps", "k", "lows", "highs"]
theorem sc_rule_of : FnScope N_rule_of ["plan"] (defScope s_rule_of) := ⟨rfl, rfl, rfl, by decide +kernel, rfl, by decide +kernel, by decide +kernel⟩
abbrev s_law : Stmt := topS 41
abbrev N_law : List Str := ["script", "plan", "rule", "state", "moves", "shifts", "other", "k", "made", "choice", "found", "size", "shim", "by", "worth"]
theorem sc_law : FnScope N_law ["script"] (defScope s_law) := ⟨rfl, rfl, rfl, by decide +kernel, rfl, by decide +kernel, by decide +kernel⟩
/-! ### what the top has written -/
structure Tx (K : PySem.W.Frag) (mg : Str → Option Value) where
  f_divisor : Addr
  d_divisor : FuncData
  F_divisor : Fun K "divisor" "divisor" s_divisor f_divisor d_divisor
  b_divisor : Binds K d_divisor ["one", "other"] []
  g_divisor : mg "divisor" = some (.ref f_divisor)
  f_below : Addr
  d_below : FuncData
  F_below : Fun K "below" "below" s_below f_below d_below
  b_below : Binds K d_below ["q", "r"] []
  g_below : mg "below" = some (.ref f_below)
  f_bound_row : Addr
  d_bound_row : FuncData
  F_bound_row : Fun K "bound_row" "bound_row" s_bound_row f_bound_row d_bound_row
  b_bound_row : Binds K d_bound_row ["plan", "k", "sign", "c"] []
  g_bound_row : mg "bound_row" = some (.ref f_bound_row)
  f__law_cell : Addr
  d__law_cell : FuncData
  F__law_cell : Fun K "_law_cell" "_law_cell" s__law_cell f__law_cell d__law_cell
  b__law_cell : Binds K d__law_cell ["script", "k"] []
  g__law_cell : mg "_law_cell" = some (.ref f__law_cell)
  f__law_take : Addr
  d__law_take : FuncData
  F__law_take : Fun K "_law_take" "_law_take" s__law_take f__law_take d__law_take
  b__law_take : Binds K d__law_take ["state", "many"] []
  g__law_take : mg "_law_take" = some (.ref f__law_take)
  f__law_frac : Addr
  d__law_frac : FuncData
  F__law_frac : Fun K "_law_frac" "_law_frac" s__law_frac f__law_frac d__law_frac
  b__law_frac : Binds K d__law_frac ["top", "bottom"] []
  g__law_frac : mg "_law_frac" = some (.ref f__law_frac)
  f_fraction : Addr
  d_fraction : FuncData
  F_fraction : Fun K "fraction" "fraction" s_fraction f_fraction d_fraction
  b_fraction : Binds K d_fraction ["top", "bottom"] []
  g_fraction : mg "fraction" = some (.ref f_fraction)
  f_is_plain : Addr
  d_is_plain : FuncData
  F_is_plain : Fun K "is_plain" "is_plain" s_is_plain f_is_plain d_is_plain
  b_is_plain : Binds K d_is_plain ["row"] []
  g_is_plain : mg "is_plain" = some (.ref f_is_plain)
  f__law_state : Addr
  d__law_state : FuncData
  F__law_state : Fun K "_law_state" "_law_state" s__law_state f__law_state d__law_state
  b__law_state : Binds K d__law_state ["script", "k"] []
  g__law_state : mg "_law_state" = some (.ref f__law_state)
  f__law_plus : Addr
  d__law_plus : FuncData
  F__law_plus : Fun K "_law_plus" "_law_plus" s__law_plus f__law_plus d__law_plus
  b__law_plus : Binds K d__law_plus ["q", "r"] []
  g__law_plus : mg "_law_plus" = some (.ref f__law_plus)
  f__law_times : Addr
  d__law_times : FuncData
  F__law_times : Fun K "_law_times" "_law_times" s__law_times f__law_times d__law_times
  b__law_times : Binds K d__law_times ["q", "r"] []
  g__law_times : mg "_law_times" = some (.ref f__law_times)
  f__law_some : Addr
  d__law_some : FuncData
  F__law_some : Fun K "_law_some" "_law_some" s__law_some f__law_some d__law_some
  b__law_some : Binds K d__law_some ["state"] []
  g__law_some : mg "_law_some" = some (.ref f__law_some)
  f__law_weight : Addr
  d__law_weight : FuncData
  F__law_weight : Fun K "_law_weight" "_law_weight" s__law_weight f__law_weight d__law_weight
  b__law_weight : Binds K d__law_weight ["state"] []
  g__law_weight : mg "_law_weight" = some (.ref f__law_weight)
  f_plus : Addr
  d_plus : FuncData
  F_plus : Fun K "plus" "plus" s_plus f_plus d_plus
  b_plus : Binds K d_plus ["q", "r"] []
  g_plus : mg "plus" = some (.ref f_plus)
  f_minus : Addr
  d_minus : FuncData
  F_minus : Fun K "minus" "minus" s_minus f_minus d_minus
  b_minus : Binds K d_minus ["q", "r"] []
  g_minus : mg "minus" = some (.ref f_minus)
  f_times : Addr
  d_times : FuncData
  F_times : Fun K "times" "times" s_times f_times d_times
  b_times : Binds K d_times ["q", "r"] []
  g_times : mg "times" = some (.ref f_times)
  f_over : Addr
  d_over : FuncData
  F_over : Fun K "over" "over" s_over f_over d_over
  b_over : Binds K d_over ["q", "r"] []
  g_over : mg "over" = some (.ref f_over)
  f_put_on : Addr
  d_put_on : FuncData
  F_put_on : Fun K "put_on" "put_on" s_put_on f_put_on d_put_on
  b_put_on : Binds K d_put_on ["rows", "row"] []
  g_put_on : mg "put_on" = some (.ref f_put_on)
  f__law_bounds : Addr
  d__law_bounds : FuncData
  F__law_bounds : Fun K "_law_bounds" "_law_bounds" s__law_bounds f__law_bounds d__law_bounds
  b__law_bounds : Binds K d__law_bounds ["state"] []
  g__law_bounds : mg "_law_bounds" = some (.ref f__law_bounds)
  f__law_made : Addr
  d__law_made : FuncData
  F__law_made : Fun K "_law_made" "_law_made" s__law_made f__law_made d__law_made
  b__law_made : Binds K d__law_made ["state", "plan"] []
  g__law_made : mg "_law_made" = some (.ref f__law_made)
  f__law_moved : Addr
  d__law_moved : FuncData
  F__law_moved : Fun K "_law_moved" "_law_moved" s__law_moved f__law_moved d__law_moved
  b__law_moved : Binds K d__law_moved ["plan", "moves", "shifts"] []
  g__law_moved : mg "_law_moved" = some (.ref f__law_moved)
  f_first_rows : Addr
  d_first_rows : FuncData
  F_first_rows : Fun K "first_rows" "first_rows" s_first_rows f_first_rows d_first_rows
  b_first_rows : Binds K d_first_rows ["plan"] []
  g_first_rows : mg "first_rows" = some (.ref f_first_rows)
  f_mixed : Addr
  d_mixed : FuncData
  F_mixed : Fun K "mixed" "mixed" s_mixed f_mixed d_mixed
  b_mixed : Binds K d_mixed ["ones", "many", "others", "more"] []
  g_mixed : mg "mixed" = some (.ref f_mixed)
  f_worth_of : Addr
  d_worth_of : FuncData
  F_worth_of : Fun K "worth_of" "worth_of" s_worth_of f_worth_of d_worth_of
  b_worth_of : Binds K d_worth_of ["row", "made", "choice"] []
  g_worth_of : mg "worth_of" = some (.ref f_worth_of)
  f__law_plan : Addr
  d__law_plan : FuncData
  F__law_plan : Fun K "_law_plan" "_law_plan" s__law_plan f__law_plan d__law_plan
  b__law_plan : Binds K d__law_plan ["script"] []
  g__law_plan : mg "_law_plan" = some (.ref f__law_plan)
  f_taken_together : Addr
  d_taken_together : FuncData
  F_taken_together : Fun K "taken_together" "taken_together" s_taken_together f_taken_together d_taken_together
  b_taken_together : Binds K d_taken_together ["low", "high", "k"] []
  g_taken_together : mg "taken_together" = some (.ref f_taken_together)
  f_chosen_by : Addr
  d_chosen_by : FuncData
  F_chosen_by : Fun K "chosen_by" "chosen_by" s_chosen_by f_chosen_by d_chosen_by
  b_chosen_by : Binds K d_chosen_by ["rule", "made"] []
  g_chosen_by : mg "chosen_by" = some (.ref f_chosen_by)
  f_taken_out : Addr
  d_taken_out : FuncData
  F_taken_out : Fun K "taken_out" "taken_out" s_taken_out f_taken_out d_taken_out
  b_taken_out : Binds K d_taken_out ["rows", "k"] []
  g_taken_out : mg "taken_out" = some (.ref f_taken_out)
  f__law_told : Addr
  d__law_told : FuncData
  F__law_told : Fun K "_law_told" "_law_told" s__law_told f__law_told d__law_told
  b__law_told : Binds K d__law_told ["rule", "made"] []
  g__law_told : mg "_law_told" = some (.ref f__law_told)
  f_rule_of : Addr
  d_rule_of : FuncData
  F_rule_of : Fun K "rule_of" "rule_of" s_rule_of f_rule_of d_rule_of
  b_rule_of : Binds K d_rule_of ["plan"] []
  g_rule_of : mg "rule_of" = some (.ref f_rule_of)
  f_law : Addr
  d_law : FuncData
  F_law : Fun K "law" "law" s_law f_law d_law
  b_law : Binds K d_law ["script"] []
  g_law : mg "law" = some (.ref f_law)
  z_abs : mg "abs" = none
  z_enumerate : mg "enumerate" = none
  z_int : mg "int" = none
  z_len : mg "len" = none
  z_list : mg "list" = none
  z_max : mg "max" = none
  z_min : mg "min" = none
  z_range : mg "range" = none
  z_zip : mg "zip" = none
  ku_LESS_ONE : Value
  kv_LESS_ONE : V
  km_LESS_ONE : mg "LESS_ONE" = some ku_LESS_ONE
  kr_LESS_ONE : RelV kv_LESS_ONE ku_LESS_ONE
  kf_LESS_ONE : ∀ F H, Fz K F H kv_LESS_ONE (.tuple [(.int (-1)), (.int 1)])
  ku_NOUGHT : Value
  kv_NOUGHT : V
  km_NOUGHT : mg "NOUGHT" = some ku_NOUGHT
  kr_NOUGHT : RelV kv_NOUGHT ku_NOUGHT
  kf_NOUGHT : ∀ F H, Fz K F H kv_NOUGHT (.tuple [(.int 0), (.int 1)])
  ku_ONE : Value
  kv_ONE : V
  km_ONE : mg "ONE" = some ku_ONE
  kr_ONE : RelV kv_ONE ku_ONE
  kf_ONE : ∀ F H, Fz K F H kv_ONE (.tuple [(.int 1), (.int 1)])
  c_NoChoice : Addr
  cm_NoChoice : mg "NoChoice" = some (.ref c_NoChoice)
  ck_NoChoice : PySem.W.keepIn K (.ref c_NoChoice) = true
  cq_NoChoice : PySem.W.excIn K c_NoChoice [.type "ValueError", .type "Exception", .type "BaseException", .type "object"] "ValueError.__new__" = true
  cs_NoChoice : PySem.W.subIn K (.ref c_NoChoice) (.type "BaseException") = some true
  ct_NoChoice : PySem.W.typeIn K (.ref c_NoChoice) = some (.type "type")
  cx_NoChoice : ExcC K c_NoChoice
  cl_NoChoice : clK K "NoChoice" = some c_NoChoice
  ce_NoChoice_NoChoice : PySem.W.exmOne K (.ref c_NoChoice) (.ref c_NoChoice) = some true
section
variable {P : Program} {w : World} {K : PySem.W.Frag} {mg : Str → Option Value} {base : Heap}
theorem ok_divisor (T : Tx K mg) : FnOk P w K mg base CX0 1 T.f_divisor T.d_divisor ["one", "other"] (spT K false (clK K) 2 [] m_divisor) := by
  unfold m_divisor
  refine fnT (N := N_divisor) (ps := ["one", "other"]) (k := 0) T.F_divisor sc_divisor (by decide) (by decide) fun cdv A outer s H E hr => ?_
  exact ⟨_, qss_cons (qs_while PassesOwn.never (qt_pcmp (op_neA hr.units) opNe_v (qp_var 1) (qp_int) (nomark _)) (qss_one (qs_par (i := 0) (j := 1) rfl sc_divisor.nd (qa_cons (qe_var 1) (qa_cons (QP.lift (qp_op op_modA opMod_v (qp_var 0) (qp_var 1))) (qa_nil)))))) <|
    qss_one (qs_ret (QP.lift (qp_callB call_absA opAbs_v T.z_abs bt_abs (qpa_cons (qp_var 0) (qpa_nil)))))⟩
theorem ok_below (T : Tx K mg) : FnOk P w K mg base CX0 1 T.f_below T.d_below ["q", "r"] (spT K false (clK K) 2 [] m_below) := by
  unfold m_below
  refine fnT (N := N_below) (ps := ["q", "r"]) (k := 0) T.F_below sc_below (by decide) (by decide) fun cdv A outer s H E hr => ?_
  exact ⟨_, qss_one (qs_ret (QP.lift (qp_cmp op_ltA opLt_v (qp_op op_mulA opMulI_v (qp_ix (qp_var 0) (qp_int)) (qp_ix (qp_var 1) (qp_int))) (qp_op op_mulA opMulI_v (qp_ix (qp_var 1) (qp_int)) (qp_ix (qp_var 0) (qp_int))) (nomark _))))⟩
theorem ok_bound_row (T : Tx K mg) : FnOk P w K mg base CX0 1 T.f_bound_row T.d_bound_row ["plan", "k", "sign", "c"] (spT K false (clK K) 4 [] m_bound_row) := by
  unfold m_bound_row
  refine fnT (N := N_bound_row) (ps := ["plan", "k", "sign", "c"]) (k := 0) T.F_bound_row sc_bound_row (by decide) (by decide) fun cdv A outer s H E hr => ?_
  exact ⟨_, qss_cons (qs_setLcC (i := 4) (own := [("shim", 5)]) (vs := [5]) rfl rfl sc_bound_row.nd rfl rfl (sw_true rfl rfl rfl (by decide +kernel)) (qi_list (QP.lift (qp_ix (qp_var 0) (qp_int)))) (blkOk_by (N := N_bound_row) (sc := defScope s_bound_row) (by decide +kernel)) (fun _ _ _ _ _ => ⟨_, qg_name (i := 5) sc_bound_row.nd⟩) (fun _ _ _ _ _ => ⟨_, qts_nil⟩) (fun _ _ _ _ _ => ⟨_, QP.lift (qp_glob T.km_NOUGHT T.kr_NOUGHT T.kf_NOUGHT)⟩) s H) <|
    qss_cons (qs_asg (qe_var 2) (qg_item (ql_name 4) (qp_var 1))) <|
    qss_one (qs_ret (qe_tup (qa_cons (QE.fz (qe_lcC (own := [("size", 6)]) (vs := [6]) rfl rfl sc_bound_row.nd  (qi_list (QP.lift (qp_ix (qp_var 0) (qp_int)))) (blkOk_by (N := N_bound_row) (sc := defScope s_bound_row) (by decide +kernel)) (fun _ _ _ _ _ => ⟨_, qg_name (i := 6) sc_bound_row.nd⟩) (fun _ _ _ _ _ => ⟨_, qts_nil⟩) (fun _ _ _ _ _ => ⟨_, QP.lift (qp_glob T.km_NOUGHT T.kr_NOUGHT T.kf_NOUGHT)⟩) s H)) (qa_cons (qe_var 4) (qa_cons (qe_var 3) (qa_nil))))))⟩
theorem ok__law_cell (T : Tx K mg) : FnOk P w K mg base CX0 1 T.f__law_cell T.d__law_cell ["script", "k"] (spT K false (clK K) 2 [] m__law_cell_2) := by
  unfold m__law_cell_2
  refine fnT (N := N__law_cell) (ps := ["script", "k"]) (k := 0) T.F__law_cell sc__law_cell (by decide) (by decide) fun cdv A outer s H E hr => ?_
  exact ⟨_, qss_cons (qs_if (qt_pcmp op_ltA opLt_v (qp_var 1) (qp_callB call_lenA opLen_v T.z_len bt_len (qpa_cons (qp_var 0) (qpa_nil))) (nomark _)) (qss_one (qs_ret (QP.lift (qp_ix (qp_var 0) (qp_var 1))))) (qss_nil)) <|
    qss_one (qs_ret (QP.lift (qp_op op_addA opAdd_v (qp_op op_addA opAdd_v (qp_op op_mulA opMulI_v (qp_op op_mulA opMulI_v (qp_int) (qp_var 1)) (qp_var 1)) (qp_op op_mulA opMulI_v (qp_int) (qp_var 1))) (qp_int))))⟩
theorem ok__law_take (T : Tx K mg) : FnOk P w K mg base CX0 1 T.f__law_take T.d__law_take ["state", "many"] (spT K false (clK K) 2 [0] m__law_take_3) := by
  unfold m__law_take_3
  refine fnT (N := N__law_take) (ps := ["state", "many"]) (k := 0) T.F__law_take sc__law_take (by decide) (by decide) fun cdv A outer s H E hr => ?_
  exact ⟨_, qss_cons (qs_if (qt_not (qt_truth (qp_key (u1 hr) (qp_var 0) (qp_str)))) (qss_cons (qs_set (i := 3) sc__law_take.nd (QP.lift (qp_op op_modA opMod_v (qp_key (u1 hr) (qp_var 0) (qp_str)) (qp_var 1)))) <|
    qss_cons (qs_keySet (i := 0) (u1 hr) (qk_name 0) (qp_str) (QP.lift (qp_op op_fdivA opFdiv_v (qp_key (u1 hr) (qp_var 0) (qp_str)) (qp_var 1)))) <|
    qss_one (qs_ret (qe_var 3))) (qss_nil)) <|
    qss_cons (qs_keySet (i := 0) (u1 hr) (qk_name 0) (qp_str) (QP.lift (qp_op op_addA opAdd_v (qp_key (u1 hr) (qp_var 0) (qp_str)) (qp_int)))) <|
    qss_cons (qs_set (i := 2) sc__law_take.nd (QP.lift (qp_op op_modA opMod_v (qp_op op_addA opAdd_v (qp_op op_modA opMod_v (qp_key (u1 hr) (qp_var 0) (qp_str)) (qp_int)) (qp_op op_mulA opMulI_v (qp_int) (qp_key (u1 hr) (qp_var 0) (qp_str)))) (qp_int)))) <|
    qss_cons (qs_set (i := 2) sc__law_take.nd (QP.lift (qp_op op_modA opMod_v (qp_op op_mulA opMulI_v (qp_var 2) (qp_var 2)) (qp_int)))) <|
    qss_cons (qs_keySet (i := 0) (u1 hr) (qk_name 0) (qp_str) (QP.lift (qp_op op_modA opMod_v (qp_op op_addA opAdd_v (qp_op op_mulA opMulI_v (qp_var 2) (qp_int)) (qp_int)) (qp_int)))) <|
    qss_one (qs_ret (QP.lift (qp_op op_modA opMod_v (qp_op op_fdivA opFdiv_v (qp_key (u1 hr) (qp_var 0) (qp_str)) (qp_int)) (qp_var 1))))⟩
theorem ok__law_frac (T : Tx K mg) : FnOk P w K mg base CX0 1 T.f__law_frac T.d__law_frac ["top", "bottom"] (spT K false (clK K) 2 [] m__law_frac) := by
  unfold m__law_frac
  refine fnT (N := N__law_frac) (ps := ["top", "bottom"]) (k := 0) T.F__law_frac sc__law_frac (by decide) (by decide) fun cdv A outer s H E hr => ?_
  exact ⟨_, qss_cons (qs_set (i := 2) sc__law_frac.nd (QP.lift (qp_callB call_absA opAbs_v T.z_abs bt_abs (qpa_cons (qp_var 0) (qpa_nil))))) <|
    qss_cons (qs_set (i := 3) sc__law_frac.nd (qe_var 1)) <|
    qss_cons (qs_while PassesOwn.never (qt_pcmp op_gtA opGt_v (qp_var 3) (qp_int) (nomark _)) (qss_one (qs_par (i := 2) (j := 3) rfl sc__law_frac.nd (qa_cons (qe_var 3) (qa_cons (QP.lift (qp_op op_modA opMod_v (qp_var 2) (qp_var 3))) (qa_nil)))))) <|
    qss_one (qs_ret (qe_tup (qa_cons (QP.lift (qp_op op_fdivA opFdiv_v (qp_var 0) (qp_var 2))) (qa_cons (QP.lift (qp_op op_fdivA opFdiv_v (qp_var 1) (qp_var 2))) (qa_nil)))))⟩
theorem ok_fraction (T : Tx K mg) : FnOk P w K mg base CX0 2 T.f_fraction T.d_fraction ["top", "bottom"] (spT K false (clK K) 2 [] m_fraction) := by
  unfold m_fraction
  refine fnT (N := N_fraction) (ps := ["top", "bottom"]) (k := 1) T.F_fraction sc_fraction (by decide) (by decide) fun cdv A outer s H E hr => ?_
  exact ⟨_, qss_cons (qs_if (qt_pcmp (op_eqA hr.units) opEq_v (qp_var 1) (qp_int) (nomark _)) (qss_one (qs_never)) (qss_nil)) <|
    qss_cons (qs_set (i := 2) sc_fraction.nd (qe_call (ok_divisor T) hr T.g_divisor T.F_divisor.kp T.b_divisor pass0 (qb_cons (qe_var 0) (qb_cons (qe_var 1) (qb_nil))))) <|
    qss_cons (qs_if (qt_pcmp op_ltA opLt_v (qp_var 1) (qp_int) (nomark _)) (qss_one (qs_set (i := 2) sc_fraction.nd (QP.lift (qp_op op_subA opSub_v (qp_int) (qp_var 2))))) (qss_nil)) <|
    qss_one (qs_ret (qe_tup (qa_cons (QP.lift (qp_op op_fdivA opFdiv_v (qp_var 0) (qp_var 2))) (qa_cons (QP.lift (qp_op op_fdivA opFdiv_v (qp_var 1) (qp_var 2))) (qa_nil)))))⟩
theorem ok_is_plain (T : Tx K mg) : FnOk P w K mg base CX0 2 T.f_is_plain T.d_is_plain ["row"] (spT K false (clK K) 1 [] m_is_plain) := by
  unfold m_is_plain
  refine fnT (N := N_is_plain) (ps := ["row"]) (k := 1) T.F_is_plain sc_is_plain (by decide) (by decide) fun cdv A outer s H E hr => ?_
  exact ⟨_, qss_cons (qs_for rfl PassesOwn.never (qi_list (QE.fz (qe_op op_addA opAdd_v opAdd_nox (QP.lift (qp_ix (qp_var 0) (qp_int))) (QP.lift (qp_ix (qp_var 0) (qp_int)))))) (qg_name (i := 1) sc_is_plain.nd) (qss_one (qs_if (qt_pcmp (op_neA hr.units) opNe_v (qp_var 1) (qp_glob T.km_NOUGHT T.kr_NOUGHT T.kf_NOUGHT) (nomark _)) (qss_one (qs_ret (QP.lift (qp_bl)))) (qss_nil)))) <|
    qss_one (qs_ret (qe_not (qe_call (ok_below T) hr T.g_below T.F_below.kp T.b_below pass0 (qb_cons (QP.lift (qp_ix (qp_var 0) (qp_int))) (qb_cons (QP.lift (qp_glob T.km_NOUGHT T.kr_NOUGHT T.kf_NOUGHT)) (qb_nil))))))⟩
theorem ok__law_state (T : Tx K mg) : FnOk P w K mg base CX0 2 T.f__law_state T.d__law_state ["script", "k"] (spT K false (clK K) 2 [] m__law_state) := by
  unfold m__law_state
  refine fnT (N := N__law_state) (ps := ["script", "k"]) (k := 1) T.F__law_state sc__law_state (by decide) (by decide) fun cdv A outer s H E hr => ?_
  exact ⟨_, qss_one (qs_ret (qe_disp (qd_cons (qe_call (ok__law_cell T) hr T.g__law_cell T.F__law_cell.kp T.b__law_cell pass0 (qb_cons (qe_rd 0) (qb_cons (qe_var 1) (qb_nil)))) (qd_cons (qe_cmp (op_eqA hr.units) opEq_v opEq_nox (qe_op op_modA opMod_v opI2_nox (qe_call (ok__law_cell T) hr T.g__law_cell T.F__law_cell.kp T.b__law_cell pass0 (qb_cons (qe_rd 0) (qb_cons (QP.lift (qp_int)) (qb_nil)))) (QP.lift (qp_int))) (QP.lift (qp_int)) (nomark _)) (qd_cons (qe_var 1) (qd_nil))))))⟩
theorem ok__law_plus (T : Tx K mg) : FnOk P w K mg base CX0 2 T.f__law_plus T.d__law_plus ["q", "r"] (spT K false (clK K) 2 [] m__law_plus_4) := by
  unfold m__law_plus_4
  refine fnT (N := N__law_plus) (ps := ["q", "r"]) (k := 1) T.F__law_plus sc__law_plus (by decide) (by decide) fun cdv A outer s H E hr => ?_
  exact ⟨_, qss_one (qs_ret (qe_call (ok__law_frac T) hr T.g__law_frac T.F__law_frac.kp T.b__law_frac pass0 (qb_cons (QP.lift (qp_op op_addA opAdd_v (qp_op op_mulA opMulI_v (qp_ix (qp_var 0) (qp_int)) (qp_ix (qp_var 1) (qp_int))) (qp_op op_mulA opMulI_v (qp_ix (qp_var 1) (qp_int)) (qp_ix (qp_var 0) (qp_int))))) (qb_cons (QP.lift (qp_op op_mulA opMulI_v (qp_ix (qp_var 0) (qp_int)) (qp_ix (qp_var 1) (qp_int)))) (qb_nil)))))⟩
theorem ok__law_times (T : Tx K mg) : FnOk P w K mg base CX0 2 T.f__law_times T.d__law_times ["q", "r"] (spT K false (clK K) 2 [] m__law_times_3) := by
  unfold m__law_times_3
  refine fnT (N := N__law_times) (ps := ["q", "r"]) (k := 1) T.F__law_times sc__law_times (by decide) (by decide) fun cdv A outer s H E hr => ?_
  exact ⟨_, qss_one (qs_ret (qe_call (ok__law_frac T) hr T.g__law_frac T.F__law_frac.kp T.b__law_frac pass0 (qb_cons (QP.lift (qp_op op_mulA opMulI_v (qp_ix (qp_var 0) (qp_int)) (qp_ix (qp_var 1) (qp_int)))) (qb_cons (QP.lift (qp_op op_mulA opMulI_v (qp_ix (qp_var 0) (qp_int)) (qp_ix (qp_var 1) (qp_int)))) (qb_nil)))))⟩
theorem ok__law_some (T : Tx K mg) : FnOk P w K mg base CX0 2 T.f__law_some T.d__law_some ["state"] (spT K false (clK K) 1 [0] m__law_some) := by
  unfold m__law_some
  refine fnT (N := N__law_some) (ps := ["state"]) (k := 1) T.F__law_some sc__law_some (by decide) (by decide) fun cdv A outer s H E hr => ?_
  exact ⟨_, qss_cons (qs_set (i := 1) sc__law_some.nd (qe_call (ok__law_take T) hr T.g__law_take T.F__law_take.kp T.b__law_take pass0 (qb_io 0 (qb_cons (QP.lift (qp_int)) (qb_nil))))) <|
    qss_cons (qs_if (qt_pcmp (op_eqA hr.units) opEq_v (qp_var 1) (qp_int) (nomark _)) (qss_one (qs_ret (qe_call (ok__law_frac T) hr T.g__law_frac T.F__law_frac.kp T.b__law_frac pass0 (qb_cons (qe_op op_subA opSub_v opI2_nox (qe_call (ok__law_take T) hr T.g__law_take T.F__law_take.kp T.b__law_take pass0 (qb_io 0 (qb_cons (QP.lift (qp_op op_powA opPow_v (qp_int) (qp_int))) (qb_nil)))) (QP.lift (qp_op op_mulA opMulI_v (qp_int) (qp_op op_powA opPow_v (qp_int) (qp_int))))) (qb_cons (qe_op op_addA opAdd_v opAdd_nox (QP.lift (qp_int)) (qe_call (ok__law_take T) hr T.g__law_take T.F__law_take.kp T.b__law_take pass0 (qb_io 0 (qb_cons (QP.lift (qp_int)) (qb_nil))))) (qb_nil)))))) (qss_nil)) <|
    qss_cons (qs_if (qt_pcmp op_ltA opLt_v (qp_var 1) (qp_int) (nomark _)) (qss_one (qs_ret (qe_tup (qa_cons (qe_op op_subA opSub_v opI2_nox (qe_call (ok__law_take T) hr T.g__law_take T.F__law_take.kp T.b__law_take pass0 (qb_io 0 (qb_cons (QP.lift (qp_int)) (qb_nil)))) (QP.lift (qp_int))) (qa_cons (QP.lift (qp_int)) (qa_nil)))))) (qss_nil)) <|
    qss_one (qs_ret (qe_call (ok__law_frac T) hr T.g__law_frac T.F__law_frac.kp T.b__law_frac pass0 (qb_cons (qe_op op_subA opSub_v opI2_nox (qe_call (ok__law_take T) hr T.g__law_take T.F__law_take.kp T.b__law_take pass0 (qb_io 0 (qb_cons (QP.lift (qp_int)) (qb_nil)))) (QP.lift (qp_int))) (qb_cons (qe_op op_addA opAdd_v opAdd_nox (QP.lift (qp_int)) (qe_call (ok__law_take T) hr T.g__law_take T.F__law_take.kp T.b__law_take pass0 (qb_io 0 (qb_cons (QP.lift (qp_int)) (qb_nil))))) (qb_nil)))))⟩
theorem ok__law_weight (T : Tx K mg) : FnOk P w K mg base CX0 2 T.f__law_weight T.d__law_weight ["state"] (spT K false (clK K) 1 [0] m__law_weight) := by
  unfold m__law_weight
  refine fnT (N := N__law_weight) (ps := ["state"]) (k := 1) T.F__law_weight sc__law_weight (by decide) (by decide) fun cdv A outer s H E hr => ?_
  exact ⟨_, qss_cons (qs_set (i := 1) sc__law_weight.nd (QE.fz (qe_lst (qa_cons (qe_tup (qa_cons (QP.lift (qp_int)) (qa_cons (QP.lift (qp_int)) (qa_nil)))) (qa_cons (qe_tup (qa_cons (QP.lift (qp_int)) (qa_cons (QP.lift (qp_int)) (qa_nil)))) (qa_cons (qe_tup (qa_cons (QP.lift (qp_int)) (qa_cons (QP.lift (qp_int)) (qa_nil)))) (qa_cons (qe_tup (qa_cons (QP.lift (qp_neg (qp_int))) (qa_cons (QP.lift (qp_int)) (qa_nil)))) (qa_cons (qe_tup (qa_cons (QP.lift (qp_int)) (qa_cons (QP.lift (qp_int)) (qa_nil)))) (qa_cons (qe_tup (qa_cons (QP.lift (qp_neg (qp_int))) (qa_cons (QP.lift (qp_int)) (qa_nil)))) (qa_cons (qe_tup (qa_cons (QP.lift (qp_int)) (qa_cons (QP.lift (qp_int)) (qa_nil)))) (qa_cons (qe_tup (qa_cons (QP.lift (qp_neg (qp_int))) (qa_cons (QP.lift (qp_int)) (qa_nil)))) (qa_cons (qe_tup (qa_cons (QP.lift (qp_int)) (qa_cons (QP.lift (qp_int)) (qa_nil)))) (qa_cons (qe_tup (qa_cons (QP.lift (qp_neg (qp_int))) (qa_cons (QP.lift (qp_int)) (qa_nil)))) (qa_nil)))))))))))))) <|
    qss_cons (qs_set (i := 2) sc__law_weight.nd (qe_call (ok__law_take T) hr T.g__law_take T.F__law_take.kp T.b__law_take pass0 (qb_io 0 (qb_cons (QP.lift (qp_int)) (qb_nil))))) <|
    qss_cons (qs_if (qt_pcmp op_ltA opLt_v (qp_var 2) (qp_int) (nomark _)) (qss_one (qs_ret (QP.lift (qp_ix (qp_var 1) (qp_var 2))))) (qss_nil)) <|
    qss_one (qs_ret (qe_call (ok__law_frac T) hr T.g__law_frac T.F__law_frac.kp T.b__law_frac pass0 (qb_cons (qe_op op_subA opSub_v opI2_nox (qe_call (ok__law_take T) hr T.g__law_take T.F__law_take.kp T.b__law_take pass0 (qb_io 0 (qb_cons (QP.lift (qp_int)) (qb_nil)))) (QP.lift (qp_int))) (qb_cons (qe_op op_addA opAdd_v opAdd_nox (QP.lift (qp_int)) (qe_call (ok__law_take T) hr T.g__law_take T.F__law_take.kp T.b__law_take pass0 (qb_io 0 (qb_cons (QP.lift (qp_int)) (qb_nil))))) (qb_nil)))))⟩
theorem ok_plus (T : Tx K mg) : FnOk P w K mg base CX0 3 T.f_plus T.d_plus ["q", "r"] (spT K false (clK K) 2 [] m_plus) := by
  unfold m_plus
  refine fnT (N := N_plus) (ps := ["q", "r"]) (k := 2) T.F_plus sc_plus (by decide) (by decide) fun cdv A outer s H E hr => ?_
  exact ⟨_, qss_one (qs_ret (qe_call (ok_fraction T) hr T.g_fraction T.F_fraction.kp T.b_fraction pass0 (qb_cons (QP.lift (qp_op op_addA opAdd_v (qp_op op_mulA opMulI_v (qp_ix (qp_var 0) (qp_int)) (qp_ix (qp_var 1) (qp_int))) (qp_op op_mulA opMulI_v (qp_ix (qp_var 1) (qp_int)) (qp_ix (qp_var 0) (qp_int))))) (qb_cons (QP.lift (qp_op op_mulA opMulI_v (qp_ix (qp_var 0) (qp_int)) (qp_ix (qp_var 1) (qp_int)))) (qb_nil)))))⟩
theorem ok_minus (T : Tx K mg) : FnOk P w K mg base CX0 3 T.f_minus T.d_minus ["q", "r"] (spT K false (clK K) 2 [] m_minus) := by
  unfold m_minus
  refine fnT (N := N_minus) (ps := ["q", "r"]) (k := 2) T.F_minus sc_minus (by decide) (by decide) fun cdv A outer s H E hr => ?_
  exact ⟨_, qss_one (qs_ret (qe_call (ok_fraction T) hr T.g_fraction T.F_fraction.kp T.b_fraction pass0 (qb_cons (QP.lift (qp_op op_subA opSub_v (qp_op op_mulA opMulI_v (qp_ix (qp_var 0) (qp_int)) (qp_ix (qp_var 1) (qp_int))) (qp_op op_mulA opMulI_v (qp_ix (qp_var 1) (qp_int)) (qp_ix (qp_var 0) (qp_int))))) (qb_cons (QP.lift (qp_op op_mulA opMulI_v (qp_ix (qp_var 0) (qp_int)) (qp_ix (qp_var 1) (qp_int)))) (qb_nil)))))⟩
theorem ok_times (T : Tx K mg) : FnOk P w K mg base CX0 3 T.f_times T.d_times ["q", "r"] (spT K false (clK K) 2 [] m_times) := by
  unfold m_times
  refine fnT (N := N_times) (ps := ["q", "r"]) (k := 2) T.F_times sc_times (by decide) (by decide) fun cdv A outer s H E hr => ?_
  exact ⟨_, qss_one (qs_ret (qe_call (ok_fraction T) hr T.g_fraction T.F_fraction.kp T.b_fraction pass0 (qb_cons (QP.lift (qp_op op_mulA opMulI_v (qp_ix (qp_var 0) (qp_int)) (qp_ix (qp_var 1) (qp_int)))) (qb_cons (QP.lift (qp_op op_mulA opMulI_v (qp_ix (qp_var 0) (qp_int)) (qp_ix (qp_var 1) (qp_int)))) (qb_nil)))))⟩
theorem ok_over (T : Tx K mg) : FnOk P w K mg base CX0 3 T.f_over T.d_over ["q", "r"] (spT K false (clK K) 2 [] m_over) := by
  unfold m_over
  refine fnT (N := N_over) (ps := ["q", "r"]) (k := 2) T.F_over sc_over (by decide) (by decide) fun cdv A outer s H E hr => ?_
  exact ⟨_, qss_one (qs_ret (qe_call (ok_fraction T) hr T.g_fraction T.F_fraction.kp T.b_fraction pass0 (qb_cons (QP.lift (qp_op op_mulA opMulI_v (qp_ix (qp_var 0) (qp_int)) (qp_ix (qp_var 1) (qp_int)))) (qb_cons (QP.lift (qp_op op_mulA opMulI_v (qp_ix (qp_var 0) (qp_int)) (qp_ix (qp_var 1) (qp_int)))) (qb_nil)))))⟩
theorem ok_put_on (T : Tx K mg) : FnOk P w K mg base CX0 3 T.f_put_on T.d_put_on ["rows", "row"] (spT K false (clK K) 2 [0] m_put_on) := by
  unfold m_put_on
  refine fnT (N := N_put_on) (ps := ["rows", "row"]) (k := 2) T.F_put_on sc_put_on (by decide) (by decide) fun cdv A outer s H E hr => ?_
  exact ⟨_, qss_one (qs_if (QW.qt (qw_and (qt_not (qt_val (qe_call (ok_is_plain T) hr T.g_is_plain T.F_is_plain.kp T.b_is_plain pass0 (qb_cons (qe_var 1) (qb_nil))))) (qw_and1 (qt_pcmp (op_notInA (u65 hr)) opNotInD_v (qp_var 1) (qp_var 0) rfl)))) (qss_one (qs_expr (qe_meth (i := 0) PySem.F.slot_list_append PySem.F.type_list_append mt_append append_v (ql_name 0) (qa_cons (qe_var 1) (qa_nil)) (.inr fun _ _ => lHere_nil)))) (qss_nil))⟩
theorem ok__law_bounds (T : Tx K mg) : FnOk P w K mg base CX0 3 T.f__law_bounds T.d__law_bounds ["state"] (spT K false (clK K) 1 [0] m__law_bounds_3) := by
  unfold m__law_bounds_3
  refine fnT (N := N__law_bounds) (ps := ["state"]) (k := 2) T.F__law_bounds sc__law_bounds (by decide) (by decide) fun cdv A outer s H E hr => ?_
  exact ⟨_, qss_cons (qs_set (i := 1) sc__law_bounds.nd (qe_call (ok__law_some T) hr T.g__law_some T.F__law_some.kp T.b__law_some pass0 (qb_io 0 (qb_nil)))) <|
    qss_one (qs_ret (qe_tup (qa_cons (qe_var 1) (qa_cons (qe_call (ok__law_plus T) hr T.g__law_plus T.F__law_plus.kp T.b__law_plus pass0 (qb_cons (qe_var 1) (qb_cons (qe_call (ok__law_frac T) (hr.mono (by decide)) T.g__law_frac T.F__law_frac.kp T.b__law_frac pass0 (qb_cons (qe_call (ok__law_take T) (hr.mono (by decide)) T.g__law_take T.F__law_take.kp T.b__law_take pass0 (qb_io 0 (qb_cons (QP.lift (qp_int)) (qb_nil)))) (qb_cons (qe_op op_addA opAdd_v opAdd_nox (QP.lift (qp_int)) (qe_call (ok__law_take T) (hr.mono (by decide)) T.g__law_take T.F__law_take.kp T.b__law_take pass0 (qb_io 0 (qb_cons (QP.lift (qp_int)) (qb_nil))))) (qb_nil)))) (qb_nil)))) (qa_nil)))))⟩
theorem ok__law_made (T : Tx K mg) : FnOk P w K mg base CX0 3 T.f__law_made T.d__law_made ["state", "plan"] (spT K false (clK K) 2 [0] m__law_made_2) := by
  unfold m__law_made_2
  refine fnT (N := N__law_made) (ps := ["state", "plan"]) (k := 2) T.F__law_made sc__law_made (by decide) (by decide) fun cdv A outer s H E hr => ?_
  exact ⟨_, qss_cons (qs_set (i := 2) sc__law_made.nd (qe_lst (qa_nil))) <|
    qss_cons (qs_for rfl PassesOwn.never (qi_list (QP.lift (qp_ix (qp_var 1) (qp_int)))) (qg_tup rfl (qgs_cons (qg_name (i := 3) sc__law_made.nd) (qgs_cons (qg_name (i := 4) sc__law_made.nd) (qgs_nil)))) (qss_cons (qs_set (i := 5) sc__law_made.nd (qe_call (ok__law_frac T) (hr.mono (by decide)) T.g__law_frac T.F__law_frac.kp T.b__law_frac pass0 (qb_cons (qe_call (ok__law_take T) (hr.mono (by decide)) T.g__law_take T.F__law_take.kp T.b__law_take pass0 (qb_io 0 (qb_cons (QP.lift (qp_int)) (qb_nil)))) (qb_cons (QP.lift (qp_int)) (qb_nil))))) <|
    qss_cons (qs_set (i := 6) sc__law_made.nd (qe_call (ok__law_plus T) hr T.g__law_plus T.F__law_plus.kp T.b__law_plus pass0 (qb_cons (qe_var 3) (qb_cons (qe_call (ok__law_times T) hr T.g__law_times T.F__law_times.kp T.b__law_times pass0 (qb_cons (qe_var 5) (qb_cons (qe_call (ok__law_plus T) hr T.g__law_plus T.F__law_plus.kp T.b__law_plus pass0 (qb_cons (qe_var 4) (qb_cons (qe_tup (qa_cons (QP.lift (qp_neg (qp_ix (qp_var 3) (qp_int)))) (qa_cons (QP.lift (qp_ix (qp_var 3) (qp_int))) (qa_nil)))) (qb_nil)))) (qb_nil)))) (qb_nil))))) <|
    qss_cons (qs_if (qt_cmp (op_eqA hr.units) opEq_v opEq_nox (qe_call (ok__law_take T) (hr.mono (by decide)) T.g__law_take T.F__law_take.kp T.b__law_take pass0 (qb_io 0 (qb_cons (QP.lift (qp_int)) (qb_nil)))) (QP.lift (qp_int)) (nomark _)) (qss_one (qs_set (i := 6) sc__law_made.nd (qe_call (ok__law_plus T) hr T.g__law_plus T.F__law_plus.kp T.b__law_plus pass0 (qb_cons (qe_var 6) (qb_cons (qe_call (ok__law_some T) hr T.g__law_some T.F__law_some.kp T.b__law_some pass0 (qb_io 0 (qb_nil))) (qb_nil)))))) (qss_nil)) <|
    qss_one (qs_expr (qe_meth (i := 2) PySem.F.slot_list_append PySem.F.type_list_append mt_append append_v (ql_name 2) (qa_cons (qe_var 6) (qa_nil)) (.inr fun _ _ => lHere_nil))))) <|
    qss_one (qs_ret (qe_var 2))⟩
theorem ok__law_moved (T : Tx K mg) : FnOk P w K mg base CX0 3 T.f__law_moved T.d__law_moved ["plan", "moves", "shifts"] (spT K false (clK K) 3 [] m__law_moved_2) := by
  unfold m__law_moved_2
  refine fnT (N := N__law_moved) (ps := ["plan", "moves", "shifts"]) (k := 2) T.F__law_moved sc__law_moved (by decide) (by decide) fun cdv A outer s H E hr => ?_
  exact ⟨_, qss_cons (qs_thenFz 3 (qs_setLcC (i := 3) (own := [("by", 10), ("low", 11), ("high", 12)]) (vs := [10, 11, 12]) rfl rfl sc__law_moved.nd rfl rfl (sw_true rfl rfl rfl (by decide +kernel)) (qi_zip T.z_zip (qa_cons (QP.lift (qp_ix (qp_var 0) (qp_int))) (qa_cons (qe_var 1) (qa_nil)))) (blkOk_by (N := N__law_moved) (sc := defScope s__law_moved) (by decide +kernel)) (fun _ _ _ _ _ => ⟨_, qg_tup rfl (qgs_cons (qg_tup rfl (qgs_cons (qg_name (i := 11) sc__law_moved.nd) (qgs_cons (qg_name (i := 12) sc__law_moved.nd) (qgs_nil)))) (qgs_cons (qg_name (i := 10) sc__law_moved.nd) (qgs_nil)))⟩) (fun _ _ _ _ _ => ⟨_, qts_nil⟩) (fun _ _ _ _ _ => ⟨_, qe_tup (qa_cons (qe_call (ok__law_plus T) hr T.g__law_plus T.F__law_plus.kp T.b__law_plus pass0 (qb_cons (qe_var 11) (qb_cons (qe_var 10) (qb_nil)))) (qa_cons (qe_call (ok__law_plus T) hr T.g__law_plus T.F__law_plus.kp T.b__law_plus pass0 (qb_cons (qe_var 12) (qb_cons (qe_var 10) (qb_nil)))) (qa_nil)))⟩) s H)) <|
    qss_cons (qs_thenFz 4 (qs_setLcC (i := 4) (own := [("by", 10), ("low", 11), ("high", 12)]) (vs := [10, 11, 12]) rfl rfl sc__law_moved.nd rfl rfl (sw_true rfl rfl rfl (by decide +kernel)) (qi_zip T.z_zip (qa_cons (QP.lift (qp_ix (qp_var 0) (qp_int))) (qa_cons (qe_var 2) (qa_nil)))) (blkOk_by (N := N__law_moved) (sc := defScope s__law_moved) (by decide +kernel)) (fun _ _ _ _ _ => ⟨_, qg_tup rfl (qgs_cons (qg_tup rfl (qgs_cons (qg_name (i := 11) sc__law_moved.nd) (qgs_cons (qg_name (i := 12) sc__law_moved.nd) (qgs_nil)))) (qgs_cons (qg_name (i := 10) sc__law_moved.nd) (qgs_nil)))⟩) (fun _ _ _ _ _ => ⟨_, qts_nil⟩) (fun _ _ _ _ _ => ⟨_, qe_tup (qa_cons (qe_call (ok__law_plus T) hr T.g__law_plus T.F__law_plus.kp T.b__law_plus pass0 (qb_cons (qe_var 11) (qb_cons (qe_var 10) (qb_nil)))) (qa_cons (qe_call (ok__law_plus T) hr T.g__law_plus T.F__law_plus.kp T.b__law_plus pass0 (qb_cons (qe_var 12) (qb_cons (qe_var 10) (qb_nil)))) (qa_nil)))⟩) s H)) <|
    qss_cons (qs_set (i := 5) sc__law_moved.nd (qe_lst (qa_nil))) <|
    qss_cons (qs_for rfl PassesOwn.never (qi_list (QP.lift (qp_ix (qp_var 0) (qp_int)))) (qg_tup rfl (qgs_cons (qg_name (i := 6) sc__law_moved.nd) (qgs_cons (qg_name (i := 7) sc__law_moved.nd) (qgs_cons (qg_name (i := 8) sc__law_moved.nd) (qgs_nil))))) (qss_cons (qs_for rfl PassesOwn.never (qi_list (QE.fz (qe_op op_addA opAdd_v opAdd_nox (QE.fz (qe_listZip rfl T.z_list T.z_zip (qa_cons (qe_var 6) (qa_cons (qe_var 1) (qa_nil))))) (QE.fz (qe_listZip rfl T.z_list T.z_zip (qa_cons (qe_var 7) (qa_cons (qe_var 2) (qa_nil)))))))) (qg_tup rfl (qgs_cons (qg_name (i := 9) sc__law_moved.nd) (qgs_cons (qg_name (i := 10) sc__law_moved.nd) (qgs_nil)))) (qss_one (qs_set (i := 8) sc__law_moved.nd (qe_call (ok__law_plus T) hr T.g__law_plus T.F__law_plus.kp T.b__law_plus pass0 (qb_cons (qe_var 8) (qb_cons (qe_call (ok__law_times T) hr T.g__law_times T.F__law_times.kp T.b__law_times pass0 (qb_cons (qe_var 9) (qb_cons (qe_tup (qa_cons (QP.lift (qp_neg (qp_ix (qp_var 10) (qp_int)))) (qa_cons (QP.lift (qp_ix (qp_var 10) (qp_int))) (qa_nil)))) (qb_nil)))) (qb_nil))))))) <|
    qss_one (qs_expr (qe_meth (i := 5) PySem.F.slot_list_append PySem.F.type_list_append mt_append append_v (ql_name 5) (qa_cons (qe_tup (qa_cons (QE.fz (qe_callTy call_listOf opListOf_v opListOf_nox T.z_list bt_list (qa_cons (qe_var 6) (qa_nil)))) (qa_cons (QE.fz (qe_callTy call_listOf opListOf_v opListOf_nox T.z_list bt_list (qa_cons (qe_var 7) (qa_nil)))) (qa_cons (qe_var 8) (qa_nil))))) (qa_nil)) (.inr fun _ _ => lHere_nil))))) <|
    qss_one (qs_ret (qe_tup (qa_cons (qe_var 3) (qa_cons (qe_var 4) (qa_cons (qe_var 5) (qa_nil))))))⟩
theorem ok_first_rows (T : Tx K mg) : FnOk P w K mg base CX0 4 T.f_first_rows T.d_first_rows ["plan"] (spT K false (clK K) 1 [] m_first_rows) := by
  unfold m_first_rows
  refine fnT (N := N_first_rows) (ps := ["plan"]) (k := 3) T.F_first_rows sc_first_rows (by decide) (by decide) fun cdv A outer s H E hr => ?_
  exact ⟨_, qss_cons (qs_set (i := 1) sc_first_rows.nd (qe_lst (qa_nil))) <|
    qss_cons (qs_for rfl PassesOwn.never (qi_list (QP.lift (qp_ix (qp_var 0) (qp_int)))) (qg_tup rfl (qgs_cons (qg_name (i := 2) sc_first_rows.nd) (qgs_cons (qg_name (i := 3) sc_first_rows.nd) (qgs_cons (qg_name (i := 4) sc_first_rows.nd) (qgs_nil))))) (qss_one (qs_expr (qe_call (ok_put_on T) hr T.g_put_on T.F_put_on.kp T.b_put_on pass0 (qb_io 1 (qb_cons (qe_tup (qa_cons (QE.fz (qe_callTy call_listOf opListOf_v opListOf_nox T.z_list bt_list (qa_cons (qe_var 2) (qa_nil)))) (qa_cons (QE.fz (qe_callTy call_listOf opListOf_v opListOf_nox T.z_list bt_list (qa_cons (qe_var 3) (qa_nil)))) (qa_cons (qe_var 4) (qa_nil))))) (qb_nil))))))) <|
    qss_cons (qs_for rfl PassesOwn.never (qi_enum T.z_enumerate (qa_cons (QP.lift (qp_ix (qp_var 0) (qp_int))) (qa_nil))) (qg_tup rfl (qgs_cons (qg_name (i := 5) sc_first_rows.nd) (qgs_cons (qg_name (i := 6) sc_first_rows.nd) (qgs_nil)))) (qss_cons (qs_expr (qe_call (ok_put_on T) hr T.g_put_on T.F_put_on.kp T.b_put_on pass0 (qb_io 1 (qb_cons (qe_call (ok_bound_row T) (hr.mono (by decide)) T.g_bound_row T.F_bound_row.kp T.b_bound_row pass0 (qb_cons (qe_var 0) (qb_cons (qe_var 5) (qb_cons (QP.lift (qp_glob T.km_ONE T.kr_ONE T.kf_ONE)) (qb_cons (qe_call (ok_minus T) hr T.g_minus T.F_minus.kp T.b_minus pass0 (qb_cons (QP.lift (qp_glob T.km_NOUGHT T.kr_NOUGHT T.kf_NOUGHT)) (qb_cons (QP.lift (qp_ix (qp_var 6) (qp_int))) (qb_nil)))) (qb_nil)))))) (qb_nil))))) <|
    qss_one (qs_expr (qe_call (ok_put_on T) hr T.g_put_on T.F_put_on.kp T.b_put_on pass0 (qb_io 1 (qb_cons (qe_call (ok_bound_row T) (hr.mono (by decide)) T.g_bound_row T.F_bound_row.kp T.b_bound_row pass0 (qb_cons (qe_var 0) (qb_cons (qe_var 5) (qb_cons (QP.lift (qp_glob T.km_LESS_ONE T.kr_LESS_ONE T.kf_LESS_ONE)) (qb_cons (QP.lift (qp_ix (qp_var 6) (qp_int))) (qb_nil)))))) (qb_nil))))))) <|
    qss_one (qs_ret (qe_var 1))⟩
theorem ok_mixed (T : Tx K mg) : FnOk P w K mg base CX0 4 T.f_mixed T.d_mixed ["ones", "many", "others", "more"] (spT K false (clK K) 4 [] m_mixed) := by
  unfold m_mixed
  refine fnT (N := N_mixed) (ps := ["ones", "many", "others", "more"]) (k := 3) T.F_mixed sc_mixed (by decide) (by decide) fun cdv A outer s H E hr => ?_
  exact ⟨_, qss_one (qs_ret (QE.fz (qe_lcC (own := [("one", 4), ("other", 5)]) (vs := [4, 5]) rfl rfl sc_mixed.nd  (qi_zip T.z_zip (qa_cons (qe_var 0) (qa_cons (qe_var 2) (qa_nil)))) (blkOk_by (N := N_mixed) (sc := defScope s_mixed) (by decide +kernel)) (fun _ _ _ _ _ => ⟨_, qg_tup rfl (qgs_cons (qg_name (i := 4) sc_mixed.nd) (qgs_cons (qg_name (i := 5) sc_mixed.nd) (qgs_nil)))⟩) (fun _ _ _ _ _ => ⟨_, qts_nil⟩) (fun _ _ _ _ _ => ⟨_, qe_call (ok_plus T) hr T.g_plus T.F_plus.kp T.b_plus pass0 (qb_cons (qe_call (ok_times T) hr T.g_times T.F_times.kp T.b_times pass0 (qb_cons (qe_var 4) (qb_cons (qe_var 1) (qb_nil)))) (qb_cons (qe_call (ok_times T) hr T.g_times T.F_times.kp T.b_times pass0 (qb_cons (qe_var 5) (qb_cons (qe_var 3) (qb_nil)))) (qb_nil)))⟩) s H)))⟩
theorem ok_worth_of (T : Tx K mg) : FnOk P w K mg base CX0 4 T.f_worth_of T.d_worth_of ["row", "made", "choice"] (spT K false (clK K) 3 [] m_worth_of) := by
  unfold m_worth_of
  refine fnT (N := N_worth_of) (ps := ["row", "made", "choice"]) (k := 3) T.F_worth_of sc_worth_of (by decide) (by decide) fun cdv A outer s H E hr => ?_
  exact ⟨_, qss_cons (qs_set (i := 3) sc_worth_of.nd (QP.lift (qp_ix (qp_var 0) (qp_int)))) <|
    qss_cons (qs_for rfl PassesOwn.never (qi_list (QE.fz (qe_op op_addA opAdd_v opAdd_nox (QE.fz (qe_listZip rfl T.z_list T.z_zip (qa_cons (QP.lift (qp_ix (qp_var 0) (qp_int))) (qa_cons (qe_var 1) (qa_nil))))) (QE.fz (qe_listZip rfl T.z_list T.z_zip (qa_cons (QP.lift (qp_ix (qp_var 0) (qp_int))) (qa_cons (qe_var 2) (qa_nil)))))))) (qg_tup rfl (qgs_cons (qg_name (i := 4) sc_worth_of.nd) (qgs_cons (qg_name (i := 5) sc_worth_of.nd) (qgs_nil)))) (qss_one (qs_set (i := 3) sc_worth_of.nd (qe_call (ok_plus T) hr T.g_plus T.F_plus.kp T.b_plus pass0 (qb_cons (qe_var 3) (qb_cons (qe_call (ok_times T) hr T.g_times T.F_times.kp T.b_times pass0 (qb_cons (qe_var 4) (qb_cons (qe_var 5) (qb_nil)))) (qb_nil))))))) <|
    qss_one (qs_ret (qe_var 3))⟩
theorem ok__law_plan (T : Tx K mg) : FnOk P w K mg base CX0 4 T.f__law_plan T.d__law_plan ["script"] (spT K false (clK K) 1 [] m__law_plan_4) := by
  unfold m__law_plan_4
  refine fnT (N := N__law_plan) (ps := ["script"]) (k := 3) T.F__law_plan sc__law_plan (by decide) (by decide) fun cdv A outer s H E hr => ?_
  exact ⟨_, qss_cons (qs_set (i := 1) sc__law_plan.nd (qe_op op_fdivA opFdiv_v opI2_nox (qe_call (ok__law_cell T) (hr.mono (by decide)) T.g__law_cell T.F__law_cell.kp T.b__law_cell pass0 (qb_cons (qe_rd 0) (qb_cons (QP.lift (qp_int)) (qb_nil)))) (QP.lift (qp_int)))) <|
    qss_cons (qs_set (i := 2) sc__law_plan.nd (qe_ix (qe_lst (qa_cons (QP.lift (qp_int)) (qa_cons (QP.lift (qp_int)) (qa_cons (QP.lift (qp_int)) (qa_cons (QP.lift (qp_int)) (qa_cons (QP.lift (qp_int)) (qa_cons (QP.lift (qp_int)) (qa_cons (QP.lift (qp_int)) (qa_cons (QP.lift (qp_int)) (qa_nil)))))))))) (QP.lift (qp_op op_modA opMod_v (qp_op op_fdivA opFdiv_v (qp_var 1) (qp_int)) (qp_int))))) <|
    qss_cons (qs_set (i := 3) sc__law_plan.nd (qe_ix (qe_lst (qa_cons (QP.lift (qp_op op_addA opAdd_v (qp_int) (qp_op op_modA opMod_v (qp_var 1) (qp_int)))) (qa_cons (QP.lift (qp_int)) (qa_nil)))) (qe_callTy call_int1A opInt1_v opInt1_nox T.z_int bt_int (qa_cons (qe_and (QP.lift (qp_cmp (op_eqA hr.units) opEq_v (qp_op op_modA opMod_v (qp_op op_fdivA opFdiv_v (qp_var 1) (qp_int)) (qp_int)) (qp_int) (nomark _))) (qe_one (QP.lift (qp_cmp op_ltA opLt_v (qp_var 2) (qp_int) (nomark _))))) (qa_nil))))) <|
    qss_cons (qs_set (i := 4) sc__law_plan.nd (qe_ix (qe_lst (qa_cons (QP.lift (qp_int)) (qa_cons (QP.lift (qp_int)) (qa_cons (QP.lift (qp_int)) (qa_cons (QP.lift (qp_int)) (qa_nil)))))) (qe_var 2))) <|
    qss_cons (qs_thenFz 5 (qs_setLcC (i := 5) (own := [("k", 8)]) (vs := [8]) rfl rfl sc__law_plan.nd rfl rfl (sw_true rfl rfl rfl (by decide +kernel)) (qi_range1 T.z_range (qa_cons (qe_var 3) (qa_nil))) (blkOk_by (N := N__law_plan) (sc := defScope s__law_plan) (by decide +kernel)) (fun _ _ _ _ _ => ⟨_, qg_name (i := 8) sc__law_plan.nd⟩) (fun _ _ _ _ _ => ⟨_, qts_nil⟩) (fun _ _ _ _ _ => ⟨_, qe_call (fn_drop (ok__law_bounds T)) hr T.g__law_bounds T.F__law_bounds.kp T.b__law_bounds pass0 (qb_cons (qe_call (ok__law_state T) (hr.mono (by decide)) T.g__law_state T.F__law_state.kp T.b__law_state pass0 (qb_cons (qe_rd 0) (qb_cons (QP.lift (qp_op op_addA opAdd_v (qp_int) (qp_var 8))) (qb_nil)))) (qb_nil))⟩) s H)) <|
    qss_cons (qs_thenFz 6 (qs_setLcC (i := 6) (own := [("k", 8)]) (vs := [8]) rfl rfl sc__law_plan.nd rfl rfl (sw_true rfl rfl rfl (by decide +kernel)) (qi_range1 T.z_range (qa_cons (qe_var 2) (qa_nil))) (blkOk_by (N := N__law_plan) (sc := defScope s__law_plan) (by decide +kernel)) (fun _ _ _ _ _ => ⟨_, qg_name (i := 8) sc__law_plan.nd⟩) (fun _ _ _ _ _ => ⟨_, qts_nil⟩) (fun _ _ _ _ _ => ⟨_, qe_call (fn_drop (ok__law_bounds T)) hr T.g__law_bounds T.F__law_bounds.kp T.b__law_bounds pass0 (qb_cons (qe_call (ok__law_state T) (hr.mono (by decide)) T.g__law_state T.F__law_state.kp T.b__law_state pass0 (qb_cons (qe_rd 0) (qb_cons (QP.lift (qp_op op_addA opAdd_v (qp_int) (qp_var 8))) (qb_nil)))) (qb_nil))⟩) s H)) <|
    qss_cons (qs_set (i := 7) sc__law_plan.nd (qe_lst (qa_nil))) <|
    qss_cons (qs_for rfl PassesOwn.never (qi_range1 T.z_range (qa_cons (QP.lift (qp_op op_subA opSub_v (qp_var 4) (qp_op op_modA opMod_v (qp_op op_fdivA opFdiv_v (qp_var 1) (qp_int)) (qp_op op_addA opAdd_v (qp_int) (qp_var 4))))) (qa_nil))) (qg_name (i := 8) sc__law_plan.nd) (qss_cons (qs_set (i := 9) sc__law_plan.nd (qe_call (ok__law_state T) (hr.mono (by decide)) T.g__law_state T.F__law_state.kp T.b__law_state pass0 (qb_cons (qe_rd 0) (qb_cons (QP.lift (qp_op op_addA opAdd_v (qp_int) (qp_var 8))) (qb_nil))))) <|
    qss_cons (qs_thenFz 10 (qs_setLcC (i := 10) (own := [("size", 12)]) (vs := [12]) rfl rfl sc__law_plan.nd rfl rfl (sw_true rfl rfl rfl (by decide +kernel)) (qi_list (qe_var 5)) (blkOk_by (N := N__law_plan) (sc := defScope s__law_plan) (by decide +kernel)) (fun _ _ _ _ _ => ⟨_, qg_name (i := 12) sc__law_plan.nd⟩) (fun _ _ _ _ _ => ⟨_, qts_nil⟩) (fun _ _ _ _ _ => ⟨_, qe_call (ok__law_weight T) (hr.mono (by decide)) T.g__law_weight T.F__law_weight.kp T.b__law_weight pass0 (qb_io 9 (qb_nil))⟩) s H)) <|
    qss_cons (qs_thenFz 11 (qs_setLcC (i := 11) (own := [("shim", 13)]) (vs := [13]) rfl rfl sc__law_plan.nd rfl rfl (sw_true rfl rfl rfl (by decide +kernel)) (qi_list (qe_var 6)) (blkOk_by (N := N__law_plan) (sc := defScope s__law_plan) (by decide +kernel)) (fun _ _ _ _ _ => ⟨_, qg_name (i := 13) sc__law_plan.nd⟩) (fun _ _ _ _ _ => ⟨_, qts_nil⟩) (fun _ _ _ _ _ => ⟨_, qe_call (ok__law_weight T) (hr.mono (by decide)) T.g__law_weight T.F__law_weight.kp T.b__law_weight pass0 (qb_io 9 (qb_nil))⟩) s H)) <|
    qss_one (qs_expr (qe_meth (i := 7) PySem.F.slot_list_append PySem.F.type_list_append mt_append append_v (ql_name 7) (qa_cons (qe_tup (qa_cons (qe_var 10) (qa_cons (qe_var 11) (qa_cons (qe_call (ok__law_some T) (hr.mono (by decide)) T.g__law_some T.F__law_some.kp T.b__law_some pass0 (qb_io 9 (qb_nil))) (qa_nil))))) (qa_nil)) (.inr fun _ _ => lHere_nil))))) <|
    qss_one (qs_ret (qe_tup (qa_cons (qe_var 5) (qa_cons (qe_var 6) (qa_cons (qe_var 7) (qa_nil))))))⟩
theorem ok_taken_together (T : Tx K mg) : FnOk P w K mg base CX0 5 T.f_taken_together T.d_taken_together ["low", "high", "k"] (spT K false (clK K) 3 [] m_taken_together) := by
  unfold m_taken_together
  refine fnT (N := N_taken_together) (ps := ["low", "high", "k"]) (k := 4) T.F_taken_together sc_taken_together (by decide) (by decide) fun cdv A outer s H E hr => ?_
  exact ⟨_, qss_cons (qs_set (i := 3) sc_taken_together.nd (qe_call (ok_minus T) (hr.mono (by decide)) T.g_minus T.F_minus.kp T.b_minus pass0 (qb_cons (QP.lift (qp_glob T.km_NOUGHT T.kr_NOUGHT T.kf_NOUGHT)) (qb_cons (QP.lift (qp_ix (qp_ix (qp_var 1) (qp_int)) (qp_var 2))) (qb_nil))))) <|
    qss_cons (qs_set (i := 4) sc_taken_together.nd (QP.lift (qp_ix (qp_ix (qp_var 0) (qp_int)) (qp_var 2)))) <|
    qss_cons (qs_set (i := 5) sc_taken_together.nd (qe_call (ok_plus T) (hr.mono (by decide)) T.g_plus T.F_plus.kp T.b_plus pass0 (qb_cons (qe_call (ok_times T) (hr.mono (by decide)) T.g_times T.F_times.kp T.b_times pass0 (qb_cons (QP.lift (qp_ix (qp_var 0) (qp_int))) (qb_cons (qe_var 3) (qb_nil)))) (qb_cons (qe_call (ok_times T) (hr.mono (by decide)) T.g_times T.F_times.kp T.b_times pass0 (qb_cons (QP.lift (qp_ix (qp_var 1) (qp_int))) (qb_cons (qe_var 4) (qb_nil)))) (qb_nil))))) <|
    qss_one (qs_ret (qe_tup (qa_cons (qe_call (ok_mixed T) hr T.g_mixed T.F_mixed.kp T.b_mixed pass0 (qb_cons (QP.lift (qp_ix (qp_var 0) (qp_int))) (qb_cons (qe_var 3) (qb_cons (QP.lift (qp_ix (qp_var 1) (qp_int))) (qb_cons (qe_var 4) (qb_nil)))))) (qa_cons (qe_call (ok_mixed T) hr T.g_mixed T.F_mixed.kp T.b_mixed pass0 (qb_cons (QP.lift (qp_ix (qp_var 0) (qp_int))) (qb_cons (qe_var 3) (qb_cons (QP.lift (qp_ix (qp_var 1) (qp_int))) (qb_cons (qe_var 4) (qb_nil)))))) (qa_cons (qe_var 5) (qa_nil))))))⟩
theorem ok_chosen_by (T : Tx K mg) : FnOk P w K mg base (L2.CX P w) 5 T.f_chosen_by T.d_chosen_by ["rule", "made"] (spT K true (clK K) 2 [] m_chosen_by) := by
  unfold m_chosen_by
  refine fnTX (N := N_chosen_by) (ps := ["rule", "made"]) (k := 4) T.F_chosen_by sc_chosen_by (by decide) (by decide) fun cdv A outer s H E hr => ?_
  exact ⟨_, qss_cons (qs_asg (qe_var 0) (qg_tup rfl (qgs_cons (qg_name (i := 4) sc_chosen_by.nd) (qgs_cons (qg_name (i := 5) sc_chosen_by.nd) (qgs_nil))))) <|
    qss_cons (qs_for rfl PassesOwn.leaving (qi_list (qe_var 5)) (qg_name (i := 2) sc_chosen_by.nd) (qss_one (qs_if (qt_val (qe_call (ok_below T) (hr.mono (by decide)) T.g_below T.F_below.kp T.b_below pass0 (qb_cons (qe_call (ok_worth_of T) hr T.g_worth_of T.F_worth_of.kp T.b_worth_of pass0 (qb_cons (qe_var 2) (qb_cons (qe_var 1) (qb_cons (QE.fz (qe_lst (qa_nil))) (qb_nil))))) (qb_cons (QP.lift (qp_glob T.km_NOUGHT T.kr_NOUGHT T.kf_NOUGHT)) (qb_nil))))) (qss_one (qs_raise PySem.F.excBase_ValueError T.cq_NoChoice T.cm_NoChoice T.ck_NoChoice (raises_own T.cs_NoChoice T.ct_NoChoice) T.cl_NoChoice (takes_of rfl rfl rfl rfl) (fun _ _ _ _ z => z))) (qss_nil)))) <|
    qss_cons (qs_set (i := 3) sc_chosen_by.nd (qe_lst (qa_nil))) <|
    qss_cons (qs_for rfl PassesOwn.leaving (qi_enum T.z_enumerate (qa_cons (qe_var 4) (qa_nil))) (qg_tup rfl (qgs_cons (qg_name (i := 6) sc_chosen_by.nd) (qgs_cons (qg_name (i := 7) sc_chosen_by.nd) (qgs_nil)))) (qss_cons (qs_set (i := 8) sc_chosen_by.nd (QP.lift (qp_non))) <|
    qss_cons (qs_for rfl PassesOwn.leaving (qi_list (QP.lift (qp_ix (qp_var 7) (qp_int)))) (qg_name (i := 2) sc_chosen_by.nd) (qss_cons (qs_set (i := 9) sc_chosen_by.nd (qe_call (ok_over T) (hr.mono (by decide)) T.g_over T.F_over.kp T.b_over pass0 (qb_cons (qe_call (ok_minus T) (hr.mono (by decide)) T.g_minus T.F_minus.kp T.b_minus pass0 (qb_cons (QP.lift (qp_glob T.km_NOUGHT T.kr_NOUGHT T.kf_NOUGHT)) (qb_cons (qe_lookE (qe_call (ok_worth_of T) hr T.g_worth_of T.F_worth_of.kp T.b_worth_of pass0 (qb_cons (qe_var 2) (qb_cons (qe_var 1) (qb_cons (qe_var 3) (qb_nil)))))) (qb_nil)))) (qb_cons (QP.lift (qp_ix (qp_ix (qp_var 2) (qp_int)) (qp_var 6))) (qb_nil))))) <|
    qss_one (qs_if (QW.qt (qw_or (qt_pcmp op_isN opIsN_v (qp_var 8) (qp_non) (nomark _)) (qw_or1 (qt_val (qe_call (ok_below T) (hr.mono (by decide)) T.g_below T.F_below.kp T.b_below pass0 (qb_cons (qe_var 8) (qb_cons (qe_var 9) (qb_nil)))))))) (qss_one (qs_set (i := 8) sc_chosen_by.nd (qe_var 9))) (qss_nil)))) <|
    qss_one (qs_expr (qe_meth (i := 3) PySem.F.slot_list_append PySem.F.type_list_append mt_append append_v (ql_name 3) (qa_cons (qe_var 8) (qa_nil)) (.inr fun _ _ => lHere_nil))))) <|
    qss_one (qs_ret (qe_var 3))⟩
theorem ok_taken_out (T : Tx K mg) : FnOk P w K mg base CX0 6 T.f_taken_out T.d_taken_out ["rows", "k"] (spT K false (clK K) 2 [] m_taken_out) := by
  unfold m_taken_out
  refine fnT (N := N_taken_out) (ps := ["rows", "k"]) (k := 5) T.F_taken_out sc_taken_out (by decide) (by decide) fun cdv A outer s H E hr => ?_
  exact ⟨_, qss_cons (qs_thenFz 2 (qs_setLcC (i := 2) (own := [("row", 7)]) (vs := [7]) rfl rfl sc_taken_out.nd rfl rfl (sw_true rfl rfl rfl (by decide +kernel)) (qi_list (qe_var 0)) (blkOk_by (N := N_taken_out) (sc := defScope s_taken_out) (by decide +kernel)) (fun _ _ _ _ _ => ⟨_, qg_name (i := 7) sc_taken_out.nd⟩) (fun _ _ _ _ _ => ⟨_, qts_one (qt_val (qe_call (ok_below T) (hr.mono (by decide)) T.g_below T.F_below.kp T.b_below pass0 (qb_cons (QP.lift (qp_glob T.km_NOUGHT T.kr_NOUGHT T.kf_NOUGHT)) (qb_cons (QP.lift (qp_ix (qp_ix (qp_var 7) (qp_int)) (qp_var 1))) (qb_nil)))))⟩) (fun _ _ _ _ _ => ⟨_, qe_var 7⟩) s H)) <|
    qss_cons (qs_thenFz 3 (qs_setLcC (i := 3) (own := [("row", 7)]) (vs := [7]) rfl rfl sc_taken_out.nd rfl rfl (sw_true rfl rfl rfl (by decide +kernel)) (qi_list (qe_var 0)) (blkOk_by (N := N_taken_out) (sc := defScope s_taken_out) (by decide +kernel)) (fun _ _ _ _ _ => ⟨_, qg_name (i := 7) sc_taken_out.nd⟩) (fun _ _ _ _ _ => ⟨_, qts_one (qt_val (qe_call (ok_below T) (hr.mono (by decide)) T.g_below T.F_below.kp T.b_below pass0 (qb_cons (QP.lift (qp_ix (qp_ix (qp_var 7) (qp_int)) (qp_var 1))) (qb_cons (QP.lift (qp_glob T.km_NOUGHT T.kr_NOUGHT T.kf_NOUGHT)) (qb_nil)))))⟩) (fun _ _ _ _ _ => ⟨_, qe_var 7⟩) s H)) <|
    qss_cons (qs_setLcC (i := 4) (own := [("row", 7)]) (vs := [7]) rfl rfl sc_taken_out.nd rfl rfl (sw_true rfl rfl rfl (by decide +kernel)) (qi_list (qe_var 0)) (blkOk_by (N := N_taken_out) (sc := defScope s_taken_out) (by decide +kernel)) (fun _ _ _ _ _ => ⟨_, qg_name (i := 7) sc_taken_out.nd⟩) (fun _ _ _ _ _ => ⟨_, qts_one (qt_pcmp (op_eqA hr.units) opEq_v (qp_ix (qp_ix (qp_var 7) (qp_int)) (qp_var 1)) (qp_glob T.km_NOUGHT T.kr_NOUGHT T.kf_NOUGHT) (nomark _))⟩) (fun _ _ _ _ _ => ⟨_, qe_var 7⟩) s H) <|
    qss_cons (qs_for rfl PassesOwn.never (qi_list (qe_var 2)) (qg_name (i := 5) sc_taken_out.nd) (qss_one (qs_for rfl PassesOwn.never (qi_list (qe_var 3)) (qg_name (i := 6) sc_taken_out.nd) (qss_one (qs_expr (qe_call (ok_put_on T) (hr.mono (by decide)) T.g_put_on T.F_put_on.kp T.b_put_on pass0 (qb_io 4 (qb_cons (qe_call (ok_taken_together T) hr T.g_taken_together T.F_taken_together.kp T.b_taken_together pass0 (qb_cons (qe_var 5) (qb_cons (qe_var 6) (qb_cons (qe_var 1) (qb_nil))))) (qb_nil))))))))) <|
    qss_one (qs_ret (qe_tup (qa_cons (qe_var 2) (qa_cons (qe_var 3) (qa_cons (qe_var 4) (qa_nil))))))⟩
theorem ok__law_told (T : Tx K mg) : FnOk P w K mg base CX0 6 T.f__law_told T.d__law_told ["rule", "made"] (spT K false (clK K) 2 [] m__law_told) := by
  unfold m__law_told
  refine fnT0 (N := N__law_told) (ps := ["rule", "made"]) (k := 5) T.F__law_told sc__law_told (by decide) (by decide) fun cdv A outer s H E hr => ?_
  exact ⟨_, qss0_cons ((qs_set (i := 2) sc__law_told.nd (QP.lift (qp_non))).z) <|
    qss0_cons (qs0_tryO rfl rfl rfl T.cm_NoChoice (by decide) (hcl_one T.cl_NoChoice T.ce_NoChoice_NoChoice T.cx_NoChoice) (fun W pn xe tk => ⟨_, qss_one (qs_set (i := 2) sc__law_told.nd (qe_call (ok_chosen_by T) hr T.g_chosen_by T.F_chosen_by.kp T.b_chosen_by (passW tk) (qb_cons (qe_var 0) (qb_cons (qe_var 1) (qb_nil)))))⟩) (fun a pn => ⟨_, qss_one (qs_set (i := 2) sc__law_told.nd (QP.lift (qp_non)))⟩) asgC_nox) <|
    qss0_one ((qs_ret (qe_var 2)).z)⟩
theorem ok_rule_of (T : Tx K mg) : FnOk P w K mg base CX0 7 T.f_rule_of T.d_rule_of ["plan"] (spT K false (clK K) 1 [] m_rule_of) := by
  unfold m_rule_of
  refine fnT (N := N_rule_of) (ps := ["plan"]) (k := 6) T.F_rule_of sc_rule_of (by decide) (by decide) fun cdv A outer s H E hr => ?_
  exact ⟨_, qss_cons (qs_set (i := 1) sc_rule_of.nd (qe_call (ok_first_rows T) (hr.mono (by decide)) T.g_first_rows T.F_first_rows.kp T.b_first_rows pass0 (qb_cons (qe_var 0) (qb_nil)))) <|
    qss_cons (qs_set (i := 2) sc_rule_of.nd (qe_lst (qa_nil))) <|
    qss_cons (qs_for rfl PassesOwn.never (qi_range3 T.z_range (qa_cons (QP.lift (qp_op op_subA opSub_v (qp_callB call_lenA opLen_v T.z_len bt_len (qpa_cons (qp_ix (qp_var 0) (qp_int)) (qpa_nil))) (qp_int))) (qa_cons (QP.lift (qp_neg (qp_int))) (qa_cons (QP.lift (qp_neg (qp_int))) (qa_nil))))) (qg_name (i := 3) sc_rule_of.nd) (qss_cons (qs_asg (qe_call (ok_taken_out T) hr T.g_taken_out T.F_taken_out.kp T.b_taken_out pass0 (qb_cons (qe_var 1) (qb_cons (qe_var 3) (qb_nil)))) (qg_tup rfl (qgs_cons (qg_name (i := 4) sc_rule_of.nd) (qgs_cons (qg_name (i := 5) sc_rule_of.nd) (qgs_cons (qg_name (i := 1) sc_rule_of.nd) (qgs_nil)))))) <|
    qss_one (qs_expr (qe_meth (i := 2) PySem.F.slot_list_insert PySem.F.type_list_insert mt_insert insert_v (ql_name 2) (qa_cons (QP.lift (qp_int)) (qa_cons (qe_tup (qa_cons (qe_var 4) (qa_cons (qe_var 5) (qa_nil)))) (qa_nil))) (.inr fun _ _ => lHere_nil))))) <|
    qss_one (qs_ret (qe_tup (qa_cons (qe_var 2) (qa_cons (qe_var 1) (qa_nil)))))⟩
theorem ok_law (T : Tx K mg) : FnOk P w K mg base CX0 8 T.f_law T.d_law ["script"] (spT K false (clK K) 1 [] m_law_11) := by
  unfold m_law_11
  refine fnT (N := N_law) (ps := ["script"]) (k := 7) T.F_law sc_law (by decide) (by decide) fun cdv A outer s H E hr => ?_
  exact ⟨_, qss_cons (qs_set (i := 1) sc_law.nd (qe_call (ok__law_plan T) (hr.mono (by decide)) T.g__law_plan T.F__law_plan.kp T.b__law_plan pass0 (qb_cons (qe_rd 0) (qb_nil)))) <|
    qss_cons (qs_set (i := 2) sc_law.nd (qe_call (ok_rule_of T) hr T.g_rule_of T.F_rule_of.kp T.b_rule_of pass0 (qb_cons (qe_var 1) (qb_nil)))) <|
    qss_cons (qs_set (i := 3) sc_law.nd (qe_call (ok__law_state T) (hr.mono (by decide)) T.g__law_state T.F__law_state.kp T.b__law_state pass0 (qb_cons (qe_rd 0) (qb_cons (QP.lift (qp_int)) (qb_nil))))) <|
    qss_cons (qs_thenFz 4 (qs_setLcC (i := 4) (own := [("size", 11)]) (vs := [11]) rfl rfl sc_law.nd rfl rfl (sw_true rfl rfl rfl (by decide +kernel)) (qi_list (QP.lift (qp_ix (qp_var 1) (qp_int)))) (blkOk_by (N := N_law) (sc := defScope s_law) (by decide +kernel)) (fun _ _ _ _ _ => ⟨_, qg_name (i := 11) sc_law.nd⟩) (fun _ _ _ _ _ => ⟨_, qts_nil⟩) (fun _ _ _ _ _ => ⟨_, qe_call (ok__law_some T) (hr.mono (by decide)) T.g__law_some T.F__law_some.kp T.b__law_some pass0 (qb_io 3 (qb_nil))⟩) s H)) <|
    qss_cons (qs_thenFz 5 (qs_setLcC (i := 5) (own := [("shim", 12)]) (vs := [12]) rfl rfl sc_law.nd rfl rfl (sw_true rfl rfl rfl (by decide +kernel)) (qi_list (QP.lift (qp_ix (qp_var 1) (qp_int)))) (blkOk_by (N := N_law) (sc := defScope s_law) (by decide +kernel)) (fun _ _ _ _ _ => ⟨_, qg_name (i := 12) sc_law.nd⟩) (fun _ _ _ _ _ => ⟨_, qts_nil⟩) (fun _ _ _ _ _ => ⟨_, qe_call (ok__law_some T) (hr.mono (by decide)) T.g__law_some T.F__law_some.kp T.b__law_some pass0 (qb_io 3 (qb_nil))⟩) s H)) <|
    qss_cons (qs_set (i := 6) sc_law.nd (qe_call (ok_rule_of T) hr T.g_rule_of T.F_rule_of.kp T.b_rule_of pass0 (qb_cons (qe_call (ok__law_moved T) (hr.mono (by decide)) T.g__law_moved T.F__law_moved.kp T.b__law_moved pass0 (qb_cons (qe_var 1) (qb_cons (qe_var 4) (qb_cons (qe_var 5) (qb_nil))))) (qb_nil)))) <|
    qss_cons (qs_for rfl PassesOwn.never (qi_range2 T.z_range (qa_cons (QP.lift (qp_int)) (qa_cons (QP.lift (qp_callB (call_max2A rfl) opMax2_v T.z_max bt_max (qpa_cons (qp_int) (qpa_cons (qp_callB (call_min2A rfl) opMin2_v T.z_min bt_min (qpa_cons (qp_int) (qpa_cons (qp_callB call_lenA opLen_v T.z_len bt_len (qpa_cons (qp_var 0) (qpa_nil))) (qpa_nil)))) (qpa_nil))))) (qa_nil)))) (qg_name (i := 7) sc_law.nd) (qss_cons (qs_set (i := 8) sc_law.nd (qe_call (fn_drop (ok__law_made T)) (hr.mono (by decide)) T.g__law_made T.F__law_made.kp T.b__law_made pass0 (qb_cons (qe_call (ok__law_state T) (hr.mono (by decide)) T.g__law_state T.F__law_state.kp T.b__law_state pass0 (qb_cons (qe_rd 0) (qb_cons (qe_var 7) (qb_nil)))) (qb_cons (qe_var 1) (qb_nil))))) <|
    qss_cons (qs_set (i := 9) sc_law.nd (qe_call (ok__law_told T) (hr.mono (by decide)) T.g__law_told T.F__law_told.kp T.b__law_told pass0 (qb_cons (qe_var 2) (qb_cons (qe_var 8) (qb_nil))))) <|
    qss_cons (qs_set (i := 10) sc_law.nd (qe_call (ok__law_told T) (hr.mono (by decide)) T.g__law_told T.F__law_told.kp T.b__law_told pass0 (qb_cons (qe_var 6) (qb_cons (QE.fz (qe_lcC (own := [("size", 11), ("by", 13)]) (vs := [11, 13]) rfl rfl sc_law.nd  (qi_zip T.z_zip (qa_cons (qe_var 8) (qa_cons (qe_var 4) (qa_nil)))) (blkOk_by (N := N_law) (sc := defScope s_law) (by decide +kernel)) (fun _ _ _ _ _ => ⟨_, qg_tup rfl (qgs_cons (qg_name (i := 11) sc_law.nd) (qgs_cons (qg_name (i := 13) sc_law.nd) (qgs_nil)))⟩) (fun _ _ _ _ _ => ⟨_, qts_nil⟩) (fun _ _ _ _ _ => ⟨_, qe_call (ok__law_plus T) (hr.mono (by decide)) T.g__law_plus T.F__law_plus.kp T.b__law_plus pass0 (qb_cons (qe_var 11) (qb_cons (qe_var 13) (qb_nil)))⟩) s H)) (qb_nil))))) <|
    qss_one (qs_if (qt_pcmp op_isN opIsN_v (qp_var 9) (qp_non) (nomark _)) (qss_one (qs_if (qt_pcmp op_notN opNotN_v (qp_var 10) (qp_non) (nomark _)) (qss_one (qs_ret (QP.lift (qp_bl)))) (qss_nil))) (qss_one (qs_if (qt_cmp (op_neA hr.units) opNe_v opNe_nox (qe_var 10) (QE.fz (qe_lcC (own := [("worth", 14), ("by", 13)]) (vs := [14, 13]) rfl rfl sc_law.nd  (qi_zip T.z_zip (qa_cons (qe_var 9) (qa_cons (qe_var 5) (qa_nil)))) (blkOk_by (N := N_law) (sc := defScope s_law) (by decide +kernel)) (fun _ _ _ _ _ => ⟨_, qg_tup rfl (qgs_cons (qg_name (i := 14) sc_law.nd) (qgs_cons (qg_name (i := 13) sc_law.nd) (qgs_nil)))⟩) (fun _ _ _ _ _ => ⟨_, qts_nil⟩) (fun _ _ _ _ _ => ⟨_, qe_call (ok__law_plus T) (hr.mono (by decide)) T.g__law_plus T.F__law_plus.kp T.b__law_plus pass0 (qb_cons (qe_var 14) (qb_cons (qe_var 13) (qb_nil)))⟩) s H)) (nomark _)) (qss_one (qs_ret (QP.lift (qp_bl)))) (qss_nil)))))) <|
    qss_one (qs_ret (QP.lift (qp_bl)))⟩
end
theorem all_mk {l : PySem.W.OpenLaw} {w : World} {K : PySem.W.Frag} {h : Heap} {mg : Str → Option Value} {fa : Addr} (X : K.In h) (G : h.Ns mainGlobals mg) (hfa : mg "law" = some (.ref fa))
    {od0 an0 : Option Addr} {sl0 : Array (Option Value)} {oc0 kV0 dc0 pm0 cd0 ct0 : Value} {f0 : Addr} (a0 : PySem.W.nsIn K mainGlobals "divisor" = some (some (.ref f0))) (l0 : K.lookup f0 = some ⟨oc0, od0, .func (PySem.W.fnOf "divisor" "divisor" (defArgs s_divisor) (defBody s_divisor) (defScope s_divisor) .none kV0 dc0 pm0 an0 cd0 ct0), sl0⟩) (c0 : PySem.W.codeIn K cd0 "divisor" = true) (k0 : PySem.W.keepIn K (.ref f0) = true)
    {od1 an1 : Option Addr} {sl1 : Array (Option Value)} {oc1 kV1 dc1 pm1 cd1 ct1 : Value} {f1 : Addr} (a1 : PySem.W.nsIn K mainGlobals "below" = some (some (.ref f1))) (l1 : K.lookup f1 = some ⟨oc1, od1, .func (PySem.W.fnOf "below" "below" (defArgs s_below) (defBody s_below) (defScope s_below) .none kV1 dc1 pm1 an1 cd1 ct1), sl1⟩) (c1 : PySem.W.codeIn K cd1 "below" = true) (k1 : PySem.W.keepIn K (.ref f1) = true)
    {od2 an2 : Option Addr} {sl2 : Array (Option Value)} {oc2 kV2 dc2 pm2 cd2 ct2 : Value} {f2 : Addr} (a2 : PySem.W.nsIn K mainGlobals "bound_row" = some (some (.ref f2))) (l2 : K.lookup f2 = some ⟨oc2, od2, .func (PySem.W.fnOf "bound_row" "bound_row" (defArgs s_bound_row) (defBody s_bound_row) (defScope s_bound_row) .none kV2 dc2 pm2 an2 cd2 ct2), sl2⟩) (c2 : PySem.W.codeIn K cd2 "bound_row" = true) (k2 : PySem.W.keepIn K (.ref f2) = true)
    {od3 an3 : Option Addr} {sl3 : Array (Option Value)} {oc3 kV3 dc3 pm3 cd3 ct3 : Value} {f3 : Addr} (a3 : PySem.W.nsIn K mainGlobals "_law_cell" = some (some (.ref f3))) (l3 : K.lookup f3 = some ⟨oc3, od3, .func (PySem.W.fnOf "_law_cell" "_law_cell" (defArgs s__law_cell) (defBody s__law_cell) (defScope s__law_cell) .none kV3 dc3 pm3 an3 cd3 ct3), sl3⟩) (c3 : PySem.W.codeIn K cd3 "_law_cell" = true) (k3 : PySem.W.keepIn K (.ref f3) = true)
    {od4 an4 : Option Addr} {sl4 : Array (Option Value)} {oc4 kV4 dc4 pm4 cd4 ct4 : Value} {f4 : Addr} (a4 : PySem.W.nsIn K mainGlobals "_law_take" = some (some (.ref f4))) (l4 : K.lookup f4 = some ⟨oc4, od4, .func (PySem.W.fnOf "_law_take" "_law_take" (defArgs s__law_take) (defBody s__law_take) (defScope s__law_take) .none kV4 dc4 pm4 an4 cd4 ct4), sl4⟩) (c4 : PySem.W.codeIn K cd4 "_law_take" = true) (k4 : PySem.W.keepIn K (.ref f4) = true)
    {od5 an5 : Option Addr} {sl5 : Array (Option Value)} {oc5 kV5 dc5 pm5 cd5 ct5 : Value} {f5 : Addr} (a5 : PySem.W.nsIn K mainGlobals "_law_frac" = some (some (.ref f5))) (l5 : K.lookup f5 = some ⟨oc5, od5, .func (PySem.W.fnOf "_law_frac" "_law_frac" (defArgs s__law_frac) (defBody s__law_frac) (defScope s__law_frac) .none kV5 dc5 pm5 an5 cd5 ct5), sl5⟩) (c5 : PySem.W.codeIn K cd5 "_law_frac" = true) (k5 : PySem.W.keepIn K (.ref f5) = true)
    {od6 an6 : Option Addr} {sl6 : Array (Option Value)} {oc6 kV6 dc6 pm6 cd6 ct6 : Value} {f6 : Addr} (a6 : PySem.W.nsIn K mainGlobals "fraction" = some (some (.ref f6))) (l6 : K.lookup f6 = some ⟨oc6, od6, .func (PySem.W.fnOf "fraction" "fraction" (defArgs s_fraction) (defBody s_fraction) (defScope s_fraction) .none kV6 dc6 pm6 an6 cd6 ct6), sl6⟩) (c6 : PySem.W.codeIn K cd6 "fraction" = true) (k6 : PySem.W.keepIn K (.ref f6) = true)
    {od7 an7 : Option Addr} {sl7 : Array (Option Value)} {oc7 kV7 dc7 pm7 cd7 ct7 : Value} {f7 : Addr} (a7 : PySem.W.nsIn K mainGlobals "is_plain" = some (some (.ref f7))) (l7 : K.lookup f7 = some ⟨oc7, od7, .func (PySem.W.fnOf "is_plain" "is_plain" (defArgs s_is_plain) (defBody s_is_plain) (defScope s_is_plain) .none kV7 dc7 pm7 an7 cd7 ct7), sl7⟩) (c7 : PySem.W.codeIn K cd7 "is_plain" = true) (k7 : PySem.W.keepIn K (.ref f7) = true)
    {od8 an8 : Option Addr} {sl8 : Array (Option Value)} {oc8 kV8 dc8 pm8 cd8 ct8 : Value} {f8 : Addr} (a8 : PySem.W.nsIn K mainGlobals "_law_state" = some (some (.ref f8))) (l8 : K.lookup f8 = some ⟨oc8, od8, .func (PySem.W.fnOf "_law_state" "_law_state" (defArgs s__law_state) (defBody s__law_state) (defScope s__law_state) .none kV8 dc8 pm8 an8 cd8 ct8), sl8⟩) (c8 : PySem.W.codeIn K cd8 "_law_state" = true) (k8 : PySem.W.keepIn K (.ref f8) = true)
    {od9 an9 : Option Addr} {sl9 : Array (Option Value)} {oc9 kV9 dc9 pm9 cd9 ct9 : Value} {f9 : Addr} (a9 : PySem.W.nsIn K mainGlobals "_law_plus" = some (some (.ref f9))) (l9 : K.lookup f9 = some ⟨oc9, od9, .func (PySem.W.fnOf "_law_plus" "_law_plus" (defArgs s__law_plus) (defBody s__law_plus) (defScope s__law_plus) .none kV9 dc9 pm9 an9 cd9 ct9), sl9⟩) (c9 : PySem.W.codeIn K cd9 "_law_plus" = true) (k9 : PySem.W.keepIn K (.ref f9) = true)
    {od10 an10 : Option Addr} {sl10 : Array (Option Value)} {oc10 kV10 dc10 pm10 cd10 ct10 : Value} {f10 : Addr} (a10 : PySem.W.nsIn K mainGlobals "_law_times" = some (some (.ref f10))) (l10 : K.lookup f10 = some ⟨oc10, od10, .func (PySem.W.fnOf "_law_times" "_law_times" (defArgs s__law_times) (defBody s__law_times) (defScope s__law_times) .none kV10 dc10 pm10 an10 cd10 ct10), sl10⟩) (c10 : PySem.W.codeIn K cd10 "_law_times" = true) (k10 : PySem.W.keepIn K (.ref f10) = true)
    {od11 an11 : Option Addr} {sl11 : Array (Option Value)} {oc11 kV11 dc11 pm11 cd11 ct11 : Value} {f11 : Addr} (a11 : PySem.W.nsIn K mainGlobals "_law_some" = some (some (.ref f11))) (l11 : K.lookup f11 = some ⟨oc11, od11, .func (PySem.W.fnOf "_law_some" "_law_some" (defArgs s__law_some) (defBody s__law_some) (defScope s__law_some) .none kV11 dc11 pm11 an11 cd11 ct11), sl11⟩) (c11 : PySem.W.codeIn K cd11 "_law_some" = true) (k11 : PySem.W.keepIn K (.ref f11) = true)
    {od12 an12 : Option Addr} {sl12 : Array (Option Value)} {oc12 kV12 dc12 pm12 cd12 ct12 : Value} {f12 : Addr} (a12 : PySem.W.nsIn K mainGlobals "_law_weight" = some (some (.ref f12))) (l12 : K.lookup f12 = some ⟨oc12, od12, .func (PySem.W.fnOf "_law_weight" "_law_weight" (defArgs s__law_weight) (defBody s__law_weight) (defScope s__law_weight) .none kV12 dc12 pm12 an12 cd12 ct12), sl12⟩) (c12 : PySem.W.codeIn K cd12 "_law_weight" = true) (k12 : PySem.W.keepIn K (.ref f12) = true)
    {od13 an13 : Option Addr} {sl13 : Array (Option Value)} {oc13 kV13 dc13 pm13 cd13 ct13 : Value} {f13 : Addr} (a13 : PySem.W.nsIn K mainGlobals "plus" = some (some (.ref f13))) (l13 : K.lookup f13 = some ⟨oc13, od13, .func (PySem.W.fnOf "plus" "plus" (defArgs s_plus) (defBody s_plus) (defScope s_plus) .none kV13 dc13 pm13 an13 cd13 ct13), sl13⟩) (c13 : PySem.W.codeIn K cd13 "plus" = true) (k13 : PySem.W.keepIn K (.ref f13) = true)
    {od14 an14 : Option Addr} {sl14 : Array (Option Value)} {oc14 kV14 dc14 pm14 cd14 ct14 : Value} {f14 : Addr} (a14 : PySem.W.nsIn K mainGlobals "minus" = some (some (.ref f14))) (l14 : K.lookup f14 = some ⟨oc14, od14, .func (PySem.W.fnOf "minus" "minus" (defArgs s_minus) (defBody s_minus) (defScope s_minus) .none kV14 dc14 pm14 an14 cd14 ct14), sl14⟩) (c14 : PySem.W.codeIn K cd14 "minus" = true) (k14 : PySem.W.keepIn K (.ref f14) = true)
    {od15 an15 : Option Addr} {sl15 : Array (Option Value)} {oc15 kV15 dc15 pm15 cd15 ct15 : Value} {f15 : Addr} (a15 : PySem.W.nsIn K mainGlobals "times" = some (some (.ref f15))) (l15 : K.lookup f15 = some ⟨oc15, od15, .func (PySem.W.fnOf "times" "times" (defArgs s_times) (defBody s_times) (defScope s_times) .none kV15 dc15 pm15 an15 cd15 ct15), sl15⟩) (c15 : PySem.W.codeIn K cd15 "times" = true) (k15 : PySem.W.keepIn K (.ref f15) = true)
    {od16 an16 : Option Addr} {sl16 : Array (Option Value)} {oc16 kV16 dc16 pm16 cd16 ct16 : Value} {f16 : Addr} (a16 : PySem.W.nsIn K mainGlobals "over" = some (some (.ref f16))) (l16 : K.lookup f16 = some ⟨oc16, od16, .func (PySem.W.fnOf "over" "over" (defArgs s_over) (defBody s_over) (defScope s_over) .none kV16 dc16 pm16 an16 cd16 ct16), sl16⟩) (c16 : PySem.W.codeIn K cd16 "over" = true) (k16 : PySem.W.keepIn K (.ref f16) = true)
    {od17 an17 : Option Addr} {sl17 : Array (Option Value)} {oc17 kV17 dc17 pm17 cd17 ct17 : Value} {f17 : Addr} (a17 : PySem.W.nsIn K mainGlobals "put_on" = some (some (.ref f17))) (l17 : K.lookup f17 = some ⟨oc17, od17, .func (PySem.W.fnOf "put_on" "put_on" (defArgs s_put_on) (defBody s_put_on) (defScope s_put_on) .none kV17 dc17 pm17 an17 cd17 ct17), sl17⟩) (c17 : PySem.W.codeIn K cd17 "put_on" = true) (k17 : PySem.W.keepIn K (.ref f17) = true)
    {od18 an18 : Option Addr} {sl18 : Array (Option Value)} {oc18 kV18 dc18 pm18 cd18 ct18 : Value} {f18 : Addr} (a18 : PySem.W.nsIn K mainGlobals "_law_bounds" = some (some (.ref f18))) (l18 : K.lookup f18 = some ⟨oc18, od18, .func (PySem.W.fnOf "_law_bounds" "_law_bounds" (defArgs s__law_bounds) (defBody s__law_bounds) (defScope s__law_bounds) .none kV18 dc18 pm18 an18 cd18 ct18), sl18⟩) (c18 : PySem.W.codeIn K cd18 "_law_bounds" = true) (k18 : PySem.W.keepIn K (.ref f18) = true)
    {od19 an19 : Option Addr} {sl19 : Array (Option Value)} {oc19 kV19 dc19 pm19 cd19 ct19 : Value} {f19 : Addr} (a19 : PySem.W.nsIn K mainGlobals "_law_made" = some (some (.ref f19))) (l19 : K.lookup f19 = some ⟨oc19, od19, .func (PySem.W.fnOf "_law_made" "_law_made" (defArgs s__law_made) (defBody s__law_made) (defScope s__law_made) .none kV19 dc19 pm19 an19 cd19 ct19), sl19⟩) (c19 : PySem.W.codeIn K cd19 "_law_made" = true) (k19 : PySem.W.keepIn K (.ref f19) = true)
    {od20 an20 : Option Addr} {sl20 : Array (Option Value)} {oc20 kV20 dc20 pm20 cd20 ct20 : Value} {f20 : Addr} (a20 : PySem.W.nsIn K mainGlobals "_law_moved" = some (some (.ref f20))) (l20 : K.lookup f20 = some ⟨oc20, od20, .func (PySem.W.fnOf "_law_moved" "_law_moved" (defArgs s__law_moved) (defBody s__law_moved) (defScope s__law_moved) .none kV20 dc20 pm20 an20 cd20 ct20), sl20⟩) (c20 : PySem.W.codeIn K cd20 "_law_moved" = true) (k20 : PySem.W.keepIn K (.ref f20) = true)
    {od21 an21 : Option Addr} {sl21 : Array (Option Value)} {oc21 kV21 dc21 pm21 cd21 ct21 : Value} {f21 : Addr} (a21 : PySem.W.nsIn K mainGlobals "first_rows" = some (some (.ref f21))) (l21 : K.lookup f21 = some ⟨oc21, od21, .func (PySem.W.fnOf "first_rows" "first_rows" (defArgs s_first_rows) (defBody s_first_rows) (defScope s_first_rows) .none kV21 dc21 pm21 an21 cd21 ct21), sl21⟩) (c21 : PySem.W.codeIn K cd21 "first_rows" = true) (k21 : PySem.W.keepIn K (.ref f21) = true)
    {od22 an22 : Option Addr} {sl22 : Array (Option Value)} {oc22 kV22 dc22 pm22 cd22 ct22 : Value} {f22 : Addr} (a22 : PySem.W.nsIn K mainGlobals "mixed" = some (some (.ref f22))) (l22 : K.lookup f22 = some ⟨oc22, od22, .func (PySem.W.fnOf "mixed" "mixed" (defArgs s_mixed) (defBody s_mixed) (defScope s_mixed) .none kV22 dc22 pm22 an22 cd22 ct22), sl22⟩) (c22 : PySem.W.codeIn K cd22 "mixed" = true) (k22 : PySem.W.keepIn K (.ref f22) = true)
    {od23 an23 : Option Addr} {sl23 : Array (Option Value)} {oc23 kV23 dc23 pm23 cd23 ct23 : Value} {f23 : Addr} (a23 : PySem.W.nsIn K mainGlobals "worth_of" = some (some (.ref f23))) (l23 : K.lookup f23 = some ⟨oc23, od23, .func (PySem.W.fnOf "worth_of" "worth_of" (defArgs s_worth_of) (defBody s_worth_of) (defScope s_worth_of) .none kV23 dc23 pm23 an23 cd23 ct23), sl23⟩) (c23 : PySem.W.codeIn K cd23 "worth_of" = true) (k23 : PySem.W.keepIn K (.ref f23) = true)
    {od24 an24 : Option Addr} {sl24 : Array (Option Value)} {oc24 kV24 dc24 pm24 cd24 ct24 : Value} {f24 : Addr} (a24 : PySem.W.nsIn K mainGlobals "_law_plan" = some (some (.ref f24))) (l24 : K.lookup f24 = some ⟨oc24, od24, .func (PySem.W.fnOf "_law_plan" "_law_plan" (defArgs s__law_plan) (defBody s__law_plan) (defScope s__law_plan) .none kV24 dc24 pm24 an24 cd24 ct24), sl24⟩) (c24 : PySem.W.codeIn K cd24 "_law_plan" = true) (k24 : PySem.W.keepIn K (.ref f24) = true)
    {od25 an25 : Option Addr} {sl25 : Array (Option Value)} {oc25 kV25 dc25 pm25 cd25 ct25 : Value} {f25 : Addr} (a25 : PySem.W.nsIn K mainGlobals "taken_together" = some (some (.ref f25))) (l25 : K.lookup f25 = some ⟨oc25, od25, .func (PySem.W.fnOf "taken_together" "taken_together" (defArgs s_taken_together) (defBody s_taken_together) (defScope s_taken_together) .none kV25 dc25 pm25 an25 cd25 ct25), sl25⟩) (c25 : PySem.W.codeIn K cd25 "taken_together" = true) (k25 : PySem.W.keepIn K (.ref f25) = true)
    {od26 an26 : Option Addr} {sl26 : Array (Option Value)} {oc26 kV26 dc26 pm26 cd26 ct26 : Value} {f26 : Addr} (a26 : PySem.W.nsIn K mainGlobals "chosen_by" = some (some (.ref f26))) (l26 : K.lookup f26 = some ⟨oc26, od26, .func (PySem.W.fnOf "chosen_by" "chosen_by" (defArgs s_chosen_by) (defBody s_chosen_by) (defScope s_chosen_by) .none kV26 dc26 pm26 an26 cd26 ct26), sl26⟩) (c26 : PySem.W.codeIn K cd26 "chosen_by" = true) (k26 : PySem.W.keepIn K (.ref f26) = true)
    {od27 an27 : Option Addr} {sl27 : Array (Option Value)} {oc27 kV27 dc27 pm27 cd27 ct27 : Value} {f27 : Addr} (a27 : PySem.W.nsIn K mainGlobals "taken_out" = some (some (.ref f27))) (l27 : K.lookup f27 = some ⟨oc27, od27, .func (PySem.W.fnOf "taken_out" "taken_out" (defArgs s_taken_out) (defBody s_taken_out) (defScope s_taken_out) .none kV27 dc27 pm27 an27 cd27 ct27), sl27⟩) (c27 : PySem.W.codeIn K cd27 "taken_out" = true) (k27 : PySem.W.keepIn K (.ref f27) = true)
    {od28 an28 : Option Addr} {sl28 : Array (Option Value)} {oc28 kV28 dc28 pm28 cd28 ct28 : Value} {f28 : Addr} (a28 : PySem.W.nsIn K mainGlobals "_law_told" = some (some (.ref f28))) (l28 : K.lookup f28 = some ⟨oc28, od28, .func (PySem.W.fnOf "_law_told" "_law_told" (defArgs s__law_told) (defBody s__law_told) (defScope s__law_told) .none kV28 dc28 pm28 an28 cd28 ct28), sl28⟩) (c28 : PySem.W.codeIn K cd28 "_law_told" = true) (k28 : PySem.W.keepIn K (.ref f28) = true)
    {od29 an29 : Option Addr} {sl29 : Array (Option Value)} {oc29 kV29 dc29 pm29 cd29 ct29 : Value} {f29 : Addr} (a29 : PySem.W.nsIn K mainGlobals "rule_of" = some (some (.ref f29))) (l29 : K.lookup f29 = some ⟨oc29, od29, .func (PySem.W.fnOf "rule_of" "rule_of" (defArgs s_rule_of) (defBody s_rule_of) (defScope s_rule_of) .none kV29 dc29 pm29 an29 cd29 ct29), sl29⟩) (c29 : PySem.W.codeIn K cd29 "rule_of" = true) (k29 : PySem.W.keepIn K (.ref f29) = true)
    {od30 an30 : Option Addr} {sl30 : Array (Option Value)} {oc30 kV30 dc30 pm30 cd30 ct30 : Value} {f30 : Addr} (a30 : PySem.W.nsIn K mainGlobals "law" = some (some (.ref f30))) (l30 : K.lookup f30 = some ⟨oc30, od30, .func (PySem.W.fnOf "law" "law" (defArgs s_law) (defBody s_law) (defScope s_law) .none kV30 dc30 pm30 an30 cd30 ct30), sl30⟩) (c30 : PySem.W.codeIn K cd30 "law" = true) (k30 : PySem.W.keepIn K (.ref f30) = true)
    (z0 : PySem.W.nsIn K mainGlobals "abs" = some none)
    (z1 : PySem.W.nsIn K mainGlobals "enumerate" = some none)
    (z2 : PySem.W.nsIn K mainGlobals "int" = some none)
    (z3 : PySem.W.nsIn K mainGlobals "len" = some none)
    (z4 : PySem.W.nsIn K mainGlobals "list" = some none)
    (z5 : PySem.W.nsIn K mainGlobals "max" = some none)
    (z6 : PySem.W.nsIn K mainGlobals "min" = some none)
    (z7 : PySem.W.nsIn K mainGlobals "range" = some none)
    (z8 : PySem.W.nsIn K mainGlobals "zip" = some none)
    {ka0 : Addr} {kod0 : Option Addr} {kn0 : Nat} {ksl0 : Array (Option Value)} {h0_0 h0_1 : Tok} (y0 : PySem.W.nsIn K mainGlobals "LESS_ONE" = some (some (.ref ka0))) (r0 : K.lookup ka0 = some ⟨.type "tuple", kod0, .seq #[.int (-1) h0_0, .int (1) h0_1] kn0, ksl0⟩)
    {ka1 : Addr} {kod1 : Option Addr} {kn1 : Nat} {ksl1 : Array (Option Value)} {h1_0 h1_1 : Tok} (y1 : PySem.W.nsIn K mainGlobals "NOUGHT" = some (some (.ref ka1))) (r1 : K.lookup ka1 = some ⟨.type "tuple", kod1, .seq #[.int (0) h1_0, .int (1) h1_1] kn1, ksl1⟩)
    {ka2 : Addr} {kod2 : Option Addr} {kn2 : Nat} {ksl2 : Array (Option Value)} {h2_0 h2_1 : Tok} (y2 : PySem.W.nsIn K mainGlobals "ONE" = some (some (.ref ka2))) (r2 : K.lookup ka2 = some ⟨.type "tuple", kod2, .seq #[.int (1) h2_0, .int (1) h2_1] kn2, ksl2⟩)
    {c_NoChoice : Addr} (t0 : PySem.W.nsIn K mainGlobals "NoChoice" = some (some (.ref c_NoChoice)))
    (t1 : PySem.W.keepIn K (.ref c_NoChoice) = true)
    (t2 : PySem.W.excIn K c_NoChoice [.type "ValueError", .type "Exception", .type "BaseException", .type "object"] "ValueError.__new__" = true)
    (t3 : PySem.W.subIn K (.ref c_NoChoice) (.type "BaseException") = some true)
    (t4 : PySem.W.typeIn K (.ref c_NoChoice) = some (.type "type"))
    (tx5 : ExcC K c_NoChoice)
    (t7 : PySem.W.exmOne K (.ref c_NoChoice) (.ref c_NoChoice) = some true) :
    ∃ fd : FuncData, (∀ (s : Shared) (v : Value), BindsTo s fd ⟨[v], []⟩ [("script", v)]) ∧ ∀ base : Heap, K.In base → base.Ns mainGlobals mg → FnOk l.prog w K mg base CX0 8 fa fd ["script"] (spT K false (fun _ => none) 1 [] m_law_11) := by
  have e := hfa.symm.trans (PySem.W.mg_of X G a30)
  cases e
  have F0 := fun_mk (st := s_divisor) l0 c0 k0
  have b0 := F0.binds (ps := ["one", "other"]) fun _ _ _ _ _ _ us hl => match us, hl with | [_, _], _ => rfl
  have F1 := fun_mk (st := s_below) l1 c1 k1
  have b1 := F1.binds (ps := ["q", "r"]) fun _ _ _ _ _ _ us hl => match us, hl with | [_, _], _ => rfl
  have F2 := fun_mk (st := s_bound_row) l2 c2 k2
  have b2 := F2.binds (ps := ["plan", "k", "sign", "c"]) fun _ _ _ _ _ _ us hl => match us, hl with | [_, _, _, _], _ => rfl
  have F3 := fun_mk (st := s__law_cell) l3 c3 k3
  have b3 := F3.binds (ps := ["script", "k"]) fun _ _ _ _ _ _ us hl => match us, hl with | [_, _], _ => rfl
  have F4 := fun_mk (st := s__law_take) l4 c4 k4
  have b4 := F4.binds (ps := ["state", "many"]) fun _ _ _ _ _ _ us hl => match us, hl with | [_, _], _ => rfl
  have F5 := fun_mk (st := s__law_frac) l5 c5 k5
  have b5 := F5.binds (ps := ["top", "bottom"]) fun _ _ _ _ _ _ us hl => match us, hl with | [_, _], _ => rfl
  have F6 := fun_mk (st := s_fraction) l6 c6 k6
  have b6 := F6.binds (ps := ["top", "bottom"]) fun _ _ _ _ _ _ us hl => match us, hl with | [_, _], _ => rfl
  have F7 := fun_mk (st := s_is_plain) l7 c7 k7
  have b7 := F7.binds (ps := ["row"]) fun _ _ _ _ _ _ us hl => match us, hl with | [_], _ => rfl
  have F8 := fun_mk (st := s__law_state) l8 c8 k8
  have b8 := F8.binds (ps := ["script", "k"]) fun _ _ _ _ _ _ us hl => match us, hl with | [_, _], _ => rfl
  have F9 := fun_mk (st := s__law_plus) l9 c9 k9
  have b9 := F9.binds (ps := ["q", "r"]) fun _ _ _ _ _ _ us hl => match us, hl with | [_, _], _ => rfl
  have F10 := fun_mk (st := s__law_times) l10 c10 k10
  have b10 := F10.binds (ps := ["q", "r"]) fun _ _ _ _ _ _ us hl => match us, hl with | [_, _], _ => rfl
  have F11 := fun_mk (st := s__law_some) l11 c11 k11
  have b11 := F11.binds (ps := ["state"]) fun _ _ _ _ _ _ us hl => match us, hl with | [_], _ => rfl
  have F12 := fun_mk (st := s__law_weight) l12 c12 k12
  have b12 := F12.binds (ps := ["state"]) fun _ _ _ _ _ _ us hl => match us, hl with | [_], _ => rfl
  have F13 := fun_mk (st := s_plus) l13 c13 k13
  have b13 := F13.binds (ps := ["q", "r"]) fun _ _ _ _ _ _ us hl => match us, hl with | [_, _], _ => rfl
  have F14 := fun_mk (st := s_minus) l14 c14 k14
  have b14 := F14.binds (ps := ["q", "r"]) fun _ _ _ _ _ _ us hl => match us, hl with | [_, _], _ => rfl
  have F15 := fun_mk (st := s_times) l15 c15 k15
  have b15 := F15.binds (ps := ["q", "r"]) fun _ _ _ _ _ _ us hl => match us, hl with | [_, _], _ => rfl
  have F16 := fun_mk (st := s_over) l16 c16 k16
  have b16 := F16.binds (ps := ["q", "r"]) fun _ _ _ _ _ _ us hl => match us, hl with | [_, _], _ => rfl
  have F17 := fun_mk (st := s_put_on) l17 c17 k17
  have b17 := F17.binds (ps := ["rows", "row"]) fun _ _ _ _ _ _ us hl => match us, hl with | [_, _], _ => rfl
  have F18 := fun_mk (st := s__law_bounds) l18 c18 k18
  have b18 := F18.binds (ps := ["state"]) fun _ _ _ _ _ _ us hl => match us, hl with | [_], _ => rfl
  have F19 := fun_mk (st := s__law_made) l19 c19 k19
  have b19 := F19.binds (ps := ["state", "plan"]) fun _ _ _ _ _ _ us hl => match us, hl with | [_, _], _ => rfl
  have F20 := fun_mk (st := s__law_moved) l20 c20 k20
  have b20 := F20.binds (ps := ["plan", "moves", "shifts"]) fun _ _ _ _ _ _ us hl => match us, hl with | [_, _, _], _ => rfl
  have F21 := fun_mk (st := s_first_rows) l21 c21 k21
  have b21 := F21.binds (ps := ["plan"]) fun _ _ _ _ _ _ us hl => match us, hl with | [_], _ => rfl
  have F22 := fun_mk (st := s_mixed) l22 c22 k22
  have b22 := F22.binds (ps := ["ones", "many", "others", "more"]) fun _ _ _ _ _ _ us hl => match us, hl with | [_, _, _, _], _ => rfl
  have F23 := fun_mk (st := s_worth_of) l23 c23 k23
  have b23 := F23.binds (ps := ["row", "made", "choice"]) fun _ _ _ _ _ _ us hl => match us, hl with | [_, _, _], _ => rfl
  have F24 := fun_mk (st := s__law_plan) l24 c24 k24
  have b24 := F24.binds (ps := ["script"]) fun _ _ _ _ _ _ us hl => match us, hl with | [_], _ => rfl
  have F25 := fun_mk (st := s_taken_together) l25 c25 k25
  have b25 := F25.binds (ps := ["low", "high", "k"]) fun _ _ _ _ _ _ us hl => match us, hl with | [_, _, _], _ => rfl
  have F26 := fun_mk (st := s_chosen_by) l26 c26 k26
  have b26 := F26.binds (ps := ["rule", "made"]) fun _ _ _ _ _ _ us hl => match us, hl with | [_, _], _ => rfl
  have F27 := fun_mk (st := s_taken_out) l27 c27 k27
  have b27 := F27.binds (ps := ["rows", "k"]) fun _ _ _ _ _ _ us hl => match us, hl with | [_, _], _ => rfl
  have F28 := fun_mk (st := s__law_told) l28 c28 k28
  have b28 := F28.binds (ps := ["rule", "made"]) fun _ _ _ _ _ _ us hl => match us, hl with | [_, _], _ => rfl
  have F29 := fun_mk (st := s_rule_of) l29 c29 k29
  have b29 := F29.binds (ps := ["plan"]) fun _ _ _ _ _ _ us hl => match us, hl with | [_], _ => rfl
  have F30 := fun_mk (st := s_law) l30 c30 k30
  have b30 := F30.binds (ps := ["script"]) fun _ _ _ _ _ _ us hl => match us, hl with | [_], _ => rfl
  let T : Tx K mg := {
    f_divisor := _, d_divisor := _, F_divisor := F0, b_divisor := b0, g_divisor := PySem.W.mg_of X G a0,
    f_below := _, d_below := _, F_below := F1, b_below := b1, g_below := PySem.W.mg_of X G a1,
    f_bound_row := _, d_bound_row := _, F_bound_row := F2, b_bound_row := b2, g_bound_row := PySem.W.mg_of X G a2,
    f__law_cell := _, d__law_cell := _, F__law_cell := F3, b__law_cell := b3, g__law_cell := PySem.W.mg_of X G a3,
    f__law_take := _, d__law_take := _, F__law_take := F4, b__law_take := b4, g__law_take := PySem.W.mg_of X G a4,
    f__law_frac := _, d__law_frac := _, F__law_frac := F5, b__law_frac := b5, g__law_frac := PySem.W.mg_of X G a5,
    f_fraction := _, d_fraction := _, F_fraction := F6, b_fraction := b6, g_fraction := PySem.W.mg_of X G a6,
    f_is_plain := _, d_is_plain := _, F_is_plain := F7, b_is_plain := b7, g_is_plain := PySem.W.mg_of X G a7,
    f__law_state := _, d__law_state := _, F__law_state := F8, b__law_state := b8, g__law_state := PySem.W.mg_of X G a8,
    f__law_plus := _, d__law_plus := _, F__law_plus := F9, b__law_plus := b9, g__law_plus := PySem.W.mg_of X G a9,
    f__law_times := _, d__law_times := _, F__law_times := F10, b__law_times := b10, g__law_times := PySem.W.mg_of X G a10,
    f__law_some := _, d__law_some := _, F__law_some := F11, b__law_some := b11, g__law_some := PySem.W.mg_of X G a11,
    f__law_weight := _, d__law_weight := _, F__law_weight := F12, b__law_weight := b12, g__law_weight := PySem.W.mg_of X G a12,
    f_plus := _, d_plus := _, F_plus := F13, b_plus := b13, g_plus := PySem.W.mg_of X G a13,
    f_minus := _, d_minus := _, F_minus := F14, b_minus := b14, g_minus := PySem.W.mg_of X G a14,
    f_times := _, d_times := _, F_times := F15, b_times := b15, g_times := PySem.W.mg_of X G a15,
    f_over := _, d_over := _, F_over := F16, b_over := b16, g_over := PySem.W.mg_of X G a16,
    f_put_on := _, d_put_on := _, F_put_on := F17, b_put_on := b17, g_put_on := PySem.W.mg_of X G a17,
    f__law_bounds := _, d__law_bounds := _, F__law_bounds := F18, b__law_bounds := b18, g__law_bounds := PySem.W.mg_of X G a18,
    f__law_made := _, d__law_made := _, F__law_made := F19, b__law_made := b19, g__law_made := PySem.W.mg_of X G a19,
    f__law_moved := _, d__law_moved := _, F__law_moved := F20, b__law_moved := b20, g__law_moved := PySem.W.mg_of X G a20,
    f_first_rows := _, d_first_rows := _, F_first_rows := F21, b_first_rows := b21, g_first_rows := PySem.W.mg_of X G a21,
    f_mixed := _, d_mixed := _, F_mixed := F22, b_mixed := b22, g_mixed := PySem.W.mg_of X G a22,
    f_worth_of := _, d_worth_of := _, F_worth_of := F23, b_worth_of := b23, g_worth_of := PySem.W.mg_of X G a23,
    f__law_plan := _, d__law_plan := _, F__law_plan := F24, b__law_plan := b24, g__law_plan := PySem.W.mg_of X G a24,
    f_taken_together := _, d_taken_together := _, F_taken_together := F25, b_taken_together := b25, g_taken_together := PySem.W.mg_of X G a25,
    f_chosen_by := _, d_chosen_by := _, F_chosen_by := F26, b_chosen_by := b26, g_chosen_by := PySem.W.mg_of X G a26,
    f_taken_out := _, d_taken_out := _, F_taken_out := F27, b_taken_out := b27, g_taken_out := PySem.W.mg_of X G a27,
    f__law_told := _, d__law_told := _, F__law_told := F28, b__law_told := b28, g__law_told := PySem.W.mg_of X G a28,
    f_rule_of := _, d_rule_of := _, F_rule_of := F29, b_rule_of := b29, g_rule_of := PySem.W.mg_of X G a29,
    f_law := _, d_law := _, F_law := F30, b_law := b30, g_law := PySem.W.mg_of X G a30,
    z_abs := PySem.W.mg_none_of X G z0,
    z_enumerate := PySem.W.mg_none_of X G z1,
    z_int := PySem.W.mg_none_of X G z2,
    z_len := PySem.W.mg_none_of X G z3,
    z_list := PySem.W.mg_none_of X G z4,
    z_max := PySem.W.mg_none_of X G z5,
    z_min := PySem.W.mg_none_of X G z6,
    z_range := PySem.W.mg_none_of X G z7,
    z_zip := PySem.W.mg_none_of X G z8,
    ku_LESS_ONE := _, kv_LESS_ONE := _, km_LESS_ONE := PySem.W.mg_of X G y0, kr_LESS_ONE := ((kc_tup (us := [.int (-1) h0_0, .int (1) h0_1]) r0 (.int (.int .nil)) (by simp))).rel, kf_LESS_ONE := ((kc_tup (us := [.int (-1) h0_0, .int (1) h0_1]) r0 (.int (.int .nil)) (by simp))).fz,
    ku_NOUGHT := _, kv_NOUGHT := _, km_NOUGHT := PySem.W.mg_of X G y1, kr_NOUGHT := ((kc_tup (us := [.int (0) h1_0, .int (1) h1_1]) r1 (.int (.int .nil)) (by simp))).rel, kf_NOUGHT := ((kc_tup (us := [.int (0) h1_0, .int (1) h1_1]) r1 (.int (.int .nil)) (by simp))).fz,
    ku_ONE := _, kv_ONE := _, km_ONE := PySem.W.mg_of X G y2, kr_ONE := ((kc_tup (us := [.int (1) h2_0, .int (1) h2_1]) r2 (.int (.int .nil)) (by simp))).rel, kf_ONE := ((kc_tup (us := [.int (1) h2_0, .int (1) h2_1]) r2 (.int (.int .nil)) (by simp))).fz,
    c_NoChoice := c_NoChoice, cm_NoChoice := PySem.W.mg_of X G t0,
    ck_NoChoice := t1,
    cq_NoChoice := t2,
    cs_NoChoice := t3,
    ct_NoChoice := t4,
    cx_NoChoice := tx5,
    cl_NoChoice := by unfold clK; rw [t0],
    ce_NoChoice_NoChoice := t7 }
  exact ⟨PySem.W.fnOf "law" "law" (defArgs s_law) (defBody s_law) (defScope s_law) .none kV30 dc30 pm30 an30 cd30 ct30, fun s v => .of_eq rfl, fun base _ _ => by rw [spT_cl (cl' := clK K)]; exact ok_law T⟩
end Sr
/-! Q_fr -/
/-! the program's fractions -/
namespace Sr
open PySem PySem.Spec PyProof.Rows L2 L3
@[simp] theorem e_modOk {i j : Int} : modOk i j = decide (j ≠ 0) := (rfl)
theorem div_loop {mt : MT} {mb : MS} (ht : ∀ a b : Int, mt [some (.d (.int a)), some (.d (.int b))] = .ok (!decide (b = 0), [some (.d (.int a)), some (.d (.int b))]))
    (hb : ∀ a b : Int, b ≠ 0 → mb [some (.d (.int a)), some (.d (.int b))] = .ok (.next [some (.d (.int b)), some (.d (.int (a.fmod b)))])) :
    ∀ (n : Nat) (a b : Int), b.natAbs ≤ n → ∃ g : Int, mWhile mt mb [some (.d (.int a)), some (.d (.int b))] = .ok (.next [some (.d (.int g)), some (.d (.int 0))]) ∧ g.natAbs = Int.gcd a b := by
  intro n
  induction n with
  | zero =>
    intro a b h
    have : b = 0 := by omega
    subst this
    exact ⟨a, by rw [mWhile_eq, ht]; simp, by simp⟩
  | succ n ih =>
    intro a b h
    by_cases z : b = 0
    · subst z
      exact ⟨a, by rw [mWhile_eq, ht]; simp, by simp⟩
    · have hm := fmod_abs a b z
      obtain ⟨g, e, eg⟩ := ih b (a.fmod b) (by omega)
      refine ⟨g, ?_, by rw [eg, gcd_fmod]⟩
      rw [mWhile_eq, ht]
      simp [z, hb, e]
theorem divisor_eq (a b : Int) : m_divisor [.d (.int a), .d (.int b)] = .ok (.d (.int (Int.gcd a b : Nat)), []) := by
  unfold m_divisor
  obtain ⟨g, e, eg⟩ := div_loop (mt := mTest (mLift (pBin opNe (pVar 1) (pC (.int 0))))) (mb := mPar 0 1 (mCons (mVar 1) (mCons (mLift (pBin opMod (pVar 0) (pVar 1))) (mNil)))) (fun a b => by simp) (fun a b h => by simp [h]) b.natAbs a b (Nat.le_refl _)
  simp [e, eg]
theorem low_eq {t b : Int} (hb : b ≠ 0) (hs : ib b ≤ 9000) : m_fraction [.d (.int t), .d (.int b)] = .ok (.d (fr (Rat.divInt t b)), []) := by
  have hd1 : divOk t (lowM t b) = true := divOk_ib (lowM_ne hb) (Nat.le_trans (lowM_ib hb) hs)
  have hd2 : divOk b (lowM t b) = true := divOk_ib (lowM_ne hb) (Nat.le_trans (lowM_ib hb) hs)
  have e := fr_low (t := t) hb
  unfold m_fraction
  unfold lowM at hd1 hd2 e
  by_cases h : b < 0
  · rw [if_pos h] at hd1 hd2 e
    simp [hb, divisor_eq, h] at hd1 hd2 e ⊢
    simp [hd1, hd2, e]
  · rw [if_neg h] at hd1 hd2 e
    simp [hb, divisor_eq, h, hd1, hd2, e]
theorem plus_eqW {q r : Rat} (h : Ok2 q r) : m_plus [.d (fr q), .d (fr r)] = .ok (.d (fr (q + r)), []) := by
  obtain ⟨hd, h⟩ := h
  have a := hq_num q
  have b := hq_num r
  have c := hq_denI q
  have d := hq_denI r
  have m := dq_bot q r
  have h1 : mulOk q.num r.den = true := mulOk_ib (by omega)
  have h2 : mulOk r.num q.den = true := mulOk_ib (by omega)
  have h3 : mulOk q.den r.den = true := mulOk_ib (by omega)
  have nz : (q.den : Int) * r.den ≠ 0 := by
    have := q.den_nz
    have := r.den_nz
    exact Int.mul_ne_zero (by omega) (by omega)
  unfold m_plus
  rw [fr_def, fr_def]
  simp [h1, h2, h3, low_eq nz (by omega), add_divInt q r]
theorem plus_eq {q r : Rat} (h : hq q + hq r ≤ 9000) : m_plus [.d (fr q), .d (fr r)] = .ok (.d (fr (q + r)), []) := plus_eqW (ok2_of h)
theorem minus_eqW {q r : Rat} (h : Ok2 q r) : m_minus [.d (fr q), .d (fr r)] = .ok (.d (fr (q - r)), []) := by
  obtain ⟨hd, h⟩ := h
  have a := hq_num q
  have b := hq_num r
  have c := hq_denI q
  have d := hq_denI r
  have m := dq_bot q r
  have h1 : mulOk q.num r.den = true := mulOk_ib (by omega)
  have h2 : mulOk r.num q.den = true := mulOk_ib (by omega)
  have h3 : mulOk q.den r.den = true := mulOk_ib (by omega)
  have nz : (q.den : Int) * r.den ≠ 0 := by
    have := q.den_nz
    have := r.den_nz
    exact Int.mul_ne_zero (by omega) (by omega)
  unfold m_minus
  rw [fr_def, fr_def]
  simp [h1, h2, h3, low_eq nz (by omega), sub_divInt q r]
theorem minus_eq {q r : Rat} (h : hq q + hq r ≤ 9000) : m_minus [.d (fr q), .d (fr r)] = .ok (.d (fr (q - r)), []) := minus_eqW (ok2_of h)
theorem times_eqW {q r : Rat} (h : Ok2 q r) : m_times [.d (fr q), .d (fr r)] = .ok (.d (fr (q * r)), []) := by
  obtain ⟨hd, h⟩ := h
  have a := hq_num q
  have b := hq_num r
  have c := hq_denI q
  have d := hq_denI r
  have m := dq_bot q r
  have h1 : mulOk q.num r.num = true := mulOk_ib (by omega)
  have h3 : mulOk q.den r.den = true := mulOk_ib (by omega)
  have nz : (q.den : Int) * r.den ≠ 0 := by
    have := q.den_nz
    have := r.den_nz
    exact Int.mul_ne_zero (by omega) (by omega)
  unfold m_times
  rw [fr_def, fr_def]
  simp [h1, h3, low_eq nz (by omega), mul_divInt q r]
theorem times_eq {q r : Rat} (h : hq q + hq r ≤ 9000) : m_times [.d (fr q), .d (fr r)] = .ok (.d (fr (q * r)), []) := times_eqW (ok2_of h)
theorem over_eqW {q r : Rat} (h : OkD q r) (hr : r ≠ 0) : m_over [.d (fr q), .d (fr r)] = .ok (.d (fr (q / r)), []) := by
  obtain ⟨hd, h⟩ := h
  have a := hq_num q
  have b := hq_num r
  have c := hq_denI q
  have d := hq_denI r
  have m := ib_mul (i := (q.den : Int)) (j := r.num)
  rw [dq_den] at m
  have h1 : mulOk q.num r.den = true := mulOk_ib (by omega)
  have h3 : mulOk q.den r.num = true := mulOk_ib (by omega)
  have nz : (q.den : Int) * r.num ≠ 0 := by
    have := q.den_nz
    have : r.num ≠ 0 := fun e => hr (Rat.num_eq_zero.mp e)
    exact Int.mul_ne_zero (by omega) this
  unfold m_over
  rw [fr_def, fr_def]
  simp [h1, h3, low_eq nz (by omega), div_divInt q r]
theorem over_eq {q r : Rat} (h : hq q + hq r ≤ 9000) (hr : r ≠ 0) : m_over [.d (fr q), .d (fr r)] = .ok (.d (fr (q / r)), []) := over_eqW (okD_of h) hr
theorem below_eqW {q r : Rat} (h : hq q + hq r ≤ 400000) : m_below [.d (fr q), .d (fr r)] = .ok (.d (.bool (decide (q < r))), []) := by
  have a := hq_num q
  have b := hq_num r
  have c := hq_denI q
  have d := hq_denI r
  have h1 : mulOk q.num r.den = true := mulOk_ib (by omega)
  have h2 : mulOk r.num q.den = true := mulOk_ib (by omega)
  unfold m_below
  rw [fr_def, fr_def]
  simp [h1, h2, Rat.lt_iff]
theorem below_eq {q r : Rat} (h : hq q + hq r ≤ 9000) : m_below [.d (fr q), .d (fr r)] = .ok (.d (.bool (decide (q < r))), []) := below_eqW (by omega)
end Sr
/-! Q_deck -/
/-! the laws' deck of numbers -/
namespace Sr
open PySem PySem.Spec PyProof.Rows L2 L3
@[simp] theorem e_powOk {i j : Int} : powOk i j = decide (0 ≤ j ∧ j ≤ 1000000 ∧ i.natAbs < 2 ^ 64) := (rfl)
@[simp] theorem mulOk_rS {i j : Int} (h : j.natAbs < 2 ^ 64) : mulOk i j = true := mulOk_r h
@[simp] theorem mulOk_lS {i j : Int} (h : i.natAbs < 2 ^ 64) : mulOk i j = true := mulOk_l h
@[simp] theorem divOk_S {i j : Int} (h0 : j ≠ 0) (h : j.natAbs < 2 ^ 64) : divOk i j = true := divOk_ib h0 (by
  have : ib j ≤ 64 := ib_le.mpr h
  omega)
@[simp] theorem e_ixN0 {m : Nat} (h : 0 < m) : ixN m 0 = some 0 := e_ixN (n := 0) h
@[simp] theorem e_ixN1 {m : Nat} (h : 1 < m) : ixN m 1 = some 1 := e_ixN (n := 1) h
@[simp] theorem e_ixN2 {m : Nat} (h : 2 < m) : ixN m 2 = some 2 := e_ixN (n := 2) h
@[simp] theorem e_ixN3 {m : Nat} (h : 3 < m) : ixN m 3 = some 3 := e_ixN (n := 3) h
theorem range3 : rangeItems 0 3 = [.d (.int 0), .d (.int 1), .d (.int 2)] := rfl
@[simp] theorem kit_tt : kitB "tuple" "tuple" = some true := by decide
@[simp] theorem kit_ii : kitB "int" "int" = some true := by decide
@[simp] theorem kit_ib : kitB "int" "bool" = some false := by decide
@[simp] theorem kit_bb : kitB "bool" "bool" = some true := by decide
@[simp] theorem kit_bi : kitB "bool" "int" = some true := by decide
@[simp] theorem kit_ll : kitB "list" "list" = some true := by decide
@[simp] theorem kit_lt : kitB "list" "tuple" = some false := by decide
@[simp] theorem kit_tl : kitB "tuple" "list" = some false := by decide
@[simp] theorem opEq_d {x y : PyData} (h1 : pl x) (h2 : pl y) : opEq (.d x) (.d y) = .ok (.v (.d (.bool (decide (x = y))))) := opEq_pl (by simp) (by simp) h1 h2
@[simp] theorem opNe_d {x y : PyData} (h1 : pl x) (h2 : pl y) : opNe (.d x) (.d y) = .ok (.v (.d (.bool (!decide (x = y))))) := opNe_pl (by simp) (by simp) h1 h2
@[simp] theorem pl_nil : pl (.list []) := by simp [pl, plk, plkAll]
@[simp] theorem pl_int {i : Int} : pl (.int i) := by simp [pl, plk]
@[simp] theorem pl_frS {q : Rat} : pl (fr q) := pl_fr
@[simp] theorem pl_frsS {q : List Rat} : pl (frs q) := pl_frs

/-! a place drawn -/
theorem pick_mem {α : Type} {l : List α} {v : Int} (h0 : 0 ≤ v) (h1 : v < l.length) : ∃ x ∈ l, atI l v = some x := by
  obtain ⟨n, rfl⟩ : ∃ n : Nat, v = n := ⟨v.toNat, by omega⟩
  have hn : n < l.length := by omega
  exact ⟨l[n], List.getElem_mem hn, by rw [e_atIn, List.getElem?_eq_getElem hn]⟩
theorem pick {l : List T} {v : Int} {α : Type} {f : T → R α} {P : α → Prop} {E : Str → Prop} (h0 : 0 ≤ v) (h1 : v < l.length) (k : ∀ x ∈ l, Then (f x) P E) : Then ((ofO (atI l v)).bind f) P E := by
  obtain ⟨n, rfl⟩ : ∃ n : Nat, v = n := ⟨v.toNat, by omega⟩
  have hn : n < l.length := by omega
  rw [e_atIn, List.getElem?_eq_getElem hn]
  exact k _ (List.getElem_mem hn)
theorem fr_neg {q : Rat} : PyData.tuple [.int (-q.num), .int q.den] = fr (-q) := by
  unfold fr
  rw [Rat.neg_num, Rat.neg_den]
theorem idx2 {a b v : Int} {α : Type} {f : T → R α} {P : α → Prop} {E : Str → Prop} (h0 : 0 ≤ v) (h1 : v < 2) (k : ∀ z : Int, z = a ∨ z = b → Then (f (.d (.int z))) P E) :
    Then ((ofO (atI [T.d (.int a), T.d (.int b)] v)).bind f) P E := by
  have : v = 0 ∨ v = 1 := by omega
  rcases this with rfl | rfl
  · exact k a (.inl rfl)
  · exact k b (.inr rfl)
theorem idx3 {a b c v : Int} {α : Type} {f : T → R α} {P : α → Prop} {E : Str → Prop} (h0 : 0 ≤ v) (h1 : v < 3) (k : ∀ z : Int, z = a ∨ z = b ∨ z = c → Then (f (.d (.int z))) P E) :
    Then ((ofO (atI [T.d (.int a), T.d (.int b), T.d (.int c)] v)).bind f) P E := by
  have : v = 0 ∨ v = 1 ∨ v = 2 := by omega
  rcases this with rfl | rfl | rfl
  · exact k a (.inl rfl)
  · exact k b (.inr (.inl rfl))
  · exact k c (.inr (.inr rfl))
theorem idx4 {a b c d v : Int} {α : Type} {f : T → R α} {P : α → Prop} {E : Str → Prop} (h0 : 0 ≤ v) (h1 : v < 4) (k : ∀ z : Int, z = a ∨ z = b ∨ z = c ∨ z = d → Then (f (.d (.int z))) P E) :
    Then ((ofO (atI [T.d (.int a), T.d (.int b), T.d (.int c), T.d (.int d)] v)).bind f) P E := by
  have : v = 0 ∨ v = 1 ∨ v = 2 ∨ v = 3 := by omega
  rcases this with rfl | rfl | rfl | rfl
  · exact k a (.inl rfl)
  · exact k b (.inr (.inl rfl))
  · exact k c (.inr (.inr (.inl rfl)))
  · exact k d (.inr (.inr (.inr rfl)))
def deckT (cells : List Int) (b n : Int) : T := .ol [.ol (cells.map fun c => .d (.int c)), .d (.int b), .d (.int n)]
def Deck (d : T) : Prop := ∃ cells b n, d = deckT cells b n ∧ cells ≠ []
theorem fmod_nat {n : Int} {m : Nat} (h : 0 < m) : ∃ k : Nat, n.fmod (m : Int) = (k : Int) ∧ k < m := by
  have h1 := Int.fmod_nonneg_of_pos n (b := (m : Int)) (by omega)
  have h2 := Int.fmod_lt_of_pos n (b := (m : Int)) (by omega)
  exact ⟨(n.fmod (m : Int)).toNat, by omega, by omega⟩
def Drawn (many : Int) (r : T × List T) : Prop := ∃ v d', r = (.d (.int v), [d']) ∧ 0 ≤ v ∧ v < many ∧ Deck d'
theorem draw_spec {d : T} {many : Int} {E : Str → Prop} (hd : Deck d) (hm : 0 < many) (hb : many.natAbs < 2 ^ 64) : Then (m__law_draw [d, .d (.int many)]) (Drawn many) E := by
  obtain ⟨cells, b, n, rfl, hc⟩ := hd
  have hl : 0 < cells.length := List.length_pos_iff.mpr hc
  obtain ⟨k, hk, hk2⟩ := fmod_nat (n := n) hl
  have h1 : (cells.map fun c => T.d (.int c))[k]? = some (.d (.int cells[k])) := by
    rw [List.getElem?_map, List.getElem?_eq_getElem hk2]; rfl
  have h2 : (cells.length : Int) ≠ 0 := by omega
  have hf : ∀ x : Int, 0 ≤ x.fmod many ∧ x.fmod many < many := fun x => ⟨Int.fmod_nonneg_of_pos x hm, Int.fmod_lt_of_pos x hm⟩
  have hm0 : many ≠ 0 := by omega
  have hs : ∀ x : Int, ((x.fmod 1000000033).natAbs < 2 ^ 64) := fun x => by
    have := Int.fmod_nonneg_of_pos x (b := 1000000033) (by omega)
    have := Int.fmod_lt_of_pos x (b := 1000000033) (by omega)
    omega
  unfold m__law_draw deckT
  by_cases hz : b = 0
  · subst hz
    simp [h2, hc, hk, e_atIn, h1, hm0, hb, e_ixN hk2]
    refine ⟨_, _, rfl, (hf _).1, (hf _).2, cells.set k (cells[k].fdiv many), 0, n + 1, ?_, ?_⟩
    · unfold deckT
      simp [List.map_set]
    · simpa using hc
  · simp [h2, hc, hk, e_atIn, h1, hm0, hz, hs]
    exact ⟨_, _, rfl, (hf _).1, (hf _).2, cells, b, n + 1, rfl, hc⟩
theorem draw_step {d : T} {many : Int} {α : Type} {f : T × List T → R α} {P : α → Prop} {E : Str → Prop} (hd : Deck d) (hm : 0 < many) (hb : many.natAbs < 2 ^ 64)
    (k : ∀ v d', 0 ≤ v → v < many → v.natAbs < 2 ^ 64 → Deck d' → Then (f (.d (.int v), [d'])) P E) : Then ((m__law_draw [d, .d (.int many)]).nx.bind f) P E := by
  refine then_bindI (then_nx (draw_spec hd hm hb)) ?_
  rintro _ ⟨v, d', rfl, h0, h1, hd'⟩
  exact k v d' h0 h1 (by omega) hd'
theorem pl_ints {ns : List Int} : pl (.list (ns.map .int)) := by
  show plk 60 _ = true
  simp only [plk]
  exact plkAll_map fun _ _ => by simp [plk]
theorem cut63 {α : Type} (xs : List α) : (cutG xs none (some 63)).length ≤ 63 := by
  unfold cutG
  simp [HT.sIx]
  omega
theorem cutG_map {α β : Type} {f : α → β} {xs : List α} {lo hi : Option Int} : cutG (xs.map f) lo hi = (cutG xs lo hi).map f := by
  unfold cutG
  simp [List.map_drop, List.map_take]
theorem small62_of {n : Nat} (h : n ≤ 100000000) : small62 (n : Int) = true := by
  unfold small62
  exact decide_eq_true ⟨by omega, by omega⟩
theorem deck_eq (ns : List Int) : ∃ cells : List Int, ∃ b : Int, cells.length ≤ 63 ∧ m__law_deck [.rd (ns.map .int)] = .ok (.d (.list [.list (cells.map .int), .int b, .int 0]), []) := by
  have h := cut63 ns
  unfold m__law_deck
  by_cases hz : cutG ns none (some 63) = []
  · refine ⟨[0], (ns.length : Int).fmod 2, by simp, ?_⟩
    simp [cutG_map, hz]
  · refine ⟨cutG ns none (some 63), (ns.length : Int).fmod 2, h, ?_⟩
    simp [cutG_map, hz, pl_ints]
end Sr
/-! Q_lc -/
/-! comprehensions over data that change no slots but their own -/
namespace Sr
open PySem PySem.Spec PyProof.Rows L2 L3
theorem eq_of_then {α : Type} {r : R α} {a : α} (h : Then r (fun x => x = a) (fun _ => False)) : r = .ok a := by
  cases r with
  | ok x => rw [then_ok] at h; rw [h]
  | exc c => exact h.elim
  | bad => exact h.elim
theorem lcF {α : Type} {g : MG} {mt : MT} {me : MEx} {vs : List Nat} {xs : List α} {enc out : α → PyData} {p : α → Bool} {W ρ : En} (hlen : xs.length ≤ 10000) (hρ : wipeE ρ vs = W)
    (h : ∀ x ∈ xs, ∃ W', g (T.d (enc x)) W = some W' ∧ mt W' = .ok (p x, W') ∧ (p x = true → me W' = .ok (T.d (out x), W')) ∧ wipeE W' vs = W) :
    ∃ ρ', mLcLoop g mt me vs (xs.map (T.d ∘ enc)) [] ρ = .ok ((xs.filter p).map (T.d ∘ out), ρ') ∧ wipeE ρ' vs = W := by
  have key : ∀ (xs : List α) (acc : List T) (ρ : En), acc.length + xs.length ≤ 10000 → wipeE ρ vs = W → (∀ x ∈ xs, ∃ W', g (T.d (enc x)) W = some W' ∧ mt W' = .ok (p x, W') ∧ (p x = true → me W' = .ok (T.d (out x), W')) ∧ wipeE W' vs = W) →
      ∃ ρ', mLcLoop g mt me vs (xs.map (T.d ∘ enc)) acc ρ = .ok (acc ++ (xs.filter p).map (T.d ∘ out), ρ') ∧ wipeE ρ' vs = W := by
    intro xs
    induction xs with
    | nil => intro acc ρ _ hρ _; exact ⟨ρ, by simp, hρ⟩
    | cons x xs ih =>
      intro acc ρ hl hρ h
      have hl' : acc.length + (xs.length + 1) ≤ 10000 := by simpa using hl
      have hs : decide (acc.length < sLine) = true := decide_eq_true (by unfold sLine; omega)
      obtain ⟨W', g1, gt, g2, g3⟩ := h x List.mem_cons_self
      rw [List.map_cons, e_lcC, hρ]
      cases hp : p x with
      | true =>
        obtain ⟨ρ', e1, e2⟩ := ih (acc ++ [T.d (out x)]) W' (by simp; omega) g3 fun y hy => h y (List.mem_cons_of_mem _ hy)
        refine ⟨ρ', ?_, e2⟩
        simp only [Function.comp_apply, g1, ofO_some, bind_okS, e_lcL1, gt, hp, e_lcL2, if_true, hs, guard_t, g2 hp, e_lcL3]
        rw [e1]
        simp [hp]
      | false =>
        obtain ⟨ρ', e1, e2⟩ := ih acc W' (by omega) g3 fun y hy => h y (List.mem_cons_of_mem _ hy)
        refine ⟨ρ', ?_, e2⟩
        simp only [Function.comp_apply, g1, ofO_some, bind_okS, e_lcL1, gt, hp, e_lcL2, Bool.false_eq_true, if_false]
        rw [e1]
        simp [hp]
  have := key xs [] ρ (by simpa using hlen) hρ h
  simpa using this
theorem lcF_eq {α : Type} {g : MG} {mt : MT} {me : MEx} {vs : List Nat} {xs : List α} {enc out : α → PyData} {p : α → Bool} {W ρ : En} {β : Type} {f : List T × En → R β} {r : R β} (hlen : xs.length ≤ 10000) (hρ : wipeE ρ vs = W)
    (h : ∀ x ∈ xs, ∃ W', g (T.d (enc x)) W = some W' ∧ mt W' = .ok (p x, W') ∧ (p x = true → me W' = .ok (T.d (out x), W')) ∧ wipeE W' vs = W)
    (k : ∀ ρ', wipeE ρ' vs = W → f ((xs.filter p).map (T.d ∘ out), ρ') = r) : (mLcLoop g mt me vs (xs.map (T.d ∘ enc)) [] ρ).bind f = r := by
  obtain ⟨ρ', e1, e2⟩ := lcF hlen hρ h
  rw [e1]
  exact k ρ' e2
theorem lcU_eq {α : Type} {g : MG} {me : MEx} {vs : List Nat} {xs : List α} {enc out : α → PyData} {W ρ : En} {β : Type} {f : List T × En → R β} {r : R β} (hlen : xs.length ≤ 10000) (hρ : wipeE ρ vs = W)
    (h : ∀ x ∈ xs, ∃ W', g (T.d (enc x)) W = some W' ∧ me W' = .ok (T.d (out x), W') ∧ wipeE W' vs = W)
    (k : ∀ ρ', wipeE ρ' vs = W → f (xs.map (T.d ∘ out), ρ') = r) : (mLcLoop g mtYes me vs (xs.map (T.d ∘ enc)) [] ρ).bind f = r :=
  lcF_eq (p := fun _ => true) (out := out) hlen hρ (fun x hx => by
    obtain ⟨W', a, b, c⟩ := h x hx
    exact ⟨W', a, rfl, fun _ => b, c⟩) fun ρ' e => by
    rw [show xs.filter (fun _ => true) = xs from List.filter_eq_self.mpr fun _ _ => rfl]
    exact k ρ' e
def NextI (I : En → Prop) (o : Out) : Prop := ∃ ρ, o = .next ρ ∧ I ρ
end Sr
/-! L4 -/
/-! L4: typed functions, and that mirrors do what these say. -/
namespace L4
open PySem PySem.Spec PyProof.Rows L2 L3
abbrev Env := L3.Env
/-- what a mirror comes to is what a typed term comes to, where that is not bad -/
def Rf {X α : Type} (r : R X) (t : R α) (Rel : α → X → Prop) : Prop := match t with
  | .bad => True
  | .exc c => r = .exc c
  | .ok a => ∃ x, r = .ok x ∧ Rel a x
theorem Rf.bind {X Y α β : Type} {r : R X} {t : R α} {Rel : α → X → Prop} {k : X → R Y} {k' : α → R β} {Rel' : β → Y → Prop} (h : Rf r t Rel) (hk : ∀ a x, Rel a x → Rf (k x) (k' a) Rel') : Rf (r.bind k) (t.bind k') Rel' := by
  cases t with
  | bad => exact trivial
  | exc c =>
    have : r = .exc c := h
    subst this
    exact rfl
  | ok a =>
    obtain ⟨x, e, hr⟩ := h
    subst e
    exact hk a x hr
theorem Rf.then {X α : Type} {r : R X} {t : R α} {Rel : α → X → Prop} {P : α → Prop} {E : Str → Prop} (h : Rf r t Rel) (k : Then t P E) : Then r (fun x => ∃ a, Rel a x ∧ P a) E := by
  cases t with
  | bad => exact k.elim
  | exc c =>
    have : r = .exc c := h
    subst this
    exact k
  | ok a =>
    obtain ⟨x, e, hr⟩ := h
    subst e
    exact ⟨a, hr, k⟩
theorem Rf.mono {X α : Type} {r : R X} {t : R α} {Rel Rel' : α → X → Prop} (h : Rf r t Rel) (k : ∀ a x, Rel a x → Rel' a x) : Rf r t Rel' := by
  cases t with
  | bad => exact trivial
  | exc c => exact h
  | ok a => obtain ⟨x, e, hr⟩ := h; exact ⟨x, e, k _ _ hr⟩
theorem Rf.nx {X α : Type} {r : R X} {t : R α} {Rel : α → X → Prop} (h : Rf r t Rel) : Rf r.nx t.nx Rel := by
  cases t with
  | bad => exact trivial
  | exc c => exact trivial
  | ok a => obtain ⟨x, e, hr⟩ := h; exact ⟨x, by rw [e]; rfl, hr⟩
/-- the typed side may know more -/
theorem Rf.of_then {X α : Type} {r : R X} {t : R α} {Rel : α → X → Prop} {P : α → Prop} (h : Rf r t Rel) (k : Then t P (fun _ => True)) : Rf r t (fun a x => Rel a x ∧ P a) := by
  cases t with
  | bad => exact trivial
  | exc c => exact h
  | ok a => obtain ⟨x, e, hr⟩ := h; exact ⟨x, e, hr, k⟩

/-! ### patterns of slots -/
abbrev Pt := List (Option T)
def Mt : Pt → Env → Prop
  | [], [] => True
  | none :: p, _ :: ρ => Mt p ρ
  | some t :: p, o :: ρ => o = some t ∧ Mt p ρ
  | _, _ => False
theorem Mt.len : ∀ {p : Pt} {ρ : Env}, Mt p ρ → p.length = ρ.length
  | [], [], _ => rfl
  | none :: p, _ :: ρ, h => by
    have := Mt.len (p := p) (ρ := ρ) h
    simp [this]
  | some t :: p, o :: ρ, h => by
    have := Mt.len (p := p) (ρ := ρ) h.2
    simp [this]
  | [], _ :: _, h => h.elim
  | none :: _, [], h => h.elim
  | some _ :: _, [], h => h.elim
theorem Mt.get : ∀ {p : Pt} {ρ : Env} {i : Nat} {t : T}, Mt p ρ → p[i]? = some (some t) → ρ[i]? = some (some t)
  | none :: p, _ :: ρ, 0, t, h, e => by simp at e
  | none :: p, _ :: ρ, i + 1, t, h, e => by
    have : Mt p ρ := h
    simpa using this.get (i := i) (by simpa using e)
  | some u :: p, o :: ρ, 0, t, h, e => by
    have h1 : o = some u := h.1
    simp at e
    simp [h1, e]
  | some u :: p, o :: ρ, i + 1, t, h, e => by
    have : Mt p ρ := h.2
    simpa using this.get (i := i) (by simpa using e)
  | [], [], i, t, h, e => by simp at e
  | [], _ :: _, _, _, h, _ => h.elim
  | none :: _, [], _, _, h, _ => h.elim
  | some _ :: _, [], _, _, h, _ => h.elim
theorem Mt.set : ∀ {p : Pt} {ρ : Env} {i : Nat} {t : T}, Mt p ρ → Mt (p.set i (some t)) (ρ.set i (some t))
  | none :: p, o :: ρ, 0, t, h => ⟨rfl, h⟩
  | none :: p, o :: ρ, i + 1, t, h => (show Mt p ρ from h).set (i := i)
  | some u :: p, o :: ρ, 0, t, h => ⟨rfl, h.2⟩
  | some u :: p, o :: ρ, i + 1, t, h => ⟨h.1, h.2.set (i := i)⟩
  | [], [], i, t, h => trivial
  | [], _ :: _, _, _, h => h.elim
  | none :: _, [], _, _, h => h.elim
  | some _ :: _, [], _, _, h => h.elim
theorem Mt.unset : ∀ {p : Pt} {ρ : Env} {i : Nat} {x : Option T}, Mt p ρ → Mt (p.set i none) (ρ.set i x)
  | none :: p, o :: ρ, 0, t, h => h
  | none :: p, o :: ρ, i + 1, t, h => (show Mt p ρ from h).unset (i := i)
  | some u :: p, o :: ρ, 0, t, h => h.2
  | some u :: p, o :: ρ, i + 1, t, h => ⟨h.1, h.2.unset (i := i)⟩
  | [], [], i, t, h => trivial
  | [], _ :: _, _, _, h => h.elim
  | none :: _, [], _, _, h => h.elim
  | some _ :: _, [], _, _, h => h.elim
def Wk : Pt → Pt → Prop
  | [], [] => True
  | _ :: p, none :: q => Wk p q
  | o :: p, some t :: q => o = some t ∧ Wk p q
  | _, _ => False
theorem Wk.mt : ∀ {p q : Pt} {ρ : Env}, Wk p q → Mt p ρ → Mt q ρ
  | [], [], _, _, h => h
  | o :: p, none :: q, x :: ρ, w, h => by
    cases o with
    | none => exact Wk.mt (q := q) w h
    | some t => exact Wk.mt (q := q) w h.2
  | o :: p, some t :: q, x :: ρ, w, h => by
    obtain ⟨e, w⟩ := w
    subst e
    exact ⟨h.1, Wk.mt w h.2⟩
  | none :: p, none :: q, [], w, h => h.elim
  | some _ :: p, none :: q, [], w, h => h.elim
  | none :: p, some _ :: q, [], w, h => h.elim
  | some _ :: p, some _ :: q, [], w, h => h.elim
  | [], _ :: _, _, w, _ => by cases ‹Option T› <;> exact w.elim
  | _ :: _, [], _, w, _ => by exact w.elim
theorem Mt.wipe {p : Pt} {ρ : Env} (h : Mt p ρ) : ∀ {vs : List Nat}, Mt (wipeE p vs) (wipeE ρ vs)
  | [] => h
  | v :: vs => (h.wipe (vs := vs)).unset

/-! ### what is left to be run -/
def J {Y α : Type} (p : Pt) (G : Env → R Y) (t : R α) (Rel : α → Y → Prop) : Prop := ∀ ρ, Mt p ρ → Rf (G ρ) t Rel
section
variable {Y α β γ : Type}
def B (m : MEx) (K : T → Env → R Y) : Env → R Y := fun ρ => (m ρ).bind fun x => K x.1 x.2
def Bp (m : MP) (K : T → Env → R Y) : Env → R Y := fun ρ => (ofO (m ρ)).bind fun x => K x ρ
def Ba (m : MA) (K : List T → Env → R Y) : Env → R Y := fun ρ => (m ρ).bind fun x => K x.1 x.2
def Bpa (m : MPA) (K : List T → Env → R Y) : Env → R Y := fun ρ => (ofO (m ρ)).bind fun x => K x ρ
def Bb (m : MB) (K : List (Option T) → Env → R Y) : Env → R Y := fun ρ => (m ρ).bind fun x => K x.1 x.2
def Bt (m : MT) (K : Bool → Env → R Y) : Env → R Y := fun ρ => (m ρ).bind fun x => K x.1 x.2
def Bi (m : MI) (K : List T → Env → R Y) : Env → R Y := fun ρ => (m ρ).bind fun x => K x.1 x.2
def Bo (r : R RV) (K : T → Env → R Y) : Env → R Y := fun ρ => r.bind fun z => K z.toT ρ
def Bv (r : R RV) (K : T → Env → R Y) : Env → R Y := fun ρ => (ofO (okV r)).bind fun v => K v ρ
def Bg (g : MG) (v : T) (K : Env → R Y) : Env → R Y := fun ρ => (ofO (g v ρ)).bind K
def Bgs (g : MGs) (v : List T) (K : Env → R Y) : Env → R Y := fun ρ => (ofO (g v ρ)).bind K
structure SK (Y : Type) where
  nx : Env → R Y
  rt : T → Env → R Y
  bk : Env → R Y
  ct : Env → R Y
def SK.ap (κ : SK Y) : Out → R Y
  | .next ρ => κ.nx ρ
  | .ret t ρ => κ.rt t ρ
  | .brk ρ => κ.bk ρ
  | .cont ρ => κ.ct ρ
def Bs (s : MS) (κ : SK Y) : Env → R Y := fun ρ => (s ρ).bind κ.ap
def iteG (b : Bool) (G1 G2 : Env → R Y) : Env → R Y := fun ρ => if b = true then G1 ρ else G2 ρ
variable {p : Pt} {t t2 : R α} {Rel : α → Y → Prop} {K : T → Env → R Y} {i : Nat}
theorem J.eq {G G' : Env → R Y} (e : G = G') (h : J p G' t Rel) : J p G t Rel := by rw [e]; exact h
theorem J.wk {q : Pt} {G : Env → R Y} (w : Wk p q) (h : J q G t Rel) : J p G t Rel := fun ρ m => h ρ (w.mt m)
theorem x_d {v : PyData} (e : p[i]? = some (some (.d v))) (h : J p (K (.d v)) t Rel) : J p (B (mVar i) K) t Rel := fun ρ m => by
  show Rf ((mVar i ρ).bind _) t Rel
  rw [e_mVar, m.get e]
  exact h ρ m
theorem x_fz {u : T} {v : PyData} (e : p[i]? = some (some u)) (f : u.fz = some v) (h : J (p.set i (some (.d v))) (K (.d v)) t Rel) : J p (B (mVar i) K) t Rel := fun ρ m => by
  show Rf ((mVar i ρ).bind _) t Rel
  rw [e_mVar, m.get e]
  have hs := h _ (m.set (i := i) (t := .d v))
  cases u with
  | d x =>
    simp at f
    subst f
    have : ρ.set i (some (T.d x)) = ρ := by
      have hg := m.get e
      obtain ⟨hi, hx⟩ := List.getElem?_eq_some_iff.mp hg
      rw [← hx]; simp
    rw [this] at hs
    exact hs
  | ol ts => rw [e_varKo, f]; exact hs
  | ot ts => rw [e_varKt, f]; exact hs
  | od _ _ => simp [T.fz] at f
  | rd _ => simp [T.fz] at f
  | ex _ => simp [T.fz] at f
  | ob _ _ _ => simp [T.fz] at f
theorem x_move {u : T} (e : p[i]? = some (some u)) (h : J (p.set i none) (K u) t Rel) : J p (B (mMove i) K) t Rel := fun ρ m => by
  show Rf ((mMove i ρ).bind _) t Rel
  rw [e_mMove, m.get e]
  exact h _ m.unset
theorem x_rd {ds : List PyData} (e : p[i]? = some (some (.rd ds))) (h : J p (K (.rd ds)) t Rel) : J p (B (mRd i) K) t Rel := fun ρ m => by
  show Rf ((mRd i ρ).bind _) t Rel
  rw [e_mRd, m.get e]
  exact h _ m
def onlyD (K : T → Env → R Y) : T → Env → R Y := fun v => match v with
  | .d x => K (.d x)
  | _ => fun _ => .bad
theorem x_lift {m : MP} (h : J p (Bp m (onlyD K)) t Rel) : J p (B (mLift m) K) t Rel := fun ρ hm => by
  have := h ρ hm
  show Rf ((mLift m ρ).bind _) t Rel
  unfold Bp at this
  rw [e_lift]
  cases e : m ρ with
  | none => rw [e] at this; exact this
  | some u =>
    rw [e] at this
    cases u <;> exact this
theorem x_onlyD {x : PyData} (h : J p (K (.d x)) t Rel) : J p (onlyD K (.d x)) t Rel := h
theorem x_bin {op : T → T → R RV} {a b : MEx} (h : J p (B a fun x => B b fun y => Bo (op x y) K) t Rel) : J p (B (mBin op a b) K) t Rel := fun ρ m => by
  have := h ρ m
  simpa [B, Bo, mBin] using this
theorem x_un {op : T → R RV} {a : MEx} (h : J p (B a fun x => Bo (op x) K) t Rel) : J p (B (mUn op a) K) t Rel := fun ρ m => by
  have := h ρ m
  simpa [B, Bo, mUn] using this
theorem x_tup {a : MA} (h : J p (Ba a fun xs => K (mkTup xs)) t Rel) : J p (B (mTup a) K) t Rel := fun ρ m => by
  have := h ρ m
  simpa [B, Ba, mTup] using this
theorem x_lst {a : MA} (h : J p (Ba a fun xs => K (.ol xs)) t Rel) : J p (B (mLst a) K) t Rel := fun ρ m => by
  have := h ρ m
  simpa [B, Ba, mLst] using this
def frz (K : T → Env → R Y) : T → Env → R Y := fun v => match v.fz with
  | some x => K (.d x)
  | none => fun _ => .bad
theorem x_mfz {a : MEx} (h : J p (B a (frz K)) t Rel) : J p (B (mFz a) K) t Rel := fun ρ m => by
  have := h ρ m
  show Rf ((mFz a ρ).bind _) t Rel
  have e : (mFz a ρ).bind (fun x => K x.1 x.2) = (a ρ).bind fun x => frz K x.1 x.2 := by
    unfold mFz
    rw [bind_assocS]
    congr 1
    funext x
    unfold frz
    cases x.1.fz <;> rfl
  rw [e]
  exact this
theorem x_frz {u : T} {v : PyData} (f : u.fz = some v) (h : J p (K (.d v)) t Rel) : J p (frz K u) t Rel := by
  unfold frz
  rw [f]
  exact h
theorem x_callB {op : List T → R RV} {a : MA} (h : J p (Ba a fun xs => Bo (op xs) K) t Rel) : J p (B (mCallB op a) K) t Rel := fun ρ m => by
  have := h ρ m
  simpa [B, Ba, Bo, mCallB] using this
theorem a_nil {K : List T → Env → R Y} (h : J p (K []) t Rel) : J p (Ba mNil K) t Rel := h
theorem a_cons {K : List T → Env → R Y} {a : MEx} {r : MA} (h : J p (B a fun x => Ba r fun xs => K (x :: xs)) t Rel) : J p (Ba (mCons a r) K) t Rel := fun ρ m => by
  have := h ρ m
  simpa [B, Ba, mCons] using this
theorem z_nil {K : List T → Env → R Y} (h : J p (K []) t Rel) : J p (Bpa pNil K) t Rel := h
theorem z_cons {K : List T → Env → R Y} {a : MP} {r : MPA} (h : J p (Bp a fun x => Bpa r fun xs => K (x :: xs)) t Rel) : J p (Bpa (pCons a r) K) t Rel := fun ρ m => by
  have := h ρ m
  simp only [Bp, Bpa] at this ⊢
  have e : pCons a r ρ = (a ρ).bind fun x => (r ρ).bind fun y => some (x :: y) := rfl
  rw [e]
  cases e1 : a ρ with
  | none => rw [e1] at this; exact this
  | some x =>
    rw [e1] at this
    cases e2 : r ρ with
    | none => simp [e2] at this ⊢; exact this
    | some y => simp [e2] at this ⊢; exact this
theorem p_var {u : T} (e : p[i]? = some (some u)) (h : J p (K u) t Rel) : J p (Bp (pVar i) K) t Rel := fun ρ m => by
  show Rf ((ofO (pVar i ρ)).bind _) t Rel
  rw [e_pVar, m.get e]
  exact h ρ m
theorem p_c {x : PyData} (h : J p (K (.d x)) t Rel) : J p (Bp (pC x) K) t Rel := h
theorem p_cv {x v : PyData} (e : x = v) (h : J p (K (.d v)) t Rel) : J p (Bp (pC x) K) t Rel := by subst e; exact h
theorem p_bin {op : T → T → R RV} {a b : MP} (h : J p (Bp a fun x => Bp b fun y => Bv (op x y) K) t Rel) : J p (Bp (pBin op a b) K) t Rel := fun ρ m => by
  have := h ρ m
  simp only [Bp, Bv] at this ⊢
  rw [e_pBin]
  cases e1 : a ρ with
  | none => rw [e1] at this; exact this
  | some x =>
    cases e2 : b ρ with
    | none => simp [e1, e2] at this ⊢; exact this
    | some y => simp [e1, e2] at this ⊢; exact this
theorem p_un {op : T → R RV} {a : MP} (h : J p (Bp a fun x => Bv (op x) K) t Rel) : J p (Bp (pUn op a) K) t Rel := fun ρ m => by
  have := h ρ m
  simp only [Bp, Bv] at this ⊢
  rw [e_pUn]
  cases e1 : a ρ with
  | none => rw [e1] at this; exact this
  | some x => simp [e1] at this ⊢; exact this
theorem p_callB {op : List T → R RV} {a : MPA} (h : J p (Bpa a fun xs => Bv (op xs) K) t Rel) : J p (Bp (pCallB op a) K) t Rel := fun ρ m => by
  have := h ρ m
  simp only [Bp, Bpa, Bv] at this ⊢
  rw [e_pCallB]
  cases e1 : a ρ with
  | none => rw [e1] at this; exact this
  | some x => simp [e1] at this ⊢; exact this
theorem p_isa {n : String} {a : MP} {b : T → Option Bool} (h : J p (Bp a fun x => fun ρ => (ofO ((isaT n x).map fun b => T.d (.bool b))).bind fun v => K v ρ) t Rel) : J p (Bp (pIsa n a) K) t Rel := fun ρ m => by
  have := h ρ m
  simp only [Bp] at this ⊢
  rw [e_pIsa]
  cases e1 : a ρ with
  | none => rw [e1] at this; exact this
  | some x => simp [e1] at this ⊢; exact this
/-- an operation that goes well -/
theorem o_ok {r : R RV} {z : RV} (e : r = .ok z) (h : J p (K z.toT) t Rel) : J p (Bo r K) t Rel := by subst e; exact h
theorem v_ok {r : R RV} {u : T} (e : r = .ok (.v u)) (h : J p (K u) t Rel) : J p (Bv r K) t Rel := by subst e; exact h
/-- an operation as a typed term -/
structure Ro (r : R RV) (t0 : R β) (Z : β → RV) : Prop where
  nox : ∀ c, t0 ≠ .exc c
  rf : Rf r t0 fun a z => z = Z a
theorem o_r {r : R RV} {t0 : R β} {t1 : β → R α} {Z : β → RV} (e : Ro r t0 Z) (h : ∀ a, J p (K (Z a).toT) (t1 a) Rel) : J p (Bo r K) (t0.bind t1) Rel := fun ρ m => e.rf.bind fun a z ez => by subst ez; exact h a ρ m
theorem v_r {r : R RV} {t0 : R β} {t1 : β → R α} {Z : β → T} (e : Ro r t0 fun a => .v (Z a)) (h : ∀ a, J p (K (Z a)) (t1 a) Rel) : J p (Bv r K) (t0.bind t1) Rel := fun ρ m => by
  have e2 : Rf (ofO (okV r)) t0 fun a v => v = Z a := by
    obtain ⟨nox, e⟩ := e
    cases t0 with
    | bad => exact trivial
    | exc c => exact (nox c rfl).elim
    | ok a =>
      obtain ⟨z, e1, e2⟩ := e
      subst e1
      subst e2
      exact ⟨_, rfl, rfl⟩
  exact e2.bind fun a z ez => by subst ez; exact h a ρ m
/-! tests -/
variable {KB : Bool → Env → R Y}
def onB (KB : Bool → Env → R Y) : T → Env → R Y := fun v => match v with
  | .d (.bool b) => KB b
  | _ => fun _ => .bad
theorem t_test {a : MEx} (h : J p (B a (onB KB)) t Rel) : J p (Bt (mTest a) KB) t Rel := fun ρ m => by
  have := h ρ m
  simp only [B, Bt] at this ⊢
  rw [e_mTest, bind_assocS]
  have e : (fun x : T × Env => (testK x).bind fun y => KB y.1 y.2) = fun x => onB KB x.1 x.2 := by
    funext x
    obtain ⟨v, ρ'⟩ := x
    cases v with
    | d d => cases d <;> rfl
    | _ => rfl
  rw [e]
  exact this
theorem t_onB {b : Bool} (h : J p (KB b) t Rel) : J p (onB KB (.d (.bool b))) t Rel := h
theorem t_truth {a : MP} (h : J p (Bp a fun x => fun ρ => (ofO x.truth).bind fun b => KB b ρ) t Rel) : J p (Bt (mTruth a) KB) t Rel := fun ρ m => by
  have := h ρ m
  simp only [Bp, Bt] at this ⊢
  rw [e_mTruth]
  cases e : a ρ with
  | none => rw [e] at this; exact this
  | some x =>
    rw [e] at this
    simp at this ⊢
    cases e2 : x.truth with
    | none => rw [e2] at this; exact this
    | some b => rw [e2] at this; exact this
theorem t_tru {v : T} {b : Bool} (e : v.truth = some b) (h : J p (KB b) t Rel) : J p (fun ρ => (ofO v.truth).bind fun b => KB b ρ) t Rel := by rw [e]; exact h
theorem t_not {a : MT} (h : J p (Bt a fun b => KB (!b)) t Rel) : J p (Bt (mNot a) KB) t Rel := fun ρ m => by
  have := h ρ m
  simpa [Bt, mNot] using this
theorem t_and {a b : MT} (h : J p (Bt a fun x => iteG x (Bt b KB) (KB false)) t Rel) : J p (Bt (mAnd a b) KB) t Rel := fun ρ m => by
  have := h ρ m
  simp only [Bt] at this ⊢
  rw [e_mAnd, bind_assocS]
  have e : (fun x : Bool × Env => (andK b x).bind fun y => KB y.1 y.2) = fun x => iteG x.1 (Bt b KB) (KB false) x.2 := by
    funext x
    obtain ⟨v, ρ'⟩ := x
    cases v <;> rfl
  rw [e]
  exact this
theorem t_or {a b : MT} (h : J p (Bt a fun x => iteG x (KB true) (Bt b KB)) t Rel) : J p (Bt (mOr a b) KB) t Rel := fun ρ m => by
  have := h ρ m
  simp only [Bt] at this ⊢
  rw [e_mOr, bind_assocS]
  have e : (fun x : Bool × Env => (orK b x).bind fun y => KB y.1 y.2) = fun x => iteG x.1 (KB true) (Bt b KB) x.2 := by
    funext x
    obtain ⟨v, ρ'⟩ := x
    cases v <;> rfl
  rw [e]
  exact this
theorem t_yes (h : J p (KB true) t Rel) : J p (Bt mtYes KB) t Rel := h
theorem g_ite {b : Bool} {c : Prop} [Decidable c] {G1 G2 : Env → R Y} (e : b = decide c) (h1 : c → J p G1 t Rel) (h2 : ¬ c → J p G2 t2 Rel) : J p (iteG b G1 G2) (if c then t else t2) Rel := by
  subst e
  unfold iteG
  by_cases hc : c
  · simp [hc]; exact h1 hc
  · simp [hc]; exact h2 hc
/-- a value's tests -/
theorem x_andV {a b : MEx} (h : J p (Bt (mTest a) fun x => iteG x (B b K) (K (.d (.bool false)))) t Rel) : J p (B (mAndV a b) K) t Rel := fun ρ m => by
  have := h ρ m
  simp only [Bt, B] at this ⊢
  rw [e_mAndV, bind_assocS]
  have e : (fun x : Bool × Env => (andVK b x).bind fun y => K y.1 y.2) = fun x => iteG x.1 (B b K) (K (.d (.bool false))) x.2 := by
    funext x
    obtain ⟨v, ρ'⟩ := x
    cases v <;> rfl
  rw [e]
  exact this
theorem x_orV {a b : MEx} (h : J p (Bt (mTest a) fun x => iteG x (K (.d (.bool true))) (B b K)) t Rel) : J p (B (mOrV a b) K) t Rel := fun ρ m => by
  have := h ρ m
  simp only [Bt, B] at this ⊢
  rw [e_mOrV, bind_assocS]
  have e : (fun x : Bool × Env => (orVK b x).bind fun y => K y.1 y.2) = fun x => iteG x.1 (K (.d (.bool true))) (B b K) x.2 := by
    funext x
    obtain ⟨v, ρ'⟩ := x
    cases v <;> rfl
  rw [e]
  exact this
theorem x_notV {a : MEx} (h : J p (Bt (mTest a) fun x => K (.d (.bool (!x)))) t Rel) : J p (B (mNotV a) K) t Rel := fun ρ m => by
  have := h ρ m
  simpa [Bt, B, mNotV] using this
theorem x_if {a b : MEx} {c : MT} (h : J p (Bt c fun x => iteG x (B a K) (B b K)) t Rel) : J p (B (mIf c a b) K) t Rel := fun ρ m => by
  have := h ρ m
  simp only [Bt, B] at this ⊢
  rw [e_mIf, bind_assocS]
  have e : (fun x : Bool × Env => (ifeK a b x).bind fun y => K y.1 y.2) = fun x => iteG x.1 (B a K) (B b K) x.2 := by
    funext x
    obtain ⟨v, ρ'⟩ := x
    cases v <;> rfl
  rw [e]
  exact this
/-- cuts: what is ahead is a typed term of its own -/
def endV (F : β → T) (q : β → Pt) : β → T × Env → Prop := fun a x => x.1 = F a ∧ Mt (q a) x.2
abbrev kV : T → Env → R (T × Env) := fun v ρ => .ok (v, ρ)
theorem x_cut {m : MEx} {t0 : R β} {t1 : β → R α} {F : β → T} {q : β → Pt} (h0 : J p (B m kV) t0 (endV F q)) (h : ∀ a, J (q a) (K (F a)) (t1 a) Rel) : J p (B m K) (t0.bind t1) Rel := fun ρ hm => by
  have h0 := h0 ρ hm
  have e : B m kV ρ = m ρ := by
    unfold B
    cases m ρ <;> rfl
  rw [e] at h0
  exact h0.bind fun a x ⟨e1, e2⟩ => by
    rw [e1]
    exact h a _ e2
def endB (q : Pt) : Bool → Bool × Env → Prop := fun a x => x.1 = a ∧ Mt q x.2
abbrev kB : Bool → Env → R (Bool × Env) := fun v ρ => .ok (v, ρ)
theorem t_cut {m : MT} {t0 : R Bool} {t1 : Bool → R α} {q : Pt} (h0 : J p (Bt m kB) t0 (endB q)) (h : ∀ a, J q (KB a) (t1 a) Rel) : J p (Bt m KB) (t0.bind t1) Rel := fun ρ hm => by
  have h0 := h0 ρ hm
  have e : Bt m kB ρ = m ρ := by
    unfold Bt
    cases m ρ <;> rfl
  rw [e] at h0
  exact h0.bind fun a x ⟨e1, e2⟩ => by
    rw [e1]
    exact h a _ e2
theorem e_v {F : β → T} {q : β → Pt} {v : T} {a : β} (e : v = F a) (w : Wk p (q a)) : J p (kV v) (.ok a) (endV F q) := fun ρ m => ⟨_, rfl, e, w.mt m⟩
theorem e_b {q : Pt} {a : Bool} (w : Wk p q) : J p (kB a) (.ok a) (endB q) := fun ρ m => ⟨_, rfl, rfl, w.mt m⟩
/-! targets -/
variable {KE : Env → R Y}
theorem g_name {v : T} (h : J (p.set i (some v)) KE t Rel) : J p (Bg (mgName i) v KE) t Rel := fun ρ m => h _ m.set
theorem g_tup {n : Nat} {r : MGs} {v : T} {vs : List T} (e : v.parts = some vs) (l : vs.length = n) (h : J p (Bgs r vs KE) t Rel) : J p (Bg (mgTup n r) v KE) t Rel := fun ρ m => by
  have := h ρ m
  simp only [Bg, Bgs] at this ⊢
  rw [e_mgTup, e, e_gTupK, if_pos l]
  exact this
theorem g_lst {n : Nat} {r : MGs} {ds : List PyData} (l : ds.length = n) (h : J p (Bgs r (ds.map .d) KE) t Rel) : J p (Bg (mgLst n r) (.d (.list ds)) KE) t Rel := fun ρ m => by
  have := h ρ m
  simp only [Bg, Bgs] at this ⊢
  rw [e_mgLst, if_pos l]
  exact this
theorem g_nil (h : J p KE t Rel) : J p (Bgs mgNil [] KE) t Rel := h
theorem g_cons {g : MG} {r : MGs} {v : T} {vs : List T} (h : J p (Bg g v (Bgs r vs KE)) t Rel) : J p (Bgs (mgCons g r) (v :: vs) KE) t Rel := fun ρ m => by
  have := h ρ m
  simp only [Bg, Bgs] at this ⊢
  rw [e_mgCons]
  cases e : g v ρ with
  | none => rw [e] at this; exact this
  | some x => rw [e] at this; simp; exact this
/-! statements -/
variable {κ : SK Y}
theorem s_next (h : J p κ.nx t Rel) : J p (Bs mNext κ) t Rel := h
theorem s_brk (h : J p κ.bk t Rel) : J p (Bs mBrk κ) t Rel := h
theorem s_cont (h : J p κ.ct t Rel) : J p (Bs mCont κ) t Rel := h
theorem s_seq {a b : MS} (h : J p (Bs a ⟨Bs b κ, κ.rt, κ.bk, κ.ct⟩) t Rel) : J p (Bs (mSeq a b) κ) t Rel := fun ρ m => by
  have := h ρ m
  simp only [Bs] at this ⊢
  rw [e_mSeq, bind_assocS]
  have e : (fun x : Out => (seqK b x).bind κ.ap) = (⟨fun ρ => (b ρ).bind κ.ap, κ.rt, κ.bk, κ.ct⟩ : SK Y).ap := by
    funext x
    cases x <;> rfl
  rw [e]
  exact this
theorem s_ret {a : MEx} (h : J p (B a κ.rt) t Rel) : J p (Bs (mRet a) κ) t Rel := fun ρ m => by
  have := h ρ m
  simpa [Bs, B, mRet, SK.ap] using this
theorem s_drop {a : MEx} (h : J p (B a fun _ => κ.nx) t Rel) : J p (Bs (mDrop a) κ) t Rel := fun ρ m => by
  have := h ρ m
  simpa [Bs, B, mDrop, SK.ap] using this
theorem s_asg {a : MEx} {g : MG} (h : J p (B a fun v => Bg g v κ.nx) t Rel) : J p (Bs (mAsg a g) κ) t Rel := fun ρ m => by
  have := h ρ m
  simpa [Bs, B, Bg, mAsg, SK.ap] using this
theorem s_if {a b : MS} {c : MT} (h : J p (Bt c fun x => iteG x (Bs a κ) (Bs b κ)) t Rel) : J p (Bs (mIfS c a b) κ) t Rel := fun ρ m => by
  have := h ρ m
  simp only [Bt, Bs] at this ⊢
  rw [e_mIfS, bind_assocS]
  have e : (fun x : Bool × Env => (ifK a b x).bind κ.ap) = fun x => iteG x.1 (Bs a κ) (Bs b κ) x.2 := by
    funext x
    obtain ⟨v, ρ'⟩ := x
    cases v <;> rfl
  rw [e]
  exact this
def onPar (i j : Nat) (KE : Env → R Y) : List T → Env → R Y := fun ts => match ts with
  | [u, v] => fun ρ => KE ((ρ.set i (some u)).set j (some v))
  | _ => fun _ => .bad
theorem s_par {j : Nat} {m : MA} (h : J p (Ba m (onPar i j κ.nx)) t Rel) : J p (Bs (mPar i j m) κ) t Rel := fun ρ hm => by
  have := h ρ hm
  simp only [Ba, Bs] at this ⊢
  rw [e_mPar, bind_assocS]
  have e : (fun x : List T × Env => (parK i j x).bind κ.ap) = fun x => onPar i j κ.nx x.1 x.2 := by
    funext x
    obtain ⟨v, ρ'⟩ := x
    match v with
    | [] => rfl
    | [_] => rfl
    | [_, _] => rfl
    | _ :: _ :: _ :: _ => rfl
  rw [e]
  exact this
theorem s_par2 {j : Nat} {u v : T} (h : J ((p.set i (some u)).set j (some v)) KE t Rel) : J p (onPar i j KE [u, v]) t Rel := fun ρ m => h _ m.set.set
theorem s_aug {f : Int → Int → Int} {m : MP} {x : Int} (e : p[i]? = some (some (.d (.int x)))) (h : J p (Bp m (onlyD fun v => fun ρ => match v with | .d (.int y) => κ.nx (ρ.set i (some (.d (.int (f x y))))) | _ => .bad)) t Rel) : J p (Bs (mAug i f m) κ) t Rel := fun ρ hm => by
  have := h ρ hm
  simp only [Bp, Bs] at this ⊢
  rw [e_mAug, hm.get e]
  cases e1 : m ρ with
  | none => rw [e1] at this; exact this
  | some u =>
    rw [e1] at this
    cases u with
    | d d => cases d <;> exact this
    | _ => exact this
theorem s_aug2 {f : Int → Int → Int} {x y : Int} (h : J (p.set i (some (.d (.int (f x y))))) KE t Rel) : J p (onlyD (fun v => fun ρ => match v with | .d (.int y) => KE (ρ.set i (some (.d (.int (f x y))))) | _ => .bad) (.d (.int y))) t Rel := fun ρ m => h _ m.set
theorem s_raise {x : Str} : J p (Bs (mRaise x) κ) (.exc x : R α) Rel := fun ρ m => rfl
theorem s_never : J p (Bs mNever κ) (.bad : R α) Rel := fun ρ m => trivial
/-- cuts of statements -/
inductive Fl (σ ρ : Type) where
  | nx (s : σ) | rt (r : ρ) | bk (s : σ)
abbrev kO : SK Out := ⟨fun ρ => .ok (.next ρ), fun v ρ => .ok (.ret v ρ), fun ρ => .ok (.brk ρ), fun ρ => .ok (.cont ρ)⟩
theorem kO_ap {s : MS} {ρ : Env} : Bs s kO ρ = s ρ := by
  unfold Bs
  cases s ρ with
  | ok o => cases o <;> rfl
  | _ => rfl
def endN (q : β → Pt) : β → Out → Prop := fun a o => ∃ ρ, o = .next ρ ∧ Mt (q a) ρ
def endC (q : β → Pt) : β → Out → Prop := fun a o => ∃ ρ, (o = .next ρ ∨ o = .cont ρ) ∧ Mt (q a) ρ
def endF (q : β → Pt) (F : γ → T) (qr : γ → Pt) : Fl β γ → Out → Prop := fun f o => match f with
  | .nx a => ∃ ρ, (o = .next ρ ∨ o = .cont ρ) ∧ Mt (q a) ρ
  | .rt r => ∃ ρ, o = .ret (F r) ρ ∧ Mt (qr r) ρ
  | .bk a => ∃ ρ, o = .brk ρ ∧ Mt (q a) ρ
def endR (q : β → Pt) (F : γ → T) (qr : γ → Pt) : Fl β γ → Out → Prop := fun f o => match f with
  | .nx a => ∃ ρ, o = .next ρ ∧ Mt (q a) ρ
  | .rt r => ∃ ρ, o = .ret (F r) ρ ∧ Mt (qr r) ρ
  | .bk _ => False
theorem s_cut {s : MS} {t0 : R β} {t1 : β → R α} {q : β → Pt} (h0 : J p (Bs s kO) t0 (endN q)) (h : ∀ a, J (q a) κ.nx (t1 a) Rel) : J p (Bs s κ) (t0.bind t1) Rel := fun ρ hm => by
  have h0 := h0 ρ hm
  rw [kO_ap] at h0
  exact h0.bind fun a x ⟨ρ', e1, e2⟩ => by
    subst e1
    exact h a _ e2
/-- a block that may end the function -/
def Fl.on {σ ρ A : Type} (f : Fl σ ρ) (k : σ → A) (kr : ρ → A) : A := match f with
  | .nx s => k s
  | .rt r => kr r
  | .bk s => k s
theorem s_cutR {s : MS} {t0 : R (Fl β γ)} {t1 : β → R α} {tr : γ → R α} {q : β → Pt} {F : γ → T} {qr : γ → Pt} (h0 : J p (Bs s kO) t0 (endR q F qr)) (h : ∀ a, J (q a) κ.nx (t1 a) Rel) (hr : ∀ r, J (qr r) (κ.rt (F r)) (tr r) Rel) : J p (Bs s κ) (t0.bind fun f => f.on t1 tr) Rel := fun ρ hm => by
  have h0 := h0 ρ hm
  rw [kO_ap] at h0
  refine h0.bind fun f x e => ?_
  cases f with
  | nx a =>
    obtain ⟨ρ', e1, e2⟩ := e
    subst e1
    exact h a _ e2
  | rt r =>
    obtain ⟨ρ', e1, e2⟩ := e
    subst e1
    exact hr r _ e2
  | bk _ => exact e.elim
theorem e_n {q : β → Pt} {a : β} (w : Wk p (q a)) : J p kO.nx (.ok a) (endN q) := fun ρ m => ⟨_, rfl, ρ, rfl, w.mt m⟩
theorem e_rN {q : β → Pt} {F : γ → T} {qr : γ → Pt} {a : β} (w : Wk p (q a)) : J p kO.nx (.ok (.nx a)) (endR q F qr) := fun ρ m => ⟨_, rfl, ρ, rfl, w.mt m⟩
theorem e_rR {q : β → Pt} {F : γ → T} {qr : γ → Pt} {v : T} {a : γ} (e : v = F a) (w : Wk p (qr a)) : J p (kO.rt v) (.ok (.rt a)) (endR q F qr) := fun ρ m => ⟨_, rfl, ρ, by rw [e], w.mt m⟩
theorem e_cN {q : β → Pt} {a : β} (w : Wk p (q a)) : J p kO.nx (.ok a) (endC q) := fun ρ m => ⟨_, rfl, ρ, .inl rfl, w.mt m⟩
theorem e_cC {q : β → Pt} {a : β} (w : Wk p (q a)) : J p kO.ct (.ok a) (endC q) := fun ρ m => ⟨_, rfl, ρ, .inr rfl, w.mt m⟩
theorem e_fN {q : β → Pt} {F : γ → T} {qr : γ → Pt} {a : β} (w : Wk p (q a)) : J p kO.nx (.ok (.nx a)) (endF q F qr) := fun ρ m => ⟨_, rfl, ρ, .inl rfl, w.mt m⟩
theorem e_fC {q : β → Pt} {F : γ → T} {qr : γ → Pt} {a : β} (w : Wk p (q a)) : J p kO.ct (.ok (.nx a)) (endF q F qr) := fun ρ m => ⟨_, rfl, ρ, .inr rfl, w.mt m⟩
theorem e_fR {q : β → Pt} {F : γ → T} {qr : γ → Pt} {v : T} {a : γ} (e : v = F a) (w : Wk p (qr a)) : J p (kO.rt v) (.ok (.rt a)) (endF q F qr) := fun ρ m => ⟨_, rfl, ρ, by rw [e], w.mt m⟩
theorem e_fB {q : β → Pt} {F : γ → T} {qr : γ → Pt} {a : β} (w : Wk p (q a)) : J p kO.bk (.ok (.bk a)) (endF q F qr) := fun ρ m => ⟨_, rfl, ρ, rfl, w.mt m⟩
end
/-! ### loops -/
section
variable {Y α β γ σ A : Type}
/-- a loop that goes through -/
def tFold (f : σ → A → R σ) : List A → σ → R σ
  | [], s => .ok s
  | x :: xs, s => (f s x).bind (tFold f xs)
/-- a loop that may be left -/
def tLoop (f : σ → A → R (Fl σ γ)) : List A → σ → R (Fl σ γ)
  | [], s => .ok (.nx s)
  | x :: xs, s => (f s x).bind fun r => match r with
    | .nx s => tLoop f xs s
    | .bk s => .ok (.nx s)
    | .rt r => .ok (.rt r)
def Blp (g : MG) (b : MS) (items : List T) (κ : SK Y) : Env → R Y := fun ρ => (mLoop g b items ρ).bind κ.ap
variable {p : Pt} {t : R α} {Rel : α → Y → Prop} {κ : SK Y}
theorem s_for {mi : MI} {g : MG} {b : MS} (h : J p (Bi mi fun items => Blp g b items κ) t Rel) : J p (Bs (mFor mi g b) κ) t Rel := fun ρ m => by
  have := h ρ m
  simpa [Bs, Bi, Blp, mFor] using this
theorem loop_rf {g : MG} {b : MS} {F : A → T} {q : σ → Pt} {f : σ → A → R σ} (hb : ∀ s x, J (q s) (Bg g (F x) (Bs b kO)) (f s x) (endC q)) : ∀ (xs : List A) (s : σ) (ρ : Env), Mt (q s) ρ → Rf (mLoop g b (xs.map F) ρ) (tFold f xs s) (endN q)
  | [], s, ρ, m => ⟨_, rfl, ρ, rfl, m⟩
  | x :: xs, s, ρ, m => by
    have h := hb s x ρ m
    have e : mLoop g b ((x :: xs).map F) ρ = (Bg g (F x) (Bs b kO) ρ).bind (loopK2 g b (xs.map F)) := by
      rw [List.map_cons, e_loopC]
      unfold Bg
      rw [bind_assocS]
      congr 1
      funext ρ1
      rw [kO_ap]
      rfl
    rw [e]
    refine h.bind fun s' o ho => ?_
    obtain ⟨ρ', e1, e2⟩ := ho
    rcases e1 with e1 | e1 <;> (subst e1; exact loop_rf hb xs s' ρ' e2)
theorem loop_rfR {g : MG} {b : MS} {F : A → T} {q : σ → Pt} {FR : γ → T} {qr : γ → Pt} {f : σ → A → R (Fl σ γ)} (hb : ∀ s x, J (q s) (Bg g (F x) (Bs b kO)) (f s x) (endF q FR qr)) : ∀ (xs : List A) (s : σ) (ρ : Env), Mt (q s) ρ → Rf (mLoop g b (xs.map F) ρ) (tLoop f xs s) (endR q FR qr)
  | [], s, ρ, m => ⟨_, rfl, ρ, rfl, m⟩
  | x :: xs, s, ρ, m => by
    have h := hb s x ρ m
    have e : mLoop g b ((x :: xs).map F) ρ = (Bg g (F x) (Bs b kO) ρ).bind (loopK2 g b (xs.map F)) := by
      rw [List.map_cons, e_loopC]
      unfold Bg
      rw [bind_assocS]
      congr 1
      funext ρ1
      rw [kO_ap]
      rfl
    rw [e]
    refine h.bind fun s' o ho => ?_
    cases s' with
    | nx s' =>
      obtain ⟨ρ', e1, e2⟩ := ho
      rcases e1 with e1 | e1 <;> (subst e1; exact loop_rfR hb xs s' ρ' e2)
    | rt r =>
      obtain ⟨ρ', e1, e2⟩ := ho
      subst e1
      exact ⟨_, rfl, ρ', rfl, e2⟩
    | bk s' =>
      obtain ⟨ρ', e1, e2⟩ := ho
      subst e1
      exact ⟨_, rfl, ρ', rfl, e2⟩
theorem l_for {g : MG} {b : MS} {F : A → T} {xs : List A} {q : σ → Pt} {f : σ → A → R σ} {s0 : σ} {t1 : σ → R α} (w : Wk p (q s0)) (hb : ∀ s x, J (q s) (Bg g (F x) (Bs b kO)) (f s x) (endC q)) (h : ∀ s, J (q s) κ.nx (t1 s) Rel) : J p (Blp g b (xs.map F) κ) ((tFold f xs s0).bind t1) Rel := fun ρ m =>
  (loop_rf hb xs s0 ρ (w.mt m)).bind fun s o ⟨ρ', e1, e2⟩ => by subst e1; exact h s ρ' e2
theorem l_forR {g : MG} {b : MS} {F : A → T} {xs : List A} {q : σ → Pt} {FR : γ → T} {qr : γ → Pt} {f : σ → A → R (Fl σ γ)} {s0 : σ} {t1 : σ → R α} {tr : γ → R α} (w : Wk p (q s0)) (hb : ∀ s x, J (q s) (Bg g (F x) (Bs b kO)) (f s x) (endF q FR qr)) (h : ∀ s, J (q s) κ.nx (t1 s) Rel) (hr : ∀ r, J (qr r) (κ.rt (FR r)) (tr r) Rel) : J p (Blp g b (xs.map F) κ) ((tLoop f xs s0).bind fun z => z.on t1 tr) Rel := fun ρ m =>
  (loop_rfR hb xs s0 ρ (w.mt m)).bind fun z o e => by
    cases z with
    | nx s => obtain ⟨ρ', e1, e2⟩ := e; subst e1; exact h s ρ' e2
    | rt r => obtain ⟨ρ', e1, e2⟩ := e; subst e1; exact hr r ρ' e2
    | bk _ => exact e.elim
/-! while -/
def tWhileN (c : σ → R Bool) (f : σ → R (Fl σ γ)) : Nat → σ → R (Fl σ γ)
  | 0, _ => .bad
  | n + 1, s => (c s).bind fun b => if b = true then (f s).bind fun r => match r with
    | .nx s => tWhileN c f n s
    | .bk s => .ok (.nx s)
    | .rt r => .ok (.rt r) else .ok (.nx s)
open Classical in
noncomputable def tWhile (c : σ → R Bool) (f : σ → R (Fl σ γ)) : σ → R (Fl σ γ) := fun s => if h : ∃ n, tWhileN c f n s ≠ .bad then tWhileN c f (Classical.choose h) s else .bad
theorem whileN_rf {mt : MT} {mb : MS} {q : σ → Pt} {FR : γ → T} {qr : γ → Pt} {c : σ → R Bool} {f : σ → R (Fl σ γ)} (hc : ∀ s, J (q s) (Bt mt kB) (c s) (endB (q s))) (hb : ∀ s, J (q s) (Bs mb kO) (f s) (endF q FR qr)) : ∀ (n : Nat) (s : σ) (ρ : Env), Mt (q s) ρ → tWhileN c f n s ≠ .bad → Rf (mWhile mt mb ρ) (tWhileN c f n s) (endR q FR qr)
  | 0, s, ρ, m, hn => (hn rfl).elim
  | n + 1, s, ρ, m, hn => by
    have h := hc s ρ m
    have e : Bt mt kB ρ = mt ρ := by
      unfold Bt
      cases mt ρ <;> rfl
    rw [e] at h
    rw [mWhile_eq]
    unfold tWhileN at hn ⊢
    cases ec : c s with
    | bad => rw [ec] at hn; exact (hn rfl).elim
    | exc x =>
      rw [ec] at h
      have h : mt ρ = .exc x := h
      rw [h]; exact rfl
    | ok b =>
      rw [ec] at h hn
      obtain ⟨⟨b', ρ1⟩, e1, e2, e3⟩ := h
      rw [e1]
      simp only [bind_okS] at hn ⊢
      have e2 : b' = b := e2
      subst e2
      have e3 : Mt (q s) ρ1 := e3
      cases b' with
      | false => exact ⟨_, rfl, ρ1, rfl, e3⟩
      | true =>
        simp only [if_true] at hn ⊢
        have h2 := hb s ρ1 e3
        rw [kO_ap] at h2
        cases ef : f s with
        | bad => rw [ef] at hn; exact (hn rfl).elim
        | exc x =>
          rw [ef] at h2
          have h2 : mb ρ1 = .exc x := h2
          rw [h2]; exact rfl
        | ok r =>
          rw [ef] at h2 hn
          obtain ⟨o, e4, e5⟩ := h2
          rw [e4]
          cases r with
          | nx s' =>
            obtain ⟨ρ', e6, e7⟩ := e5
            rcases e6 with e6 | e6 <;> (subst e6; exact whileN_rf hc hb n s' ρ' e7 hn)
          | rt r =>
            obtain ⟨ρ', e6, e7⟩ := e5
            subst e6
            exact ⟨_, rfl, ρ', rfl, e7⟩
          | bk s' =>
            obtain ⟨ρ', e6, e7⟩ := e5
            subst e6
            exact ⟨_, rfl, ρ', rfl, e7⟩
theorem while_rf {mt : MT} {mb : MS} {q : σ → Pt} {FR : γ → T} {qr : γ → Pt} {c : σ → R Bool} {f : σ → R (Fl σ γ)} (hc : ∀ s, J (q s) (Bt mt kB) (c s) (endB (q s))) (hb : ∀ s, J (q s) (Bs mb kO) (f s) (endF q FR qr)) (s : σ) (ρ : Env) (m : Mt (q s) ρ) : Rf (mWhile mt mb ρ) (tWhile c f s) (endR q FR qr) := by
  unfold tWhile
  split
  · rename_i h
    exact whileN_rf hc hb _ s ρ m (Classical.choose_spec h)
  · exact trivial
theorem s_while {mt : MT} {mb : MS} {q : σ → Pt} {FR : γ → T} {qr : γ → Pt} {c : σ → R Bool} {f : σ → R (Fl σ γ)} {s0 : σ} {t1 : σ → R α} {tr : γ → R α} (w : Wk p (q s0)) (hc : ∀ s, J (q s) (Bt mt kB) (c s) (endB (q s))) (hb : ∀ s, J (q s) (Bs mb kO) (f s) (endF q FR qr)) (h : ∀ s, J (q s) κ.nx (t1 s) Rel) (hr : ∀ r, J (qr r) (κ.rt (FR r)) (tr r) Rel) : J p (Bs (mWhile mt mb) κ) ((tWhile c f s0).bind fun z => z.on t1 tr) Rel := fun ρ m =>
  (while_rf hc hb s0 ρ (w.mt m)).bind fun z o e => by
    cases z with
    | nx s => obtain ⟨ρ', e1, e2⟩ := e; subst e1; exact h s ρ' e2
    | rt r => obtain ⟨ρ', e1, e2⟩ := e; subst e1; exact hr r ρ' e2
    | bk _ => exact e.elim
/-! comprehensions: the state is what the elements change -/
def tLc (f : σ → A → R (Option β × σ)) : List A → List β → σ → R (List β × σ)
  | [], acc, s => .ok (acc, s)
  | x :: xs, acc, s => (f s x).bind fun r => tLc f xs (acc ++ r.1.toList) r.2
/-- the one that changes nothing -/
def tMap (f : A → R β) : List A → R (List β)
  | [] => .ok []
  | x :: xs => (f x).bind fun y => (tMap f xs).bind fun ys => .ok (y :: ys)
def tFm (f : A → R (Option β)) : List A → R (List β)
  | [] => .ok []
  | x :: xs => (f x).bind fun y => (tFm f xs).bind fun ys => .ok (y.toList ++ ys)
/-- an element: put, asked, told -/
def Bel (g : MG) (mt : MT) (me : MEx) (vs : List Nat) (x : T) : Env → R (Option T × Env) := fun ρ => (ofO (g x (wipeE ρ vs))).bind fun ρ1 => (mt ρ1).bind fun r => if r.1 = true then (me r.2).bind fun y => .ok (some y.1, y.2) else .ok (none, r.2)
def endE (G : β → T) (q : σ → Pt) (vs : List Nat) : Option β × σ → Option T × Env → Prop := fun a x => x.1 = a.1.map G ∧ Mt (wipeE (q a.2) vs) (wipeE x.2 vs)
theorem lc_rf {g : MG} {mt : MT} {me : MEx} {vs : List Nat} {F : A → T} {G : β → T} {q : σ → Pt} {f : σ → A → R (Option β × σ)} (hb : ∀ s x ρ, Mt (wipeE (q s) vs) (wipeE ρ vs) → Rf (Bel g mt me vs (F x) ρ) (f s x) (endE G q vs)) :
    ∀ (xs : List A) (acc : List β) (s : σ) (ρ : Env), xs.length + acc.length ≤ sLine → Mt (wipeE (q s) vs) (wipeE ρ vs) → Rf (mLcLoop g mt me vs (xs.map F) (acc.map G) ρ) (tLc f xs acc s) (fun a z => z.1 = a.1.map G ∧ Mt (wipeE (q a.2) vs) (wipeE z.2 vs))
  | [], acc, s, ρ, hl, m => ⟨_, rfl, rfl, m⟩
  | x :: xs, acc, s, ρ, hl, m => by
    have h := hb s x ρ m
    have e : mLcLoop g mt me vs ((x :: xs).map F) (acc.map G) ρ = (Bel g mt me vs (F x) ρ).bind fun z => mLcLoop g mt me vs (xs.map F) (acc.map G ++ z.1.toList) z.2 := by
      rw [List.map_cons, e_lcC]
      unfold Bel
      rw [bind_assocS]
      congr 1
      funext ρ1
      rw [e_lcL1, bind_assocS]
      congr 1
      funext r
      obtain ⟨b, ρ2⟩ := r
      cases b with
      | false => simp
      | true =>
        have hs : decide ((acc.map G).length < sLine) = true := decide_eq_true (by simp at hl ⊢; omega)
        rw [e_lcL2, if_pos rfl, hs, guard_t]
        simp only [if_true, bind_assocS, bind_okS]
        congr 1
    rw [e]
    refine h.bind fun a z hz => ?_
    obtain ⟨e1, e2⟩ := hz
    have e3 : acc.map G ++ z.1.toList = (acc ++ a.1.toList).map G := by
      rw [e1]
      cases a.1 <;> simp
    rw [e3]
    exact lc_rf hb xs _ _ _ (by
      have : a.1.toList.length ≤ 1 := by cases a.1 <;> simp
      simp at hl ⊢; omega) e2

def Blc (g : MG) (mt : MT) (me : MEx) (vs : List Nat) (items : List T) (K : T → Env → R Y) : Env → R Y := fun ρ => (mLcLoop g mt me vs items [] ρ).bind fun z => K (.ol z.1) (wipeE z.2 vs)
variable {p : Pt} {t : R α} {Rel : α → Y → Prop} {K : T → Env → R Y}
theorem x_lc {mi : MI} {g : MG} {mt : MT} {me : MEx} {vs : List Nat} (h : J p (Bi mi fun items => Blc g mt me vs items K) t Rel) : J p (B (mLc mi g mt me vs) K) t Rel := fun ρ m => by
  have := h ρ m
  simpa [B, Bi, Blc, mLc] using this
abbrev kS : T → Env → R (Option T × Env) := fun v ρ => .ok (some v, ρ)
abbrev kN : Env → R (Option T × Env) := fun ρ => .ok (none, ρ)
theorem bel_eq {g : MG} {mt : MT} {me : MEx} {vs : List Nat} {x : T} {ρ : Env} : Bel g mt me vs x ρ = Bg g x (Bt mt fun b => iteG b (B me kS) kN) (wipeE ρ vs) := by
  unfold Bel Bg Bt
  congr 1
def endL (G : β → T) (q : σ → Pt) : Option β × σ → Option T × Env → Prop := fun a x => x.1 = a.1.map G ∧ Mt (q a.2) x.2
theorem lc_rf2 {g : MG} {mt : MT} {me : MEx} {vs : List Nat} {F : A → T} {G : β → T} {q : σ → Pt} {f : σ → A → R (Option β × σ)} (hq : ∀ s, wipeE (q s) vs = q s) (hb : ∀ s x, J (q s) (Bg g (F x) (Bt mt fun b => iteG b (B me kS) kN)) (f s x) (endL G q)) {xs : List A} {s : σ} {ρ : Env} (hl : xs.length ≤ sLine) (m : Mt (q s) ρ) :
    Rf (mLcLoop g mt me vs (xs.map F) [] ρ) (tLc f xs [] s) (fun a z => z.1 = a.1.map G ∧ Mt (q a.2) (wipeE z.2 vs)) := by
  have := lc_rf (g := g) (mt := mt) (me := me) (vs := vs) (F := F) (G := G) (q := q) (f := f) (fun s x ρ m => by
    rw [bel_eq]
    rw [hq] at m
    exact (hb s x _ m).mono fun a z ⟨e1, e2⟩ => ⟨e1, e2.wipe⟩) xs [] s ρ (by simpa using hl) m.wipe
  refine this.mono fun a z ⟨e1, e2⟩ => ⟨e1, by rwa [hq] at e2⟩
def lenOk {α : Type} (xs : List α) : Bool := decide (xs.length ≤ sLine)
def tLcG (f : σ → A → R (Option β × σ)) (xs : List A) (s : σ) : R (List β × σ) := guard (lenOk xs) (tLc f xs [] s)
/-- a comprehension whose elements change the state -/
theorem l_lc {g : MG} {mt : MT} {me : MEx} {vs : List Nat} {F : A → T} {G : β → T} {q : σ → Pt} {f : σ → A → R (Option β × σ)} {xs : List A} {s0 : σ} {t1 : List β × σ → R α} (w : Wk p (q s0)) (hq : ∀ s, wipeE (q s) vs = q s) (hb : ∀ s x, J (q s) (Bg g (F x) (Bt mt fun b => iteG b (B me kS) kN)) (f s x) (endL G q)) (h : ∀ r, J (q r.2) (K (.ol (r.1.map G))) (t1 r) Rel) :
    J p (Blc g mt me vs (xs.map F) K) ((tLcG f xs s0).bind t1) Rel := fun ρ m => by
  unfold tLcG Blc
  cases hl : lenOk xs with
  | false => exact trivial
  | true =>
    rw [guard_t]
    refine (lc_rf2 hq hb (of_decide_eq_true hl) (w.mt m)).bind fun a z ⟨e1, e2⟩ => ?_
    rw [e1]
    exact h a _ e2
theorem tLc_map {f : A → R β} : ∀ {xs : List A} {acc : List β} {s : σ}, tLc (fun s x => (f x).bind fun y => .ok (some y, s)) xs acc s = (tMap f xs).bind fun ys => .ok (acc ++ ys, s)
  | [], acc, s => by simp [tLc, tMap]
  | x :: xs, acc, s => by
    simp only [tLc, tMap, bind_assocS, bind_okS]
    congr 1
    funext y
    rw [tLc_map]
    congr 1
    funext ys
    simp
theorem tLc_fm {f : A → R (Option β)} : ∀ {xs : List A} {acc : List β} {s : σ}, tLc (fun s x => (f x).bind fun y => .ok (y, s)) xs acc s = (tFm f xs).bind fun ys => .ok (acc ++ ys, s)
  | [], acc, s => by simp [tLc, tFm]
  | x :: xs, acc, s => by
    simp only [tLc, tFm, bind_assocS, bind_okS]
    congr 1
    funext y
    rw [tLc_fm]
    congr 1
    funext ys
    simp
def tMapG (f : A → R β) (xs : List A) : R (List β) := guard (lenOk xs) (tMap f xs)
def tFmG (f : A → R (Option β)) (xs : List A) : R (List β) := guard (lenOk xs) (tFm f xs)
def endM (G : β → T) (q : Pt) : β → Option T × Env → Prop := fun a x => x.1 = some (G a) ∧ Mt q x.2
def endM2 (G : β → T) (q : Pt) : Option β → Option T × Env → Prop := fun a x => x.1 = a.map G ∧ Mt q x.2
theorem l_map {g : MG} {me : MEx} {vs : List Nat} {F : A → T} {G : β → T} {q : Pt} {f : A → R β} {xs : List A} {t1 : List β → R α} (w : Wk p q) (hq : wipeE q vs = q) (hb : ∀ x, J q (Bg g (F x) (B me kS)) (f x) (endM G q)) (h : ∀ r, J q (K (.ol (r.map G))) (t1 r) Rel) :
    J p (Blc g mtYes me vs (xs.map F) K) ((tMapG f xs).bind t1) Rel := by
  have h2 := l_lc (p := p) (g := g) (mt := mtYes) (me := me) (vs := vs) (F := F) (G := G) (K := K) (Rel := Rel) (q := fun _ : Unit => q) (f := fun s x => (f x).bind fun y => .ok (some y, s)) (xs := xs) (s0 := ()) (t1 := fun r => t1 r.1) w (fun _ => hq) (fun s x ρ m => by
    have := hb x ρ m
    have e : Bg g (F x) (Bt mtYes fun b => iteG b (B me kS) kN) ρ = Bg g (F x) (B me kS) ρ := by
      unfold Bg Bt iteG mtYes
      congr 1
    rw [e]
    have h3 := this.bind (k := fun z => .ok z) (k' := fun y => .ok (some y, s)) (Rel' := endL G fun _ : Unit => q) (fun a z ⟨e1, e2⟩ => ⟨_, rfl, e1, e2⟩)
    have e4 : (Bg g (F x) (B me kS) ρ).bind (fun z => R.ok z) = Bg g (F x) (B me kS) ρ := by
      cases Bg g (F x) (B me kS) ρ <;> rfl
    rwa [e4] at h3) (fun r => h r.1)
  have e : (tMapG f xs).bind t1 = (tLcG (fun s x => (f x).bind fun y => .ok (some y, s)) xs ()).bind fun r => t1 r.1 := by
    unfold tMapG tLcG
    rw [tLc_map]
    cases lenOk xs <;> simp
  rw [e]
  exact h2
theorem l_fm {g : MG} {mt : MT} {me : MEx} {vs : List Nat} {F : A → T} {G : β → T} {q : Pt} {f : A → R (Option β)} {xs : List A} {t1 : List β → R α} (w : Wk p q) (hq : wipeE q vs = q) (hb : ∀ x, J q (Bg g (F x) (Bt mt fun b => iteG b (B me kS) kN)) (f x) (endM2 G q)) (h : ∀ r, J q (K (.ol (r.map G))) (t1 r) Rel) :
    J p (Blc g mt me vs (xs.map F) K) ((tFmG f xs).bind t1) Rel := by
  have h2 := l_lc (p := p) (g := g) (mt := mt) (me := me) (vs := vs) (F := F) (G := G) (K := K) (Rel := Rel) (q := fun _ : Unit => q) (f := fun s x => (f x).bind fun y => .ok (y, s)) (xs := xs) (s0 := ()) (t1 := fun r => t1 r.1) w (fun _ => hq) (fun s x ρ m => by
    have := hb x ρ m
    have h3 := this.bind (k := fun z => .ok z) (k' := fun y => .ok (y, s)) (Rel' := endL G fun _ : Unit => q) (fun a z ⟨e1, e2⟩ => ⟨_, rfl, e1, e2⟩)
    have e4 : (Bg g (F x) (Bt mt fun b => iteG b (B me kS) kN) ρ).bind (fun z => R.ok z) = Bg g (F x) (Bt mt fun b => iteG b (B me kS) kN) ρ := by
      cases Bg g (F x) (Bt mt fun b => iteG b (B me kS) kN) ρ <;> rfl
    rwa [e4] at h3) (fun r => h r.1)
  have e : (tFmG f xs).bind t1 = (tLcG (fun s x => (f x).bind fun y => .ok (y, s)) xs ()).bind fun r => t1 r.1 := by
    unfold tFmG tLcG
    rw [tLc_fm]
    cases lenOk xs <;> simp
  rw [e]
  exact h2
theorem e_m {G : β → T} {q : Pt} {v : T} {a : β} (e : v = G a) (w : Wk p q) : J p (kS v) (.ok a) (endM G q) := fun ρ m => ⟨_, rfl, by rw [e], w.mt m⟩
theorem e_m2 {G : β → T} {q : Pt} {v : T} {a : β} (e : v = G a) (w : Wk p q) : J p (kS v) (.ok (some a)) (endM2 G q) := fun ρ m => ⟨_, rfl, by rw [e]; rfl, w.mt m⟩
theorem e_m2n {G : β → T} {q : Pt} (w : Wk p q) : J p kN (.ok none) (endM2 G q) := fun ρ m => ⟨_, rfl, rfl, w.mt m⟩
theorem e_l {G : β → T} {q : σ → Pt} {v : T} {a : β} {s : σ} (e : v = G a) (w : Wk p (q s)) : J p (kS v) (.ok (some a, s)) (endL G q) := fun ρ m => ⟨_, rfl, by rw [e]; rfl, w.mt m⟩
theorem e_ln {G : β → T} {q : σ → Pt} {s : σ} (w : Wk p (q s)) : J p kN (.ok (none, s)) (endL G q) := fun ρ m => ⟨_, rfl, rfl, w.mt m⟩
/-! sources -/
variable {KI : List T → Env → R Y}
def onItems (o : Option (List T)) (KI : List T → Env → R Y) : Env → R Y := fun ρ => (ofO o).bind fun ts => KI ts ρ
theorem i_list {m : MEx} (h : J p (B m fun v => onItems (items? v) KI) t Rel) : J p (Bi (miL m) KI) t Rel := fun ρ hm => by
  have := h ρ hm
  simpa [B, Bi, onItems, miL] using this
theorem i_tup {m : MEx} (h : J p (B m fun v => onItems (itemsT? v) KI) t Rel) : J p (Bi (miT m) KI) t Rel := fun ρ hm => by
  have := h ρ hm
  simpa [B, Bi, onItems, miT] using this
theorem i_on {o : Option (List T)} {ts : List T} (e : o = some ts) (h : J p (KI ts) t Rel) : J p (onItems o KI) t Rel := by subst e; exact h
def rgI (lo hi : Int) : List Int := (List.range (hi - lo).toNat).map fun i => lo + (i : Nat)
theorem rgI_items {lo hi : Int} : rangeItems lo hi = (rgI lo hi).map fun i => T.d (.int i) := by simp [rgI, rangeItems, Function.comp_def]
@[irreducible] def tRange (lo hi : Int) : R (List Int) := guard (small62 lo && small62 hi) (.ok (rgI lo hi))
def onR1 (KI : List T → Env → R Y) : List T → Env → R Y := fun ts => match ts with
  | [.d (.int j)] => fun ρ => guard (small62 j) (KI (rangeItems 0 j) ρ)
  | _ => fun _ => .bad
def onR2 (KI : List T → Env → R Y) : List T → Env → R Y := fun ts => match ts with
  | [.d (.int i), .d (.int j)] => fun ρ => guard (small62 i && small62 j) (KI (rangeItems i j) ρ)
  | _ => fun _ => .bad
theorem i_range1 {m : MA} (h : J p (Ba m (onR1 KI)) t Rel) : J p (Bi (miR1 m) KI) t Rel := fun ρ hm => by
  have := h ρ hm
  simp only [Ba, Bi] at this ⊢
  rw [e_miR1, bind_assocS]
  have e : (fun x : List T × Env => (rg1 x).bind fun y => KI y.1 y.2) = fun x => onR1 KI x.1 x.2 := by
    funext x
    obtain ⟨v, ρ'⟩ := x
    unfold rg1 onR1
    dsimp only
    split
    · unfold L3.guard
      try dsimp only
      split <;> rfl
    · rename_i h
      first
        | rfl
        | (split
           · exact (h _ rfl).elim
           · rfl)
  rw [e]
  exact this
theorem i_range2 {m : MA} (h : J p (Ba m (onR2 KI)) t Rel) : J p (Bi (miR2 m) KI) t Rel := fun ρ hm => by
  have := h ρ hm
  simp only [Ba, Bi] at this ⊢
  rw [e_miR2, bind_assocS]
  have e : (fun x : List T × Env => (rg2 x).bind fun y => KI y.1 y.2) = fun x => onR2 KI x.1 x.2 := by
    funext x
    obtain ⟨v, ρ'⟩ := x
    unfold rg2 onR2
    dsimp only
    split
    · unfold L3.guard
      try dsimp only
      split <;> rfl
    · rename_i h
      first
        | rfl
        | (split
           · exact (h _ _ rfl).elim
           · rfl)
  rw [e]
  exact this
theorem i_r1 {j : Int} {t1 : List Int → R α} (h : ∀ xs, J p (KI (xs.map fun i => T.d (.int i))) (t1 xs) Rel) : J p (onR1 KI [.d (.int j)]) ((tRange 0 j).bind t1) Rel := fun ρ m => by
  unfold onR1 tRange
  dsimp only
  have e0 : small62 0 = true := by decide
  rw [e0, Bool.true_and, rgI_items]
  cases small62 j with
  | false => exact trivial
  | true => exact h _ ρ m
theorem i_r2 {i j : Int} {t1 : List Int → R α} (h : ∀ xs, J p (KI (xs.map fun i => T.d (.int i))) (t1 xs) Rel) : J p (onR2 KI [.d (.int i), .d (.int j)]) ((tRange i j).bind t1) Rel := fun ρ m => by
  unfold onR2 tRange
  dsimp only
  rw [rgI_items]
  cases (small62 i && small62 j) with
  | false => exact trivial
  | true => exact h _ ρ m
def onZ (KI : List T → Env → R Y) : List T → Env → R Y := fun ts => match ts with
  | [.d (.list ds), .d (.list es)] => KI (zipItems ds es)
  | _ => fun _ => .bad
theorem i_zip {m : MA} (h : J p (Ba m (onZ KI)) t Rel) : J p (Bi (miZ m) KI) t Rel := fun ρ hm => by
  have := h ρ hm
  simp only [Ba, Bi] at this ⊢
  rw [e_miZ, bind_assocS]
  have e : (fun x : List T × Env => (zipK x).bind fun y => KI y.1 y.2) = fun x => onZ KI x.1 x.2 := by
    funext x
    obtain ⟨v, ρ'⟩ := x
    unfold zipK onZ
    dsimp only
    split
    · rfl
    · rename_i h
      first
        | rfl
        | (split
           · exact (h _ _ rfl).elim
           · rfl)
  rw [e]
  exact this
theorem zip_items {α β : Type} {e : α → PyData} {f : β → PyData} {xs : List α} {ys : List β} : zipItems (xs.map e) (ys.map f) = (xs.zip ys).map fun z => T.d (.tuple [e z.1, f z.2]) := by
  unfold zipItems
  rw [List.zip_map, List.map_map]
  rfl
theorem i_z {α' β' : Type} {e : α' → PyData} {f : β' → PyData} {xs : List α'} {ys : List β'} (h : J p (KI ((xs.zip ys).map fun z => T.d (.tuple [e z.1, f z.2]))) t Rel) : J p (onZ KI [.d (.list (xs.map e)), .d (.list (ys.map f))]) t Rel := by
  unfold onZ
  dsimp only
  rw [zip_items]
  exact h
def onN (KI : List T → Env → R Y) : List T → Env → R Y := fun ts => match ts with
  | [.d (.list ds)] => KI (enumItems ds)
  | _ => fun _ => .bad
theorem i_enum {m : MA} (h : J p (Ba m (onN KI)) t Rel) : J p (Bi (miN m) KI) t Rel := fun ρ hm => by
  have := h ρ hm
  simp only [Ba, Bi] at this ⊢
  rw [e_miN, bind_assocS]
  have e : (fun x : List T × Env => (enumK x).bind fun y => KI y.1 y.2) = fun x => onN KI x.1 x.2 := by
    funext x
    obtain ⟨v, ρ'⟩ := x
    unfold enumK onN
    dsimp only
    split
    · rfl
    · rename_i h
      first
        | rfl
        | (split
           · exact (h _ rfl).elim
           · rfl)
  rw [e]
  exact this
def enumL {α : Type} (xs : List α) : List (Int × α) := xs.zipIdx.map fun z => ((z.2 : Int), z.1)
theorem enum_items {α : Type} {e : α → PyData} {xs : List α} : enumItems (xs.map e) = (enumL xs).map fun z => T.d (.tuple [.int z.1, e z.2]) := by
  unfold enumItems enumL
  apply List.ext_getElem
  · simp
  · intro i h1 h2
    simp at h1 h2 ⊢
    rw [List.getElem?_eq_getElem h1]
    simp
theorem i_n {α' : Type} {e : α' → PyData} {xs : List α'} (h : J p (KI ((enumL xs).map fun z => T.d (.tuple [.int z.1, e z.2]))) t Rel) : J p (onN KI [.d (.list (xs.map e))]) t Rel := by
  unfold onN
  dsimp only
  rw [enum_items]
  exact h
end
/-! ### calls, functions -/
section
variable {Y α β : Type} {p : Pt} {t : R α} {Rel : α → Y → Prop} {K : T → Env → R Y} {KO : List (Option T) → Env → R Y}
def Bcall (rz : Bool) (n : Nat) (fm : List T → R (T × List T)) (ks : List (Option Nat)) (os : List (Option T)) (K : T → Env → R Y) : Env → R Y := fun ρ => (ofO (fillIo ks os ρ)).bind fun s => (if decide (s.1.length = n) then (if rz = true then fm s.1 else (fm s.1).nx) else .bad).bind fun z => (ofO (putIo (ks.filterMap id) z.2 s.2)).bind fun ρ' => K z.1 ρ'
theorem x_call {rz : Bool} {n : Nat} {fm : List T → R (T × List T)} {ks : List (Option Nat)} {mb : MB} (h : J p (Bb mb fun os => Bcall rz n fm ks os K) t Rel) : J p (B (mCallF rz false n fm ks mb) K) t Rel := fun ρ m => by
  have := h ρ m
  simpa [B, Bb, Bcall, mCallF] using this
theorem b_nil (h : J p (KO []) t Rel) : J p (Bb mbNil KO) t Rel := h
theorem b_cons {a : MEx} {r : MB} (h : J p (B a fun x => Bb r fun os => KO (some x :: os)) t Rel) : J p (Bb (mbCons a r) KO) t Rel := fun ρ m => by
  have := h ρ m
  simpa [B, Bb, mbCons] using this
theorem b_io {i : Nat} {r : MB} {u : T} (e : p[i]? = some (some u)) (h : J p (Bb r fun os => KO (none :: os)) t Rel) : J p (Bb (mbIo i r) KO) t Rel := fun ρ m => by
  have := h ρ m
  simp only [Bb] at this ⊢
  rw [e_mbIo, m.get e, e_mbIoK, bind_assocS]
  exact this
theorem Mt.fill : ∀ {ks : List (Option Nat)} {os : List (Option T)} {p p1 : Pt} {ts : List T} {ρ : Env}, Mt p ρ → fillIo ks os p = some (ts, p1) → ∃ ρ1, fillIo ks os ρ = some (ts, ρ1) ∧ Mt p1 ρ1
  | [], [], p, p1, ts, ρ, m, e => by
    simp at e
    obtain ⟨rfl, rfl⟩ := e
    exact ⟨ρ, rfl, m⟩
  | none :: ks, some u :: os, p, p1, ts, ρ, m, e => by
    rw [e_fill1] at e
    obtain ⟨r, e1, e2⟩ := Option.map_eq_some_iff.mp e
    obtain ⟨ρ1, e3, e4⟩ := m.fill (ks := ks) (os := os) (p1 := r.2) (ts := r.1) e1
    cases e2
    exact ⟨ρ1, by rw [e_fill1, e3]; rfl, e4⟩
  | some i :: ks, none :: os, p, p1, ts, ρ, m, e => by
    rw [e_fill2] at e
    cases e0 : p[i]? with
    | none => rw [e0] at e; cases e
    | some o =>
      cases o with
      | none => rw [e0] at e; cases e
      | some u =>
        rw [e0, e_fillK] at e
        obtain ⟨r, e1, e2⟩ := Option.map_eq_some_iff.mp e
        obtain ⟨ρ1, e3, e4⟩ := (m.unset (i := i) (x := none)).fill (ks := ks) (os := os) (p1 := r.2) (ts := r.1) e1
        cases e2
        exact ⟨ρ1, by rw [e_fill2, m.get e0, e_fillK, e3]; rfl, e4⟩
  | [], _ :: _, p, p1, ts, ρ, m, e => by cases ‹Option T› <;> cases e
  | none :: _, [], p, p1, ts, ρ, m, e => by cases e
  | none :: _, none :: _, p, p1, ts, ρ, m, e => by cases e
  | some _ :: _, [], p, p1, ts, ρ, m, e => by cases e
  | some _ :: _, some _ :: _, p, p1, ts, ρ, m, e => by cases e
theorem Mt.put : ∀ {is : List Nat} {os : List T} {p p1 : Pt} {ρ : Env}, Mt p ρ → putIo is os p = some p1 → ∃ ρ1, putIo is os ρ = some ρ1 ∧ Mt p1 ρ1
  | [], [], p, p1, ρ, m, e => by cases e; exact ⟨ρ, rfl, m⟩
  | i :: is, u :: os, p, p1, ρ, m, e => by
    rw [e_put1] at e
    obtain ⟨ρ1, e1, e2⟩ := (m.set (i := i) (t := u)).put e
    exact ⟨ρ1, by rw [e_put1]; exact e1, e2⟩
  | [], _ :: _, _, _, _, _, e => by cases e
  | _ :: _, [], _, _, _, _, e => by cases e
theorem Mt.outs : ∀ {io : List Nat} {p : Pt} {ρ : Env} {os : List T}, Mt p ρ → L3.outs io p = .ok os → L3.outs io ρ = .ok os
  | [], p, ρ, os, m, e => e
  | i :: io, p, ρ, os, m, e => by
    rw [e_outs1] at e ⊢
    cases e0 : p[i]? with
    | none => rw [e0] at e; cases e
    | some o =>
      cases o with
      | none => rw [e0] at e; cases e
      | some u =>
        rw [e0, e_outK] at e
        rw [m.get e0, e_outK]
        cases e1 : L3.outs io p with
        | ok os' => rw [m.outs e1]; rw [e1] at e; exact e
        | exc _ => rw [e1] at e; cases e
        | bad => rw [e1] at e; cases e
/-- a def does what a typed term says -/
def Fn (fm : List T → R (T × List T)) (ts : List T) (t0 : R β) (F : β → T) (G : β → List T) : Prop := Rf (fm ts) t0 fun a z => z = (F a, G a)
theorem c_end {n : Nat} {fm : List T → R (T × List T)} {ks : List (Option Nat)} {os : List (Option T)} {ts : List T} {p1 : Pt} {p2 : β → Pt} {t0 : R β} {t1 : β → R α} {F : β → T} {G : β → List T} (hf : fillIo ks os p = some (ts, p1)) (hr : Fn fm ts t0 F G) (hn : ts.length = n) (hp : ∀ a, putIo (ks.filterMap id) (G a) p1 = some (p2 a)) (h : ∀ a, J (p2 a) (K (F a)) (t1 a) Rel) :
    J p (Bcall false n fm ks os K) (t0.nx.bind t1) Rel := fun ρ m => by
  obtain ⟨ρ1, e1, m1⟩ := m.fill hf
  unfold Bcall
  rw [e1]
  simp only [ofO_some, bind_okS, hn, decide_true, if_true]
  refine hr.nx.bind fun a z e => ?_
  subst e
  obtain ⟨ρ2, e2, m2⟩ := m1.put (hp a)
  rw [e2]
  exact h a _ m2
theorem c_endX {n : Nat} {fm : List T → R (T × List T)} {ks : List (Option Nat)} {os : List (Option T)} {ts : List T} {p1 : Pt} {p2 : β → Pt} {t0 : R β} {t1 : β → R α} {F : β → T} {G : β → List T} (hf : fillIo ks os p = some (ts, p1)) (hr : Fn fm ts t0 F G) (hn : ts.length = n) (hp : ∀ a, putIo (ks.filterMap id) (G a) p1 = some (p2 a)) (h : ∀ a, J (p2 a) (K (F a)) (t1 a) Rel) :
    J p (Bcall true n fm ks os K) (t0.bind t1) Rel := fun ρ m => by
  obtain ⟨ρ1, e1, m1⟩ := m.fill hf
  unfold Bcall
  rw [e1]
  simp only [ofO_some, bind_okS, hn, decide_true, if_true]
  refine hr.bind fun a z e => ?_
  subst e
  obtain ⟨ρ2, e2, m2⟩ := m1.put (hp a)
  rw [e2]
  exact h a _ m2
theorem fn_drop {fm : List T → R (T × List T)} {ts : List T} {t0 : R β} {F : β → T} {G : β → List T} (h : Fn fm ts t0 F G) : Fn (dropIo fm) ts t0 F fun _ => [] := by
  unfold Fn at h ⊢
  rw [e_dropIo]
  have := h.bind (k := dropIoK) (k' := fun a => .ok a) (Rel' := fun a z => z = (F a, [])) (fun a z e => by subst e; exact ⟨_, rfl, rfl⟩)
  have e : t0.bind (fun a => R.ok a) = t0 := by cases t0 <;> rfl
  rwa [e] at this
abbrev kF (io : List Nat) : SK (T × List T) := ⟨fun ρ => (outs io ρ).bind fun os => .ok (.d .none, os), fun v ρ => (outs io ρ).bind fun os => .ok (v, os), fun _ => .bad, fun _ => .bad⟩
theorem fn_j {io : List Nat} {k : Nat} {b : MS} {ts : List T} {t0 : R β} {F : β → T} {G : β → List T} {p : Pt} (e : p = ts.map some ++ List.replicate k none) (h : J p (Bs b (kF io)) t0 fun a z => z = (F a, G a)) : Fn (mFn io k b) ts t0 F G := by
  subst e
  have hm : ∀ (xs : Env), Mt xs xs := by
    intro xs
    induction xs with
    | nil => exact trivial
    | cons o xs ih => cases o with
      | none => exact ih
      | some t => exact ⟨rfl, ih⟩
  have := h _ (hm _)
  unfold Fn
  rw [e_mFn]
  have e : (b (ts.map some ++ List.replicate k none)).bind (fnK io) = Bs b (kF io) (ts.map some ++ List.replicate k none) := by
    unfold Bs
    congr 1
    funext o
    cases o <;> rfl
  rw [e]
  exact this
theorem f_ret {io : List Nat} {v : T} {os : List T} {a : β} {F : β → T} {G : β → List T} (e : outs io p = .ok os) (e1 : v = F a) (e2 : os = G a) : J p ((kF io).rt v) (.ok a) fun a z => z = (F a, G a) := fun ρ m => by
  refine ⟨(v, os), ?_, by rw [e1, e2]⟩
  show (outs io ρ).bind _ = _
  rw [m.outs e]
  rfl
theorem f_nx {io : List Nat} {os : List T} {a : β} {F : β → T} {G : β → List T} (e : outs io p = .ok os) (e1 : .d .none = F a) (e2 : os = G a) : J p (kF io).nx (.ok a) fun a z => z = (F a, G a) := fun ρ m => by
  refine ⟨(.d .none, os), ?_, by rw [e1, e2]⟩
  show (outs io ρ).bind _ = _
  rw [m.outs e]
  rfl
end

/-! ### typed operations -/
section
variable {α β : Type}
abbrev dE (e : α → PyData) : α → T := fun x => .d (e x)
abbrev oL (f : α → T) : List α → T := fun xs => .ol (xs.map f)
abbrev eI : Int → PyData := .int
abbrev eB : Bool → PyData := .bool
abbrev eS : Str → PyData := .str
abbrev eN : Unit → PyData := fun _ => .none
abbrev eL (e : α → PyData) : List α → PyData := fun xs => .list (xs.map e)
abbrev eTL (e : α → PyData) : List α → PyData := fun xs => .tuple (xs.map e)
abbrev eO (e : α → PyData) : Option α → PyData := fun o => match o with | some a => e a | none => .none
abbrev eT1 (e : α → PyData) : α → PyData := fun x => .tuple [e x]
abbrev eT2 {γ : Type} (e : α → PyData) (f : γ → PyData) : α × γ → PyData := fun x => .tuple [e x.1, f x.2]
abbrev eT3 {γ δ : Type} (e : α → PyData) (f : γ → PyData) (g : δ → PyData) : α × γ × δ → PyData := fun x => .tuple [e x.1, f x.2.1, g x.2.2]
abbrev eT4 {γ δ ε : Type} (e : α → PyData) (f : γ → PyData) (g : δ → PyData) (h : ε → PyData) : α × γ × δ × ε → PyData := fun x => .tuple [e x.1, f x.2.1, g x.2.2.1, h x.2.2.2]
theorem dmap {e : α → PyData} {xs : List α} : (xs.map e).map T.d = xs.map (dE e) := by simp [Function.comp_def]
theorem dmapI {e : α → PyData} {xs : List α} : items? (.d (.list (xs.map e))) = some (xs.map (dE e)) := congrArg some dmap
theorem dmapT {e : α → PyData} {xs : List α} : itemsT? (.d (.tuple (xs.map e))) = some (xs.map (dE e)) := congrArg some dmap
/-- frozen -/
theorem fz_d {x : PyData} : T.fz (.d x) = some x := e_fzD
theorem fz_ol {f : α → T} {e : α → PyData} {xs : List α} (h : ∀ x, T.fz (f x) = some (e x)) : T.fz (.ol (xs.map f)) = some (.list (xs.map e)) := by
  have : T.fzAll (xs.map f) = some (xs.map e) := by
    induction xs with
    | nil => simp [T.fzAll]
    | cons x xs ih => simp [h, ih]
  rw [e_fzOl, this]
  rfl
theorem fz_nil {ts : List T} (h : ts = []) : T.fz (.ol ts) = some (.list []) := by subst h; simp
theorem fz_all2 {t u : T} {x y : PyData} (h : t.fz = some x) (k : u.fz = some y) : T.fz (.ot [t, u]) = some (.tuple [x, y]) := by simp [h, k]
theorem lst_d {xs : List PyData} : T.lst? (.d (.list xs)) = some xs := rfl
theorem lst_o {e : α → PyData} {xs : List α} : T.lst? (.ol (xs.map (dE e))) = some (xs.map e) := by
  rw [e_lstO]
  exact e_allDMapL
theorem seq_o {e : α → PyData} {xs : List α} : T.seq? (.ol (xs.map (dE e))) = some (xs.map e) := by
  rw [e_seqOl]
  exact e_allDMapL
theorem lst_ol {ds : List PyData} : T.lst? (.ol (ds.map T.d)) = some ds := by
  rw [e_lstO]
  exact e_allDMap
theorem toD_o {e : α → PyData} {xs : List α} : T.toD (.ol (xs.map (dE e))) = some (.list (xs.map e)) := by
  rw [e_toDOl, e_toDMapL]
  rfl
def tOp (b : Bool) (x : β) : R β := guard b (.ok x)
theorem ro_guard {b : Bool} {x : β} {Z : β → RV} {r : R RV} (e : r = guard b (.ok (Z x))) : Ro r (tOp b x) Z := by
  subst e
  unfold tOp
  cases b with
  | false => exact ⟨(fun c z => nomatch z), trivial⟩
  | true => exact ⟨(fun c z => nomatch z), ⟨_, rfl, rfl⟩⟩
def tMul (a b : Int) : R Int := tOp (mulOk a b) (a * b)
def tFdiv (a b : Int) : R Int := tOp (divOk a b) (a.fdiv b)
def tMod (a b : Int) : R Int := tOp (decide (b ≠ 0)) (a.fmod b)
def tPow (a b : Int) : R Int := tOp (powOk a b) (a ^ b.toNat)
theorem ro_mul {a b : Int} : Ro (opMulI (.d (.int a)) (.d (.int b))) (tMul a b) fun x => .v (.d (.int x)) := ro_guard rfl
theorem ro_fdiv {a b : Int} : Ro (opFdiv (.d (.int a)) (.d (.int b))) (tFdiv a b) fun x => .v (.d (.int x)) := ro_guard rfl
theorem ro_mod {a b : Int} : Ro (opMod (.d (.int a)) (.d (.int b))) (tMod a b) fun x => .v (.d (.int x)) := ro_guard rfl
theorem ro_pow {a b : Int} : Ro (opPow (.d (.int a)) (.d (.int b))) (tPow a b) fun x => .v (.d (.int x)) := ro_guard rfl
def tGet (o : Option β) : R β := ofO o
theorem ro_ofO {o : Option β} {Z : β → RV} {r : R RV} (e : r = (ofO o).bind fun x => .ok (Z x)) : Ro r (tGet o) Z := by
  subst e
  unfold tGet
  cases o with
  | none => exact ⟨(fun c z => nomatch z), trivial⟩
  | some x => exact ⟨(fun c z => nomatch z), ⟨_, rfl, rfl⟩⟩
theorem atI_map {f : α → β} {xs : List α} {i : Int} : atI (xs.map f) i = (atI xs i).map f := by
  unfold atI
  rw [List.length_map]
  cases ixN xs.length i with
  | none => rfl
  | some k => simp
def tIdx (xs : List β) (i : Int) : R β := tGet (atI xs i)
theorem ro_idxL {e : β → PyData} {xs : List β} {i : Int} : Ro (opIdx (.d (.list (xs.map e))) (.d (.int i))) (tIdx xs i) fun x => .v (.d (e x)) := ro_ofO (by
  show (ofO (atI (xs.map e) i)).bind _ = _
  rw [atI_map]
  cases atI xs i <;> rfl)
theorem ro_idxTL {e : β → PyData} {xs : List β} {i : Int} : Ro (opIdx (.d (.tuple (xs.map e))) (.d (.int i))) (tIdx xs i) fun x => .v (.d (e x)) := ro_ofO (by
  show (ofO (atI (xs.map e) i)).bind _ = _
  rw [atI_map]
  cases atI xs i <;> rfl)
theorem ro_idxR {e : β → PyData} {xs : List β} {i : Int} : Ro (opIdx (.rd (xs.map e)) (.d (.int i))) (tIdx xs i) fun x => .v (.d (e x)) := ro_ofO (by
  show (ofO (atI (xs.map e) i)).bind _ = _
  rw [atI_map]
  cases atI xs i <;> rfl)
theorem ro_idxO {f : β → T} {xs : List β} {i : Int} : Ro (opIdx (.ol (xs.map f)) (.d (.int i))) (tIdx xs i) fun x => .v (f x) := ro_ofO (by
  show (ofO (atI (xs.map f) i)).bind _ = _
  rw [atI_map]
  cases atI xs i <;> rfl)
def tCat (xs ys : List β) : R (List β) := tOp (decide (xs.length + ys.length ≤ sLine)) (xs ++ ys)
theorem ro_cat {u v : T} {e : β → PyData} {xs ys : List β} (hu : u.lst? = some (xs.map e)) (hv : v.lst? = some (ys.map e)) : Ro (opAdd u v) (tCat xs ys) fun zs => .nl (zs.map e) := ro_guard (by
  have : opAdd u v = match u.lst?, v.lst? with
    | some xs, some ys => guard (decide (xs.length + ys.length ≤ sLine)) (.ok (.nl (xs ++ ys)))
    | _, _ => .bad := by
    unfold opAdd
    split <;> first | rfl | (simp [T.lst?] at hu)
  rw [this, hu, hv]
  simp)
def tStrCat (x y : Str) : R Str := tOp (decide (x.length + y.length ≤ sLine)) (x ++ y)
theorem ro_strCat {x y : Str} : Ro (opAdd (.d (.str x)) (.d (.str y))) (tStrCat x y) fun z => .v (.d (.str z)) := ro_guard rfl
def tLen (xs : List β) : Int := xs.length
theorem len_l {e : β → PyData} {xs : List β} : opLen [.d (.list (xs.map e))] = .ok (.v (.d (.int (tLen xs)))) := by simp [tLen]
theorem len_tl {e : β → PyData} {xs : List β} : opLen [.d (.tuple (xs.map e))] = .ok (.v (.d (.int (tLen xs)))) := by simp [tLen]
theorem len_r {e : β → PyData} {xs : List β} : opLen [.rd (xs.map e)] = .ok (.v (.d (.int (tLen xs)))) := by simp [tLen]
theorem len_o {f : β → T} {xs : List β} : opLen [.ol (xs.map f)] = .ok (.v (.d (.int (tLen xs)))) := by simp [tLen]
def tMax (i j : Int) : Int := if j > i then j else i
def tMin (i j : Int) : Int := if j < i then j else i
theorem abs_eq {i : Int} : opAbs [.d (.int i)] = .ok (.v (.d (.int (i.natAbs : Int)))) := e_abs
theorem list_of {u : T} {ds : List PyData} (e : u.seq? = some ds) : opListOf [u] = .ok (.nl ds) := by rw [e_listOf, e]; rfl
theorem cut_map {f : α → β} {xs : List α} {lo hi : Option Int} : cutG (xs.map f) lo hi = (cutG xs lo hi).map f := by
  unfold cutG
  rw [List.length_map, List.map_take, List.map_drop]
def tCut (xs : List β) (lo hi : Option Int) : List β := cutG xs lo hi
/-- what is new is a list of data -/
theorem o_okN {Y : Type} {p : Pt} {Rel : α → Y → Prop} {K : T → Env → R Y} {e : β → PyData} {xs : List β} {r : R RV} {t : R α} (h0 : r = .ok (.nl (xs.map e))) (h : J p (K (.ol (xs.map (dE e)))) t Rel) : J p (Bo r K) t Rel := by
  refine o_ok h0 ?_
  rw [RV.toT, dmap]
  exact h
theorem o_rN {Y : Type} {p : Pt} {Rel : α → Y → Prop} {K : T → Env → R Y} {e : β → PyData} {r : R RV} {t0 : R (List β)} {t1 : List β → R α} (h0 : Ro r t0 fun zs => .nl (zs.map e)) (h : ∀ zs, J p (K (.ol (zs.map (dE e)))) (t1 zs) Rel) : J p (Bo r K) (t0.bind t1) Rel := by
  refine o_r h0 fun zs => ?_
  rw [RV.toT, dmap]
  exact h zs
/-- encodings that tell things apart -/
structure Nice (e : α → PyData) (k : Nat) : Prop where
  inj : ∀ a b, e a = e b → a = b
  plk : ∀ a n, plk (n + k) (e a) = true
theorem nice_I : Nice eI 0 := ⟨fun a b h => by injection h, fun a n => by simp [L3.plk]⟩
theorem nice_N : Nice eN 0 := ⟨fun a b h => rfl, fun a n => by simp [L3.plk]⟩
theorem nice_Q : Nice fr 1 := ⟨fun a b h => fr_inj h, fun a n => plk_fr⟩
theorem map_inj {e : α → PyData} (h : ∀ a b, e a = e b → a = b) : ∀ {xs ys : List α}, xs.map e = ys.map e → xs = ys
  | [], [], _ => rfl
  | x :: xs, y :: ys, z => by
    simp only [List.map_cons, List.cons.injEq] at z
    rw [h _ _ z.1, map_inj h z.2]
  | [], _ :: _, z => by simp at z
  | _ :: _, [], z => by simp at z
theorem Nice.list {e : α → PyData} {k : Nat} (h : Nice e k) : Nice (eL e) (k + 1) := ⟨fun a b z => map_inj h.inj (by injection z), fun a n => by
  show L3.plk ((n + k) + 1) _ = true
  simp only [L3.plk]
  exact plkAll_map fun x _ => h.plk x n⟩
theorem Nice.tupL {e : α → PyData} {k : Nat} (h : Nice e k) : Nice (eTL e) (k + 1) := ⟨fun a b z => map_inj h.inj (by injection z), fun a n => by
  show L3.plk ((n + k) + 1) _ = true
  simp only [L3.plk]
  exact plkAll_map fun x _ => h.plk x n⟩
theorem Nice.up {e : α → PyData} {k m : Nat} (h : Nice e k) (l : k ≤ m) : Nice e m := ⟨h.inj, fun a n => by
  have := h.plk a (n + (m - k))
  rwa [show n + (m - k) + k = n + m by omega] at this⟩
theorem Nice.t2 {γ : Type} {e : α → PyData} {f : γ → PyData} {k : Nat} (h : Nice e k) (h2 : Nice f k) : Nice (eT2 e f) (k + 1) := ⟨fun a b z => by
  have z : [e a.1, f a.2] = [e b.1, f b.2] := by injection z
  simp only [List.cons.injEq, and_true] at z
  exact Prod.ext (h.inj _ _ z.1) (h2.inj _ _ z.2), fun a n => by
  show L3.plk ((n + k) + 1) _ = true
  simp [L3.plk, L3.plkAll, h.plk, h2.plk]⟩
theorem Nice.t3 {γ δ : Type} {e : α → PyData} {f : γ → PyData} {g : δ → PyData} {k : Nat} (h : Nice e k) (h2 : Nice f k) (h3 : Nice g k) : Nice (eT3 e f g) (k + 1) := ⟨fun a b z => by
  have z : [e a.1, f a.2.1, g a.2.2] = [e b.1, f b.2.1, g b.2.2] := by injection z
  simp only [List.cons.injEq, and_true] at z
  exact Prod.ext (h.inj _ _ z.1) (Prod.ext (h2.inj _ _ z.2.1) (h3.inj _ _ z.2.2)), fun a n => by
  show L3.plk ((n + k) + 1) _ = true
  simp [L3.plk, L3.plkAll, h.plk, h2.plk, h3.plk]⟩
theorem Nice.t4 {γ δ ε : Type} {e : α → PyData} {f : γ → PyData} {g : δ → PyData} {i : ε → PyData} {k : Nat} (h : Nice e k) (h2 : Nice f k) (h3 : Nice g k) (h4 : Nice i k) : Nice (eT4 e f g i) (k + 1) := ⟨fun a b z => by
  have z : [e a.1, f a.2.1, g a.2.2.1, i a.2.2.2] = [e b.1, f b.2.1, g b.2.2.1, i b.2.2.2] := by injection z
  simp only [List.cons.injEq, and_true] at z
  exact Prod.ext (h.inj _ _ z.1) (Prod.ext (h2.inj _ _ z.2.1) (Prod.ext (h3.inj _ _ z.2.2.1) (h4.inj _ _ z.2.2.2))), fun a n => by
  show L3.plk ((n + k) + 1) _ = true
  simp [L3.plk, L3.plkAll, h.plk, h2.plk, h3.plk, h4.plk]⟩
theorem Nice.pl {e : α → PyData} {k : Nat} (h : Nice e k) (l : k ≤ 60) (a : α) : pl (e a) := by
  have := h.plk a (60 - k)
  rwa [show 60 - k + k = 60 by omega] at this
theorem eq_nice {e : α → PyData} {k : Nat} [DecidableEq α] (n : Nice e k) {u v : T} {a b : α} (hu : u.toD = some (e a)) (hv : v.toD = some (e b)) (l : k ≤ 60 := by decide) : opEq u v = .ok (.v (.d (.bool (decide (a = b))))) := by
  rw [opEq_pl hu hv (n.pl l a) (n.pl l b)]
  by_cases h : a = b
  · simp [h]
  · have : e a ≠ e b := fun z => h (n.inj _ _ z)
    simp [h, this]
theorem ne_nice {e : α → PyData} {k : Nat} [DecidableEq α] (n : Nice e k) {u v : T} {a b : α} (hu : u.toD = some (e a)) (hv : v.toD = some (e b)) (l : k ≤ 60 := by decide) : opNe u v = .ok (.v (.d (.bool (!decide (a = b))))) := by
  rw [opNe_pl hu hv (n.pl l a) (n.pl l b)]
  by_cases h : a = b
  · simp [h]
  · have : e a ≠ e b := fun z => h (n.inj _ _ z)
    simp [h, this]
theorem toD_d {x : PyData} : T.toD (.d x) = some x := e_toDD
/-- a list of data in the place of an own one, or the other way about -/
theorem eqNil_ok {Y : Type} {p : Pt} {Rel : α → Y → Prop} {K : T → Env → R Y} {f : T → T → R RV} {m : MP} {t : R α} (h : J p (Bp m fun x => fun ρ => (eqNilK ρ (f x (.d (.list [])))).bind fun z => K z.1 z.2) t Rel) : J p (B (mEqNil f m) K) t Rel := fun ρ hm => by
  have := h ρ hm
  simp only [B, Bp] at this ⊢
  rw [e_mEqNil]
  cases e : m ρ with
  | none => rw [e] at this; exact this
  | some u => rw [e] at this; exact this
end
/-! changes -/
section
variable {Y α β : Type} {p : Pt} {t : R α} {Rel : α → Y → Prop} {K : T → Env → R Y} {i : Nat}
def onMeth (i : Nat) (op : List T → List T → Option (T × List T)) (K : T → Env → R Y) : List T → Env → R Y := fun us ρ => (methK i [] op (us, ρ)).bind fun z => K z.1 z.2
def tApp (xs : List β) (x : β) : R (List β) := tOp (decide (xs.length < sLine)) (xs ++ [x])
theorem m_append {f : β → T} {xs : List β} {x : β} {u : T} {t1 : List β → R α} (e : p[i]? = some (some (.ol (xs.map f)))) (eu : u = f x) (h : ∀ zs, J (p.set i (some (.ol (zs.map f)))) (K (.d .none)) (t1 zs) Rel) :
    J p (onMeth i opAppend K [u]) ((tApp xs x).bind t1) Rel := fun ρ m => by
  have hg := m.get e
  have e2 : lstAt [] ρ[i]? = some (xs.map f) := by rw [hg]; rfl
  show Rf ((methK i [] _ ([u], ρ)).bind _) _ _
  rw [e_methK, e2]
  simp only [ofO_some, bind_okS, e_append, List.length_map]
  unfold tApp tOp
  cases hl : decide (xs.length < sLine) with
  | false => exact trivial
  | true =>
    have e3 : putAt i [] (xs.map f ++ [u]) ρ = some (ρ.set i (some (.ol ((xs ++ [x]).map f)))) := by
      rw [e_putAt, hg, e_putK]
      subst eu
      simp [T.put?]
    simp only [if_true, ofO_some, bind_okS, e3, e_methK4, guard_t]
    exact h _ _ m.set
def tExt (xs ys : List β) : R (List β) := tOp (decide (xs.length + ys.length ≤ sLine)) (xs ++ ys)
theorem m_extend {f : β → T} {xs ys : List β} {u : T} {t1 : List β → R α} (e : p[i]? = some (some (.ol (xs.map f)))) (eu : u.kids = some (ys.map f)) (h : ∀ zs, J (p.set i (some (.ol (zs.map f)))) (K (.d .none)) (t1 zs) Rel) :
    J p (onMeth i opExtend K [u]) ((tExt xs ys).bind t1) Rel := fun ρ m => by
  have hg := m.get e
  have e2 : lstAt [] ρ[i]? = some (xs.map f) := by rw [hg]; rfl
  show Rf ((methK i [] _ ([u], ρ)).bind _) _ _
  rw [e_methK, e2]
  simp only [ofO_some, bind_okS, e_extend, eu, e_extK, List.length_map]
  unfold tExt tOp
  cases hl : decide (xs.length + ys.length ≤ sLine) with
  | false => exact trivial
  | true =>
    have e3 : putAt i [] (xs.map f ++ ys.map f) ρ = some (ρ.set i (some (.ol ((xs ++ ys).map f)))) := by
      rw [e_putAt, hg, e_putK]
      simp [T.put?]
    simp only [if_true, ofO_some, bind_okS, e3, e_methK4, guard_t]
    exact h _ _ m.set
theorem x_meth {op : List T → List T → Option (T × List T)} {f : β → T} {xs : List β} {ma : MA} (e : p[i]? = some (some (.ol (xs.map f)))) (h : J p (Ba ma (onMeth i op K)) t Rel) : J p (B (mMeth i lHere op ma) K) t Rel := fun ρ m => by
  have := h ρ m
  simp only [B, Ba, onMeth] at this ⊢
  rw [e_mMeth, e_lHere]
  have e2 : lstAt [] ρ[i]? = some (xs.map f) := by rw [m.get e]; rfl
  simp only [ofO_some, bind_okS, e2, bind_assocS]
  exact this
def tSet (xs : List β) (j : Int) (x : β) : R (List β) := (ofO (ixN xs.length j)).bind fun k => .ok (xs.set k x)
theorem g_item {f : β → T} {xs : List β} {x : β} {v : T} {j : Int} {mi : MP} {KE : Env → R Y} {t1 : List β → R α} (e : p[i]? = some (some (.ol (xs.map f)))) (ev : v = f x) (hj : ∀ ρ, Mt p ρ → mi ρ = some (.d (.int j))) (h : ∀ zs, J (p.set i (some (.ol (zs.map f)))) KE (t1 zs) Rel) :
    J p (Bg (mgItem i lHere mi) v KE) ((tSet xs j x).bind t1) Rel := fun ρ m => by
  have hg := m.get e
  have e2 : lstAt [] ρ[i]? = some (xs.map f) := by rw [hg]; rfl
  unfold Bg tSet
  rw [e_mgItem, e_lHere, hj ρ m]
  simp only [Option.bind_some, e_int?, e2, List.length_map]
  cases hk : ixN xs.length j with
  | none => exact trivial
  | some k =>
    have e3 : putAt i [] ((xs.map f).set k v) ρ = some (ρ.set i (some (.ol ((xs.set k x).map f)))) := by
      rw [e_putAt, hg, e_putK]
      subst ev
      simp [T.put?, List.map_set]
    simp only [Option.bind_some, e3, ofO_some, bind_okS]
    exact h _ _ m.set
theorem pv_var {u : T} (e : p[i]? = some (some u)) : ∀ ρ, Mt p ρ → pVar i ρ = some u := fun ρ m => by rw [e_pVar, m.get e]; rfl
theorem pv_c {x : PyData} : ∀ ρ, Mt p ρ → pC x ρ = some (.d x) := fun _ _ => rfl
theorem pv_bin {op : T → T → R RV} {a b : MP} {u v w : T} (ha : ∀ ρ, Mt p ρ → a ρ = some u) (hb : ∀ ρ, Mt p ρ → b ρ = some v) (e : op u v = .ok (.v w)) : ∀ ρ, Mt p ρ → pBin op a b ρ = some w := fun ρ m => by rw [e_pBin, ha ρ m, hb ρ m]; simp [e]
end

section
variable {Y α β : Type} {p : Pt} {t : R α} {Rel : α → Y → Prop} {K : T → Env → R Y} {i : Nat}
theorem wk_nil : Wk [] [] := trivial
theorem wk_none {o : Option T} {p q : Pt} (h : Wk p q) : Wk (o :: p) (none :: q) := by cases o <;> exact h
theorem wk_some {u : T} {p q : Pt} (h : Wk p q) : Wk (some u :: p) (some u :: q) := ⟨rfl, h⟩
def onLst (K : T → Env → R Y) : List T → Env → R Y := fun us => K (.ol us)
theorem x_lstO {a : MA} (h : J p (Ba a (onLst K)) t Rel) : J p (B (mLst a) K) t Rel := x_lst h
theorem l_lst {f : β → T} {us : List T} (xs : List β) (e : us = xs.map f) (h : J p (K (.ol (xs.map f))) t Rel) : J p (onLst K us) t Rel := by subst e; exact h
def onTup (K : T → Env → R Y) : List T → Env → R Y := fun us => K (mkTup us)
theorem x_tupO {a : MA} (h : J p (Ba a (onTup K)) t Rel) : J p (B (mTup a) K) t Rel := x_tup h
theorem l_tup {us : List T} (u : T) (e : mkTup us = u) (h : J p (K u) t Rel) : J p (onTup K us) t Rel := by subst e; exact h
theorem l_tupL {e : β → PyData} {us : List T} {ds : List β} (h0 : us = ds.map (dE e)) (h : J p (K (.d (.tuple (ds.map e)))) t Rel) : J p (onTup K us) t Rel := by
  subst h0
  have : mkTup (ds.map (dE e)) = .d (.tuple (ds.map e)) := by
    rw [e_mkTup, e_allDMapL]
    rfl
  unfold onTup
  rw [this]
  exact h
theorem x_dG {e : β → PyData} {o : Option β} {t1 : β → R α} (e0 : p[i]? = some (some (.d (eO e o)))) (h : ∀ a, J p (K (.d (e a))) (t1 a) Rel) : J p (B (mVar i) K) ((tGet o).bind t1) Rel := by
  cases o with
  | none => exact fun ρ m => trivial
  | some a => exact x_d e0 (h a)
theorem p_varG {e : β → PyData} {o : Option β} {t1 : β → R α} (e0 : p[i]? = some (some (.d (eO e o)))) (h : ∀ a, J p (K (.d (e a))) (t1 a) Rel) : J p (Bp (pVar i) K) ((tGet o).bind t1) Rel := by
  cases o with
  | none => exact fun ρ m => trivial
  | some a => exact p_var e0 (h a)
theorem dec_self {b : Bool} : b = decide (b = true) := by simp
theorem dec_not {P : Prop} [Decidable P] : (!decide P) = decide (¬ P) := by simp
theorem isn_eo {e : β → PyData} {o : Option β} (h : ∀ a, T.isNone (.d (e a)) = false) : opIsN (.d (eO e o)) (.d .none) = .ok (.v (.d (.bool o.isNone))) := by
  rw [e_isN]
  cases o with
  | none => rfl
  | some a =>
    have := h a
    show R.ok (RV.v (T.d (.bool (T.isNone (.d (e a)))))) = _
    rw [this]; rfl
theorem notn_eo {e : β → PyData} {o : Option β} (h : ∀ a, T.isNone (.d (e a)) = false) : opNotN (.d (eO e o)) (.d .none) = .ok (.v (.d (.bool (!o.isNone)))) := by
  rw [e_notN]
  cases o with
  | none => rfl
  | some a =>
    have := h a
    show R.ok (RV.v (T.d (.bool (!T.isNone (.d (e a)))))) = _
    rw [this]; rfl
theorem truth_l {e : β → PyData} {xs : List β} : T.truth (.d (.list (xs.map e))) = some (!xs.isEmpty) := by cases xs <;> rfl
theorem truth_o {f : β → T} {xs : List β} : T.truth (.ol (xs.map f)) = some (!xs.isEmpty) := by cases xs <;> rfl
theorem tup_neg {q : Rat} : mkTup [.d (.int (0 - q.num)), .d (.int ((q.den : Nat) : Int))] = .d (fr (-q)) := by
  have : (0 : Int) - q.num = (-q).num := by rw [Rat.neg_num]; omega
  rw [this]
  show T.d (.tuple [.int (-q).num, .int ((q.den : Nat) : Int)]) = .d (.tuple [.int (-q).num, .int (((-q).den : Nat) : Int)])
  rw [Rat.neg_den]
theorem J.cst {v : T} {K : T → Env → R Y} {u : T} (e : u = v) (h : J p (K v) t Rel) : J p (K u) t Rel := by subst e; exact h
theorem j_ok {G : Env → R Y} {x : β} {k : β → R α} (h : J p G (k x) Rel) : J p G ((R.ok x).bind k) Rel := h
theorem fr_int {n : Int} : fr (n : Rat) = .tuple [.int n, .int 1] := rfl
theorem g_name' {v : T} {KE : Env → R Y} (h : J (p.set i (some v)) KE t Rel) : J p (Bg (mgName i) v KE) t Rel := g_name h
theorem j_unk {G : Env → R Y} {q : Pt} (w : Wk p q) (h : J q G t Rel) : J p G t Rel := h.wk w
end
/-! fractions -/
section
def rAdd (q r : Rat) : R Rat := tOp (decide (Ok2 q r)) (q + r)
def rSub (q r : Rat) : R Rat := tOp (decide (Ok2 q r)) (q - r)
def rMul (q r : Rat) : R Rat := tOp (decide (Ok2 q r)) (q * r)
def rDiv (q r : Rat) : R Rat := tOp (decide (OkD q r ∧ r ≠ 0)) (q / r)
def rLt (q r : Rat) : R Bool := tOp (decide (hq q + hq r ≤ 400000)) (decide (q < r))
def rMk (t b : Int) : R Rat := tOp (decide (b ≠ 0 ∧ ib b ≤ 9000)) (Rat.divInt t b)
def rMkP (t b : Int) : R Rat := tOp (decide (0 < b ∧ ib b ≤ 9000)) (Rat.divInt t b)
theorem fn_of {β : Type} {b : Bool} {a : β} {m : List T → R (T × List T)} {ts : List T} {F : β → T} (h : b = true → m ts = .ok (F a, [])) : Fn m ts (tOp b a) F fun _ => [] := by
  unfold Fn tOp
  cases b with
  | false => exact trivial
  | true => exact ⟨_, h rfl, rfl⟩
end
/-! records -/
section
variable {Y α β : Type} {p : Pt} {t : R α} {Rel : α → Y → Prop} {K : T → Env → R Y} {i : Nat}
def onDisp (ks : List Key) (K : T → Env → R Y) : List T → Env → R Y := fun us ρ => L3.guard (decide (us.length = ks.length ∧ ks.Nodup ∧ ks.length ≤ 15)) (K (.od ks us) ρ)
theorem x_disp {ks : List Key} {a : MA} (h : J p (Ba a (onDisp ks K)) t Rel) : J p (B (mDisp ks a) K) t Rel := fun ρ m => by
  have := h ρ m
  simp only [B, Ba, onDisp, mDisp] at this ⊢
  rw [bind_assocS]
  have e : ∀ r : List T × Env, (L3.guard (decide (r.1.length = ks.length ∧ ks.Nodup ∧ ks.length ≤ 15)) (.ok (T.od ks r.1, r.2))).bind (fun x => K x.1 x.2) = L3.guard (decide (r.1.length = ks.length ∧ ks.Nodup ∧ ks.length ≤ 15)) (K (.od ks r.1) r.2) := fun r => by
    unfold L3.guard
    split <;> rfl
  simp only [e]
  exact this
theorem l_disp {ks : List Key} {us : List T} (u : T) (e : T.od ks us = u) (hg : decide (us.length = ks.length ∧ ks.Nodup ∧ ks.length ≤ 15) = true) (h : J p (K u) t Rel) : J p (onDisp ks K us) t Rel := fun ρ m => by
  subst e
  unfold onDisp
  rw [hg]
  exact h ρ m
def onKS (i : Nat) (k : Key) (KE : Env → R Y) : T → Env → R Y := fun v ρ => (ofO (atKo [] ρ[i]?)).bind fun tc => match tc with
  | .od ks ts => L3.guard (decide (ks.length < sLine)) ((ofO (putAtK i [] (.od (putT ks ts k v).1 (putT ks ts k v).2) ρ)).bind KE)
  | _ => .bad
theorem s_keySet {κ : SK Y} {k : PyData} {kk : Key} {me : MEx} (hk : PyData.key k = some kk) (h : J p (B me (onKS i kk κ.nx)) t Rel) : J p (Bs (mKeySet i kHere (pC k) me) κ) t Rel := fun ρ m => by
  have := h ρ m
  simp only [B, Bs] at this ⊢
  unfold mKeySet
  rw [bind_assocS]
  cases er : me ρ with
  | bad => rw [er] at this; exact this
  | exc x => rw [er] at this; exact this
  | ok r =>
    rw [er] at this
    have e1 : kHere r.2 = some [] := rfl
    have e2 : (pC k r.2).bind T.key = some kk := hk
    simp only [bind_okS] at this ⊢
    rw [e1, e2]
    simp only [ofO_some, bind_okS, bind_assocS] at this ⊢
    unfold onKS at this
    cases e3 : atKo [] r.2[i]? with
    | none => rw [e3] at this; exact this
    | some tc =>
      rw [e3] at this
      simp only [ofO_some, bind_okS] at this ⊢
      cases tc with
      | od ks ts =>
        dsimp only at this ⊢
        cases hg : decide (ks.length < sLine) with
        | false => rw [hg] at this; exact this
        | true =>
          rw [hg] at this
          simp only [guard_t, bind_assocS, bind_okS] at this ⊢
          exact this
      | _ => exact this
theorem ks_end {KE : Env → R Y} {kk : Key} {ks : List Key} {ts : List T} {v : T} (u : T) (n : Nat) (e : p[i]? = some (some (.od ks ts))) (hk : kAt ks kk = some n) (hl : decide (ks.length < sLine) = true) (eu : T.od ks (ts.set n v) = u) (h : J (p.set i (some u)) KE t Rel) : J p (onKS i kk KE v) t Rel := fun ρ m => by
  subst eu
  have hg := m.get e
  unfold onKS
  rw [hg]
  have e1 : atKo [] (some (some (T.od ks ts))) = some (T.od ks ts) := rfl
  have e2 : putT ks ts kk v = (ks, ts.set n v) := by unfold putT; rw [hk]
  have e3 : putAtK i [] (.od ks (ts.set n v)) ρ = some (ρ.set i (some (.od ks (ts.set n v)))) := by
    unfold putAtK
    rw [hg]
    rfl
  simp only [e1, ofO_some, bind_okS, hl, guard_t, e2, e3]
  exact h _ m.set
theorem ks_endN {KE : Env → R Y} {kk : Key} {ks : List Key} {ts : List T} {v : T} {t1 : β → R α} (F : β → T) (n : Nat) (a : β) (e : p[i]? = some (some (.od ks ts))) (hk : kAt ks kk = some n) (hl : decide (ks.length < sLine) = true) (eu : T.od ks (ts.set n v) = F a) (h : ∀ a, J (p.set i (some (F a))) KE (t1 a) Rel) : J p (onKS i kk KE v) ((R.ok a).bind t1) Rel := ks_end (F a) n e hk hl eu (h a)
/-- a key looked at -/
theorem v_key {K : T → Env → R Y} {ks : List Key} {ts : List T} {k : PyData} {kk : Key} {n : Nat} (u : T) (hk : PyData.key k = some kk) (hn : kAt ks kk = some n) (hu : ts[n]? = some u) (h : J p (K u) t Rel) : J p (Bv (opKey (.od ks ts) (.d k)) K) t Rel := by
  have e : opKey (.od ks ts) (.d k) = .ok (.v u) := by
    unfold opKey
    have : T.key (.d k) = some kk := hk
    rw [this]
    simp [hn, hu]
  exact v_ok e h
end
section
variable {α β : Type}
theorem fz_ol2 {t u : T} {x y : PyData} (h : t.fz = some x) (k : u.fz = some y) : T.fz (.ol [t, u]) = some (.list [x, y]) := by simp [h, k]
theorem fz_ol3 {t u v : T} {x y z : PyData} (h : t.fz = some x) (k : u.fz = some y) (l : v.fz = some z) : T.fz (.ol [t, u, v]) = some (.list [x, y, z]) := by simp [h, k, l]
theorem fz_ot2 {t u : T} {x y : PyData} (h : t.fz = some x) (k : u.fz = some y) : T.fz (.ot [t, u]) = some (.tuple [x, y]) := by simp [h, k]
theorem fz_ot3 {t u v : T} {x y z : PyData} (h : t.fz = some x) (k : u.fz = some y) (l : v.fz = some z) : T.fz (.ot [t, u, v]) = some (.tuple [x, y, z]) := by simp [h, k, l]
theorem fz_ot4 {t u v w : T} {x y z a : PyData} (h : t.fz = some x) (k : u.fz = some y) (l : v.fz = some z) (m : w.fz = some a) : T.fz (.ot [t, u, v, w]) = some (.tuple [x, y, z, a]) := by simp [h, k, l, m]
@[irreducible] def tRep (xs : List β) (k : Int) : R (List β) := tOp (decide (-(2 ^ 62) ≤ k ∧ k < 2 ^ 62 ∧ xs.length * k.toNat ≤ sLine)) (List.replicate k.toNat xs).flatten
theorem ro_rep {u : T} {e : β → PyData} {xs : List β} {k : Int} (hu : u.lst? = some (xs.map e)) : Ro (opRep u (.d (.int k))) (tRep xs k) fun zs => .nl (zs.map e) := by
  unfold tRep
  exact ro_guard (by
  unfold opRep
  rw [hu]
  dsimp only
  rw [List.length_map, List.map_flatten, List.map_replicate])
end
section
variable {α β : Type}
theorem any_mem {e : α → PyData} {k : Nat} [DecidableEq α] (n : Nice e k) (l : k ≤ 60) (a : α) : ∀ (xs : List α), (xs.map e).any (fun z => PyData.eqv z (e a)) = decide (a ∈ xs)
  | [] => by simp
  | x :: xs => by
    have h1 := n.pl l x
    have h2 := n.pl l a
    rw [List.map_cons, List.any_cons, any_mem n l a xs, plk_eqv 60 60 _ _ h1 h2]
    by_cases h : a = x
    · subst h; simp
    · have : e x ≠ e a := fun z => h (n.inj _ _ z.symm)
      simp [this, h]
theorem in_nice {e : α → PyData} {k : Nat} [DecidableEq α] (n : Nice e k) {u v : T} {a : α} {xs : List α} [iD : Decidable (a ∈ xs)] (hu : u.toD = some (e a)) (hv : v.toD = some (.list (xs.map e))) (l : k + 1 ≤ 60 := by decide) : opInD u v = .ok (.v (.d (.bool (@decide (a ∈ xs) iD)))) := by
  unfold opInD inD
  rw [hu, hv]
  dsimp only
  rw [pl_shaped (n.pl (by omega) a), pl_shaped (n.list.pl l xs), any_mem n (by omega)]
  show R.ok (RV.v (T.d (.bool _))) = _
  congr
theorem notIn_nice {e : α → PyData} {k : Nat} [DecidableEq α] (n : Nice e k) {u v : T} {a : α} {xs : List α} [iD : Decidable (a ∈ xs)] (hu : u.toD = some (e a)) (hv : v.toD = some (.list (xs.map e))) (l : k + 1 ≤ 60 := by decide) : opNotInD u v = .ok (.v (.d (.bool (!@decide (a ∈ xs) iD)))) := by
  unfold opNotInD inD
  rw [hu, hv]
  dsimp only
  rw [pl_shaped (n.pl (by omega) a), pl_shaped (n.list.pl l xs), any_mem n (by omega)]
  show R.ok (RV.v (T.d (.bool _))) = _
  congr
theorem s_augIx {Y : Type} {p : Pt} {Rel : α → Y → Prop} {κ : SK Y} {i : Nat} {mi me : MP} {f : Int → Int → Int} {xs : List Int} {j y : Int} {t1 : List Int → R α} (e : p[i]? = some (some (.ol (xs.map (dE eI))))) (hj : ∀ ρ, Mt p ρ → mi ρ = some (.d (.int j))) (hy : ∀ ρ, Mt p ρ → me ρ = some (.d (.int y))) (h : ∀ zs, J (p.set i (some (.ol (zs.map (dE eI))))) κ.nx (t1 zs) Rel) :
    J p (Bs (mAugIx i lHere mi f me) κ) ((tIdx xs j).bind fun x => (tSet xs j (f x y)).bind t1) Rel := fun ρ m => by
  have hg := m.get e
  have e2 : lstAt [] ρ[i]? = some (xs.map (dE eI)) := by rw [hg]; rfl
  unfold Bs mAugIx
  rw [e_lHere, hj ρ m, hy ρ m]
  simp only [ofO_some, bind_okS, Option.bind_some, e_int?]
  rw [e2]
  simp only [ofO_some, bind_okS, Option.bind_some, e_int?, List.length_map]
  unfold tIdx tGet tSet atI
  cases hk : ixN xs.length j with
  | none => exact trivial
  | some k =>
    simp only [ofO_some, bind_okS, Option.bind_some]
    cases hx : xs[k]? with
    | none => exact trivial
    | some x =>
      have h2 : (xs.map (dE eI))[k]? = some (.d (.int x)) := by rw [List.getElem?_map, hx]; rfl
      have e3 : putAt i [] ((xs.map (dE eI)).set k (.d (.int (f x y)))) ρ = some (ρ.set i (some (.ol ((xs.set k (f x y)).map (dE eI))))) := by
        rw [e_putAt, hg, e_putK]
        simp [T.put?, List.map_set]
      rw [h2]
      simp only [Option.bind_some, e_int?, ofO_some, bind_okS, e3, SK.ap]
      exact h _ _ m.set
end
section
variable {Y α β : Type} {p : Pt} {t : R α} {Rel : α → Y → Prop} {κ : SK Y} {i : Nat} {K : T → Env → R Y} {KI : List T → Env → R Y}
theorem s_thenFz {s : MS} (h : J p (Bs s ⟨fun ρ => (fzSlot i ρ).bind κ.nx, κ.rt, κ.bk, κ.ct⟩) t Rel) : J p (Bs (mThenFz i s) κ) t Rel := fun ρ m => by
  have := h ρ m
  simp only [Bs] at this ⊢
  unfold mThenFz
  rw [bind_assocS]
  have e : (fun o => (fzNext i o).bind κ.ap) = (⟨fun ρ => (fzSlot i ρ).bind κ.nx, κ.rt, κ.bk, κ.ct⟩ : SK Y).ap := by
    funext o
    cases o with
    | next ρ => unfold fzNext; rw [bind_assocS]; rfl
    | _ => rfl
  rw [e]
  exact this
theorem n_fz {u : T} {v : PyData} {KE : Env → R Y} (e : p[i]? = some (some u)) (f : u.fz = some v) (h : J (p.set i (some (.d v))) KE t Rel) : J p (fun ρ => (fzSlot i ρ).bind KE) t Rel := fun ρ m => by
  have e1 : fzSlot i ρ = .ok (ρ.set i (some (.d v))) := by
    unfold fzSlot
    rw [m.get e]
    dsimp only
    rw [f]
  show Rf ((fzSlot i ρ).bind KE) t Rel
  rw [e1]
  exact h _ m.set
def dnI (i j : Int) : List Int := (List.range (i - j).toNat).map fun k => i + (k : Nat) * (-1)
theorem dnI_items {i j : Int} : downItems i j = (dnI i j).map fun i => T.d (.int i) := by simp [dnI, downItems, Function.comp_def]
@[irreducible] def tDown (i j : Int) : R (List Int) := tOp (small62 i && small62 j) (dnI i j)
def onR3 (KI : List T → Env → R Y) : List T → Env → R Y := fun ts ρ => match ts with
  | [.d (.int i), .d (.int j), .d (.int k)] => L3.guard (small62 i && (small62 j && decide (k = -1))) (KI (downItems i j) ρ)
  | _ => .bad
theorem i_range3 {m : MA} (h : J p (Ba m (onR3 KI)) t Rel) : J p (Bi (miR3 m) KI) t Rel := fun ρ hm => by
  have := h ρ hm
  simp only [Ba, Bi] at this ⊢
  unfold miR3
  cases er : m ρ with
  | bad => rw [er] at this; exact this
  | exc x => rw [er] at this; exact this
  | ok r =>
    rw [er] at this
    simp only [bind_okS] at this ⊢
    unfold onR3 at this
    split at this
    · rename_i i j k e
      try rw [e]
      try dsimp only
      unfold L3.guard at this ⊢
      split at this
      · rename_i hc; rw [if_pos hc]; exact this
      · rename_i hc; rw [if_neg hc]; exact this
    · rename_i hne
      first
        | exact this
        | (split
           · rename_i i j k e; exact (hne i j k e).elim
           · exact this)
theorem i_r3 {i j : Int} {t1 : List Int → R α} (h : ∀ xs, J p (KI (xs.map fun i => T.d (.int i))) (t1 xs) Rel) : J p (onR3 KI [.d (.int i), .d (.int j), .d (.int (-1))]) ((tDown i j).bind t1) Rel := fun ρ m => by
  unfold onR3 tDown tOp
  dsimp only
  rw [dnI_items]
  cases h1 : small62 i with
  | false => exact trivial
  | true =>
    cases h2 : small62 j with
    | false => exact trivial
    | true => exact h _ ρ m
/-! slices -/
def onO (m : MO) (KO : Option Int → Env → R Y) : Env → R Y := fun ρ => (ofO (m ρ)).bind fun o => KO o ρ
theorem o_none {KO : Option Int → Env → R Y} (h : J p (KO none) t Rel) : J p (onO oNone KO) t Rel := h
def onI (KO : Option Int → Env → R Y) : T → Env → R Y := fun v ρ => match v with
  | .d (.int i) => KO (some i) ρ
  | _ => .bad
theorem o_some {m : MP} {KO : Option Int → Env → R Y} (h : J p (Bp m (onI KO)) t Rel) : J p (onO (oSome m) KO) t Rel := fun ρ hm => by
  have := h ρ hm
  simp only [Bp, onO] at this ⊢
  rw [e_oSome]
  cases e : m ρ with
  | none => rw [e] at this; exact this
  | some v =>
    rw [e] at this
    cases v with
    | d d => cases d <;> exact this
    | _ => exact this
theorem o_int {j : Int} {KO : Option Int → Env → R Y} (h : J p (KO (some j)) t Rel) : J p (onI KO (.d (.int j))) t Rel := h
def onSl (op : T → Option Int → Option Int → Option RV) (v : T) (lo hi : Option Int) (K : T → Env → R Y) : Env → R Y := fun ρ => (ofO (op v lo hi)).bind fun z => K z.toT ρ
theorem x_sl {op : T → Option Int → Option Int → Option RV} {m : MP} {ml mh : MO} (h : J p (Bp m fun v => onO ml fun lo => onO mh fun hi => onSl op v lo hi K) t Rel) : J p (B (mSl op m ml mh) K) t Rel := fun ρ hm => by
  have := h ρ hm
  simpa [B, Bp, onO, onSl, mSl] using this
theorem x_slE {m : MEx} {ml mh : MO} (h : J p (B m fun v => onO ml fun lo => onO mh fun hi => onSl opSlA v lo hi K) t Rel) : J p (B (mSlE m ml mh) K) t Rel := fun ρ hm => by
  have := h ρ hm
  simpa [B, onO, onSl, mSlE] using this
theorem l_slL {e : β → PyData} {u : T} {xs : List β} {lo hi : Option Int} (hu : opSlL u lo hi = some (.nl (cutG (xs.map e) lo hi))) (h : J p (K (.ol ((tCut xs lo hi).map (dE e)))) t Rel) : J p (onSl opSlL u lo hi K) t Rel := fun ρ m => by
  unfold onSl
  rw [hu, cut_map]
  simp only [ofO_some, bind_okS, RV.toT, dmap]
  exact h ρ m
theorem l_slA {e : β → PyData} {u : T} {xs : List β} {lo hi : Option Int} (hu : opSlA u lo hi = some (.nl (cutG (xs.map e) lo hi))) (h : J p (K (.ol ((tCut xs lo hi).map (dE e)))) t Rel) : J p (onSl opSlA u lo hi K) t Rel := fun ρ m => by
  unfold onSl
  rw [hu, cut_map]
  simp only [ofO_some, bind_okS, RV.toT, dmap]
  exact h ρ m
theorem sl_o {e : β → PyData} {xs : List β} {lo hi : Option Int} : opSlL (.ol (xs.map (dE e))) lo hi = some (.nl (cutG (xs.map e) lo hi)) := by
  rw [e_slO, show T.allD (xs.map (dE e)) = some (xs.map e) from e_allDMapL]
  rfl
theorem slA_o {e : β → PyData} {xs : List β} {lo hi : Option Int} : opSlA (.ol (xs.map (dE e))) lo hi = some (.nl (cutG (xs.map e) lo hi)) := by
  rw [e_slAo, show T.allD (xs.map (dE e)) = some (xs.map e) from e_allDMapL]
  rfl
end
section
variable {Y α β : Type} {p : Pt} {t : R α} {Rel : α → Y → Prop} {K : T → Env → R Y} {i : Nat}
@[irreducible] def tIns (xs : List β) (j : Int) (x : β) : R (List β) := tOp (decide (xs.length < sLine ∧ 0 ≤ j ∧ j < 2 ^ 63)) (xs.take j.toNat ++ [x] ++ xs.drop j.toNat)
theorem m_insert {f : β → T} {xs : List β} {x : β} {j : Int} {u : T} {t1 : List β → R α} (e : p[i]? = some (some (.ol (xs.map f)))) (eu : u = f x) (h : ∀ zs, J (p.set i (some (.ol (zs.map f)))) (K (.d .none)) (t1 zs) Rel) :
    J p (onMeth i opInsert K [.d (.int j), u]) ((tIns xs j x).bind t1) Rel := fun ρ m => by
  have hg := m.get e
  have e2 : lstAt [] ρ[i]? = some (xs.map f) := by rw [hg]; rfl
  show Rf ((methK i [] _ ([.d (.int j), u], ρ)).bind _) _ _
  rw [e_methK, e2]
  simp only [ofO_some, bind_okS, e_insert, List.length_map]
  unfold tIns tOp
  cases hl : decide (xs.length < sLine ∧ 0 ≤ j ∧ j < 2 ^ 63) with
  | false => exact trivial
  | true =>
    have e3 : putAt i [] ((xs.map f).take j.toNat ++ [u] ++ (xs.map f).drop j.toNat) ρ = some (ρ.set i (some (.ol ((xs.take j.toNat ++ [x] ++ xs.drop j.toNat).map f)))) := by
      rw [e_putAt, hg, e_putK]
      subst eu
      simp [T.put?, List.map_take, List.map_drop]
    simp only [if_true, ofO_some, bind_okS, e3, e_methK4, guard_t]
    exact h _ _ m.set
end
section
variable {Y α : Type} {p : Pt} {t : R α} {Rel : α → Y → Prop} {κ : SK Y} {G : Env → R Y} {v : T}
theorem n_seq {r : T → Env → R Y} {b c : Env → R Y} (h : J p G t Rel) : J p (⟨G, r, b, c⟩ : SK Y).nx t Rel := h
theorem r_seq (h : J p (κ.rt v) t Rel) : J p ((⟨G, κ.rt, κ.bk, κ.ct⟩ : SK Y).rt v) t Rel := h
theorem b_seq (h : J p κ.bk t Rel) : J p (⟨G, κ.rt, κ.bk, κ.ct⟩ : SK Y).bk t Rel := h
theorem c_seq (h : J p κ.ct t Rel) : J p (⟨G, κ.rt, κ.bk, κ.ct⟩ : SK Y).ct t Rel := h
end
section
variable {Y α β : Type} {p : Pt} {t : R α} {Rel : α → Y → Prop} {K : T → Env → R Y} {i : Nat}
theorem x_preFz {m : MEx} {u : T} {v : PyData} (e : p[i]? = some (some u)) (f : u.fz = some v) (h : J (p.set i (some (.d v))) (B m K) t Rel) : J p (B (mPreFz i m) K) t Rel := fun ρ hm => by
  have e1 : fzSlot i ρ = .ok (ρ.set i (some (.d v))) := by
    unfold fzSlot
    rw [hm.get e]
    dsimp only
    rw [f]
  have := h _ (hm.set (i := i) (t := .d v))
  unfold B mPreFz at *
  rw [e1]
  exact this
/-- lists of a fixed length -/
theorem l_fix {us : List T} (u : T) (e : T.ol us = u) (h : J p (K u) t Rel) : J p (onLst K us) t Rel := by subst e; exact h
def onMethH (i : Nat) (c : Int) (op : List T → List T → Option (T × List T)) (us ts : List T) (K : T → Env → R Y) : List T → Env → R Y := fun as ρ => (ofO (op ts as)).bind fun z => (ofO (putAt i [c] z.2 (ρ.set i (some (.ol us))))).bind fun ρ' => K z.1 ρ'
theorem x_methH {op : List T → List T → Option (T × List T)} {c : Int} {us : List T} (ts : List T) {ma : MA} (e : p[i]? = some (some (.ol us))) (el : lstAt [c] (some (some (.ol us))) = some ts) (h : J (p.set i none) (Ba ma (onMethH i c op us ts K)) t Rel) : J p (B (mMethH i (lIx lHere (pC (.int c))) op ma) K) t Rel := fun ρ m => by
  have hg := m.get e
  have := h _ (m.unset (i := i) (x := none))
  simp only [B, Ba] at this ⊢
  unfold mMethH
  have e1 : lIx lHere (pC (.int c)) ρ = some [c] := rfl
  rw [e1]
  simp only [ofO_some, bind_okS]
  rw [hg]
  have ej : (some (some (T.ol us))).join = some (T.ol us) := rfl
  rw [ej, el]
  simp only [ofO_some, bind_okS, bind_assocS]
  unfold onMethH at this
  exact this
theorem m_appendH {f : β → T} {xs : List β} {x : β} {c : Int} {us : List T} {u : T} {t1 : List β → R α} (F : List β → T) (hi : Nat.ble (i + 1) p.length = true) (eu : u = f x) (ef : ∀ zs : List β, T.put? [c] (.ol (zs.map f)) (.ol us) = some (F zs)) (h : ∀ zs, J (p.set i (some (F zs))) (K (.d .none)) (t1 zs) Rel) :
    J p (onMethH i c opAppend us (xs.map f) K [u]) ((tApp xs x).bind t1) Rel := fun ρ m => by
  have hl : i < ρ.length := by rw [← m.len]; exact Nat.le_of_ble_eq_true hi
  unfold onMethH
  rw [e_append]
  unfold tApp tOp
  rw [List.length_map]
  cases hh : decide (xs.length < sLine) with
  | false => exact trivial
  | true =>
    have e3 : putAt i [c] ((xs.map f) ++ [u]) (ρ.set i (some (.ol us))) = some (ρ.set i (some (F (xs ++ [x])))) := by
      subst eu
      have h1 : (xs.map f) ++ [f x] = (xs ++ [x]).map f := by simp
      rw [e_putAt, List.getElem?_set_self hl, e_putK, h1, ef]
      simp
    simp only [if_true, ofO_some, bind_okS, e3, guard_t]
    exact h _ _ m.set
end
/-! what a typed term comes to -/
theorem then_op {β : Type} {b : Bool} {x : β} {P : β → Prop} {E : Str → Prop} (hb : b = true) (h : P x) : Then (tOp b x) P E := by
  subst hb
  exact h
@[simp] theorem tOp_t {β : Type} {x : β} : tOp true x = .ok x := (rfl)
end L4
/-! PT -/
/-! fractions as typed operations -/
namespace Sr
open PySem PySem.Spec PyProof.Rows L2 L3 L4
def tGcd (a b : Int) : R Int := .ok (Int.gcd a b : Nat)
theorem fn_divisor {a b : Int} : Fn m_divisor [.d (.int a), .d (.int b)] (tGcd a b) (dE eI) fun _ => [] := ⟨_, divisor_eq a b, rfl⟩
theorem fn_fraction {t b : Int} : Fn m_fraction [.d (.int t), .d (.int b)] (rMk t b) (dE fr) fun _ => [] := fn_of fun h => by
  obtain ⟨h1, h2⟩ := of_decide_eq_true h
  exact low_eq h1 h2
theorem fn_plus {q r : Rat} : Fn m_plus [.d (fr q), .d (fr r)] (rAdd q r) (dE fr) fun _ => [] := fn_of fun h => plus_eqW (of_decide_eq_true h)
theorem fn_minus {q r : Rat} : Fn m_minus [.d (fr q), .d (fr r)] (rSub q r) (dE fr) fun _ => [] := fn_of fun h => minus_eqW (of_decide_eq_true h)
theorem fn_times {q r : Rat} : Fn m_times [.d (fr q), .d (fr r)] (rMul q r) (dE fr) fun _ => [] := fn_of fun h => times_eqW (of_decide_eq_true h)
theorem fn_over {q r : Rat} : Fn m_over [.d (fr q), .d (fr r)] (rDiv q r) (dE fr) fun _ => [] := fn_of fun h => by
  obtain ⟨h1, h2⟩ := of_decide_eq_true h
  exact over_eqW h1 h2
theorem fn_below {q r : Rat} : Fn m_below [.d (fr q), .d (fr r)] (rLt q r) (dE eB) fun _ => [] := fn_of fun h => below_eqW (of_decide_eq_true h)
/-! laws k27 .. k38 -/
theorem lf_loop {mt : MT} {mb : MS} {x y : Option T} (ht : ∀ a b : Int, mt [x, y, some (.d (.int a)), some (.d (.int b))] = .ok (decide (0 < b), [x, y, some (.d (.int a)), some (.d (.int b))]))
    (hb : ∀ a b : Int, b ≠ 0 → mb [x, y, some (.d (.int a)), some (.d (.int b))] = .ok (.next [x, y, some (.d (.int b)), some (.d (.int (a.fmod b)))])) :
    ∀ (n : Nat) (a b : Int), b.natAbs ≤ n → 0 ≤ a → 0 ≤ b → mWhile mt mb [x, y, some (.d (.int a)), some (.d (.int b))] = .ok (.next [x, y, some (.d (.int (Int.gcd a b : Nat))), some (.d (.int 0))]) := by
  intro n
  induction n with
  | zero =>
    intro a b h ha _
    have : b = 0 := by omega
    subst this
    rw [mWhile_eq, ht]
    simp
    omega
  | succ n ih =>
    intro a b h ha hb0
    by_cases z : b = 0
    · subst z
      rw [mWhile_eq, ht]
      simp
      omega
    · have hm := fmod_abs a b z
      have := ih b (a.fmod b) (by omega) hb0 (Int.fmod_nonneg_of_pos a (by omega))
      have hp : 0 < b := by omega
      rw [mWhile_eq, ht]
      simp [hp, hb _ _ z, this, gcd_fmod]
theorem lf_eq {t b : Int} (hb : b ≠ 0) (hs : ib b ≤ 9000) : m__law_f [.d (.int t), .d (.int b)] = .ok (.d (fr (Rat.divInt t b)), []) := by
  have hd1 : divOk t (lowM t b) = true := divOk_ib (lowM_ne hb) (Nat.le_trans (lowM_ib hb) hs)
  have hd2 : divOk b (lowM t b) = true := divOk_ib (lowM_ne hb) (Nat.le_trans (lowM_ib hb) hs)
  have e := fr_low (t := t) hb
  have hg : Int.gcd (t.natAbs : Int) (b.natAbs : Int) = Int.gcd t b := by simp [Int.gcd]
  have hw := lf_loop (x := some (.d (.int t))) (y := some (.d (.int b))) (mt := mTest (mLift (pBin opGt (pVar 3) (pC (.int 0))))) (mb := mPar 2 3 (mCons (mVar 3) (mCons (mLift (pBin opMod (pVar 2) (pVar 3))) (mNil)))) (fun a b => by simp) (fun a b h => by simp [h]) b.natAbs (t.natAbs : Int) (b.natAbs : Int) (by simp) (by omega) (by omega)
  rw [hg] at hw
  unfold m__law_f
  unfold lowM at hd1 hd2 e
  by_cases h : b < 0
  · rw [if_pos h] at hd1 hd2 e
    simp at hd1 hd2 e
    simp [hw, h, hd1, hd2, e]
  · rw [if_neg h] at hd1 hd2 e
    simp [hw, h, hd1, hd2, e]
theorem fn_lf {t b : Int} : Fn m__law_f [.d (.int t), .d (.int b)] (rMk t b) (dE fr) fun _ => [] := fn_of fun h => by
  obtain ⟨h1, h2⟩ := of_decide_eq_true h
  exact lf_eq h1 h2
theorem den_ne (q r : Rat) : (q.den : Int) * r.den ≠ 0 := by
  have := q.den_nz
  have := r.den_nz
  exact Int.mul_ne_zero (by omega) (by omega)
theorem fn_lplus3 {q r : Rat} : Fn m__law_plus_3 [.d (fr q), .d (fr r)] (rAdd q r) (dE fr) fun _ => [] := fn_of fun h => by
  obtain ⟨hd, h⟩ := of_decide_eq_true h
  have a := hq_num q
  have b := hq_num r
  have c := hq_denI q
  have d := hq_denI r
  have m := dq_bot q r
  have h1 : mulOk q.num r.den = true := mulOk_ib (by omega)
  have h2 : mulOk r.num q.den = true := mulOk_ib (by omega)
  have h3 : mulOk q.den r.den = true := mulOk_ib (by omega)
  unfold m__law_plus_3
  rw [fr_def, fr_def]
  simp [h1, h2, h3, lf_eq (den_ne q r) (by omega), add_divInt q r]
theorem fn_ltimes2 {q r : Rat} : Fn m__law_times_2 [.d (fr q), .d (fr r)] (rMul q r) (dE fr) fun _ => [] := fn_of fun h => by
  obtain ⟨hd, h⟩ := of_decide_eq_true h
  have a := hq_num q
  have b := hq_num r
  have c := hq_denI q
  have d := hq_denI r
  have m := dq_bot q r
  have h1 : mulOk q.num r.num = true := mulOk_ib (by omega)
  have h3 : mulOk q.den r.den = true := mulOk_ib (by omega)
  unfold m__law_times_2
  rw [fr_def, fr_def]
  simp [h1, h3, lf_eq (den_ne q r) (by omega), mul_divInt q r]
end Sr
/-! L4b -/
/-! L4b: typed: looks at expressions, list(zip(a, b)), a clause without a name. -/
namespace L4
open PySem PySem.Spec PyProof.Rows L2 L3
section
variable {X Y α β γ δ : Type} {p : Pt} {t t2 : R α} {Rel : α → Y → Prop} {K : T → Env → R Y} {i : Nat} {κ : SK Y}
/-- the slots frozen -/
inductive Fzp : Pt → Pt → Prop
  | nil : Fzp [] []
  | none {o : Option T} {a b : Pt} : Fzp a b → Fzp (o :: a) (none :: b)
  | some {u : T} {x : PyData} {a b : Pt} : u.fz = some x → Fzp a b → Fzp (some u :: a) (some (.d x) :: b)
theorem Fzp.mt : ∀ {a b : Pt} {ρ : Env}, Fzp a b → Mt a ρ → Mt b (fzEnv ρ)
  | _, _, [], .nil, _ => trivial
  | _, _, o :: ρ, .none (o := Option.none) h, m => h.mt (ρ := ρ) m
  | _, _, o :: ρ, .none (o := Option.some _) h, m => h.mt (ρ := ρ) m.2
  | _, _, o :: ρ, .some (u := u) (x := x) e h, m => by
    refine ⟨?_, h.mt (ρ := ρ) m.2⟩
    show fzO o = _
    rw [m.1]
    show (u.fz).map T.d = _
    rw [e]; rfl
  | _, _, [], .none (o := Option.none) h, m => m.elim
  | _, _, [], .none (o := Option.some _) h, m => m.elim
  | _, _, [], .some e h, m => m.elim
  | _, _, _ :: _, .nil, m => m.elim
theorem x_lookE {m : MEx} {p' q : Pt} {t0 : R β} {t1 : β → R α} {e : β → PyData} (w : Fzp p p') (hc : ∀ a, calm (e a) = true) (h0 : J p' (B m kV) t0 (endV (fun a => .d (e a)) fun _ => q)) (h : ∀ a, J p (K (.d (e a))) (t1 a) Rel) :
    J p (B (mLookE m) K) (t0.bind t1) Rel := fun ρ hm => by
  have h1 := h0 _ (w.mt hm)
  have e0 : B m kV (fzEnv ρ) = m (fzEnv ρ) := by
    unfold B
    cases m (fzEnv ρ) <;> rfl
  rw [e0] at h1
  show Rf ((mLookE m ρ).bind _) _ Rel
  unfold mLookE
  rw [bind_assocS]
  refine Rf.bind h1 ?_
  rintro a ⟨u, r⟩ ⟨e1, e2⟩
  subst e1
  show Rf ((guard (calm (e a)) (.ok (T.d (e a), ρ))).bind _) _ Rel
  rw [guard_true (hc a)]
  exact h a ρ hm
theorem calm_fr (q : Rat) : calm (fr q) = true := rfl
theorem calm_int (i : Int) : calm (eI i) = true := rfl
def onLZ (K : T → Env → R Y) : List T → Env → R Y := fun vs => match vs with
  | [.d (.list ds), .d (.list es)] => K (.ol (zipItems ds es))
  | _ => fun _ => .bad
theorem x_listZip {m : MA} (h : J p (Ba m (onLZ K)) t Rel) : J p (B (mListZip m) K) t Rel := fun ρ hm => by
  have := h ρ hm
  show Rf ((mListZip m ρ).bind _) t Rel
  unfold mListZip
  unfold Ba at this
  cases hm' : m ρ with
  | bad => rw [hm'] at this; exact this
  | exc c => rw [hm'] at this; exact this
  | ok r =>
    rw [hm'] at this
    obtain ⟨vs, ρ1⟩ := r
    have h2 : Rf (onLZ K vs ρ1) t Rel := this
    rw [bind_okS]
    unfold onLZ at h2
    split at h2
    · exact h2
    · rename_i hn
      first
        | exact h2
        | (split
           · rename_i ds es e
             exact (hn ds es e).elim
           · exact h2)
theorem l_lz {e : β → PyData} {f : γ → PyData} {xs : List β} {ys : List γ} (h : J p (K (oL (dE (eT2 e f)) (xs.zip ys))) t Rel) : J p (onLZ K [dE (eL e) xs, dE (eL f) ys]) t Rel := by
  show J p (K (.ol (zipItems (xs.map e) (ys.map f)))) t Rel
  rw [zip_items]
  exact h
def tTry (xs : List Str) (t0 th : R β) : R β := match t0 with
  | .exc x => if xs.contains x then th else .bad
  | r => r
theorem s_tryO {xs : List Str} {mh mb : MS} {t0 th : R β} {t1 : β → R α} {q : β → Pt} (h0 : J p (Bs mb kO) t0 (endN q)) (hh : J (List.replicate p.length none) (Bs mh kO) th (endN q)) (h : ∀ a, J (q a) κ.nx (t1 a) Rel) :
    J p (Bs (mTryO xs mh mb) κ) ((tTry xs t0 th).bind t1) Rel := fun ρ hm => by
  have h1 := h0 ρ hm
  rw [kO_ap] at h1
  have key : Rf (mTryO xs mh mb ρ) (tTry xs t0 th) (endN q) := by
    unfold mTryO tTry
    cases t0 with
    | bad => exact trivial
    | ok a =>
      obtain ⟨x, e, r⟩ := h1
      rw [e]
      exact ⟨x, rfl, r⟩
    | exc c =>
      have e : mb ρ = .exc c := h1
      rw [e]
      dsimp only
      by_cases hc : xs.contains c = true
      · rw [if_pos hc, if_pos hc]
        have := hh (List.replicate ρ.length none) (by
          rw [← hm.len]
          generalize p.length = n
          induction n with
          | zero => exact trivial
          | succ n ih => exact ih)
        rw [kO_ap] at this
        exact this
      · rw [if_neg hc, if_neg hc]
        exact trivial
  show Rf ((mTryO xs mh mb ρ).bind κ.ap) _ Rel
  refine Rf.bind key ?_
  rintro a o ⟨r, e, hr⟩
  subst e
  exact h a r hr
instance decW : DecidableEq (List Rat × List Rat × Rat) := inferInstance
instance decWW : DecidableEq (List (List Rat × List Rat × Rat) × List (List Rat × List Rat × Rat)) := inferInstance
instance decRule : DecidableEq (List (List (List Rat × List Rat × Rat) × List (List Rat × List Rat × Rat)) × List (List Rat × List Rat × Rat)) := inferInstance
theorem tup_neg2 {q : Rat} : mkTup [.d (.int (-q.num)), .d (.int ((q.den : Nat) : Int))] = .d (fr (-q)) := by
  have := tup_neg (q := q)
  rwa [Int.zero_sub] at this
theorem Nice.opt {e : β → PyData} {k : Nat} (h : Nice e k) (hn : ∀ a, e a ≠ .none) : Nice (eO e) k := ⟨fun a b z => by
  cases a with
  | none => cases b with
    | none => rfl
    | some b => exact (hn b z.symm).elim
  | some a => cases b with
    | none => exact (hn a z).elim
    | some b => rw [h.inj _ _ z], fun a n => by
  cases a with
  | none => exact (nice_N.up (Nat.zero_le k)).plk () n
  | some a => exact h.plk a n⟩
theorem m_reverse {f : β → T} {xs : List β} (e : p[i]? = some (some (.ol (xs.map f)))) (h : J (p.set i (some (.ol (xs.reverse.map f)))) (K (.d .none)) t Rel) : J p (onMeth i opReverse K []) t Rel := fun ρ m => by
  have hg := m.get e
  have e2 : lstAt [] ρ[i]? = some (xs.map f) := by rw [hg]; rfl
  have e3 : opReverse (xs.map f) [] = some (T.d .none, xs.reverse.map f) := by unfold opReverse; rw [List.map_reverse]
  show Rf ((methK i [] _ ([], ρ)).bind _) _ _
  rw [e_methK, e2]
  simp only [ofO_some, bind_okS, e3]
  have e4 : L3.putAt i [] (xs.reverse.map f) ρ = some (ρ.set i (some (.ol (xs.reverse.map f)))) := by
    rw [e_putAt, hg, e_putK]
    simp [T.put?]
  simp only [e4, ofO_some, bind_okS, e_methK4]
  exact h _ m.set
end
end L4
/-! PT2 -/
/-! fractions of the laws k19 .. k25 -/
namespace Sr
open PySem PySem.Spec PyProof.Rows L2 L3 L4
theorem lfrac_eq {t b : Int} (hb : 0 < b) (hs : ib b ≤ 9000) : m__law_frac [.d (.int t), .d (.int b)] = .ok (.d (fr (Rat.divInt t b)), []) := by
  have hb0 : b ≠ 0 := by omega
  have hd1 : divOk t (lowM t b) = true := divOk_ib (lowM_ne hb0) (Nat.le_trans (lowM_ib hb0) hs)
  have hd2 : divOk b (lowM t b) = true := divOk_ib (lowM_ne hb0) (Nat.le_trans (lowM_ib hb0) hs)
  have e := fr_low (t := t) hb0
  have hg : Int.gcd (t.natAbs : Int) b = Int.gcd t b := by simp [Int.gcd]
  have hw := lf_loop (x := some (.d (.int t))) (y := some (.d (.int b))) (mt := mTest (mLift (pBin opGt (pVar 3) (pC (.int 0))))) (mb := mPar 2 3 (mCons (mVar 3) (mCons (mLift (pBin opMod (pVar 2) (pVar 3))) (mNil)))) (fun a b => by simp) (fun a b h => by simp [h]) b.natAbs (t.natAbs : Int) b (by simp) (by omega) (by omega)
  rw [hg] at hw
  unfold m__law_frac
  unfold lowM at hd1 hd2 e
  rw [if_neg (by omega)] at hd1 hd2 e
  simp [hw, hd1, hd2, e]
theorem fn_lfrac {t b : Int} : Fn m__law_frac [.d (.int t), .d (.int b)] (rMkP t b) (dE fr) fun _ => [] := fn_of fun h => by
  obtain ⟨h1, h2⟩ := of_decide_eq_true h
  exact lfrac_eq h1 h2
theorem den_pos2 (q r : Rat) : 0 < (q.den : Int) * r.den := by
  have := q.den_pos
  have := r.den_pos
  exact Int.mul_pos (by omega) (by omega)
theorem fn_lplus4 {q r : Rat} : Fn m__law_plus_4 [.d (fr q), .d (fr r)] (rAdd q r) (dE fr) fun _ => [] := fn_of fun h => by
  obtain ⟨hd, h⟩ := of_decide_eq_true h
  have a := hq_num q
  have b := hq_num r
  have c := hq_denI q
  have d := hq_denI r
  have m := dq_bot q r
  have h1 : mulOk q.num r.den = true := mulOk_ib (by omega)
  have h2 : mulOk r.num q.den = true := mulOk_ib (by omega)
  have h3 : mulOk q.den r.den = true := mulOk_ib (by omega)
  unfold m__law_plus_4
  rw [fr_def, fr_def]
  simp [h1, h2, h3, lfrac_eq (den_pos2 q r) (by omega), add_divInt q r]
theorem fn_ltimes3 {q r : Rat} : Fn m__law_times_3 [.d (fr q), .d (fr r)] (rMul q r) (dE fr) fun _ => [] := fn_of fun h => by
  obtain ⟨hd, h⟩ := of_decide_eq_true h
  have a := hq_num q
  have b := hq_num r
  have c := hq_denI q
  have d := hq_denI r
  have m := dq_bot q r
  have h1 : mulOk q.num r.num = true := mulOk_ib (by omega)
  have h3 : mulOk q.den r.den = true := mulOk_ib (by omega)
  unfold m__law_times_3
  rw [fr_def, fr_def]
  simp [h1, h3, lfrac_eq (den_pos2 q r) (by omega), mul_divInt q r]
theorem fn_lless2 {q r : Rat} : Fn m__law_less_2 [.d (fr q), .d (fr r)] (rLt q r) (dE eB) fun _ => [] := fn_of fun h => by
  have h := of_decide_eq_true h
  have a := hq_num q
  have b := hq_num r
  have c := hq_denI q
  have d := hq_denI r
  have h1 : mulOk q.num r.den = true := mulOk_ib (by omega)
  have h2 : mulOk r.num q.den = true := mulOk_ib (by omega)
  unfold m__law_less_2
  rw [fr_def, fr_def]
  simp [h1, h2, Rat.lt_iff]
end Sr
/-! MT -/
namespace Sr
open PySem PySem.Spec PyProof.Rows L2 L3 L4
@[irreducible] noncomputable def t__law_cell_2 (script1 : (List Int)) (k2 : Int) : R Int :=
  if k2 < (tLen script1) then (tIdx script1 k2).bind fun x3 => .ok x3 else (tMul (5 : Int) k2).bind fun v4 => (tMul v4 k2).bind fun v5 => (tMul (9 : Int) k2).bind fun v6 => .ok ((v5 + v6) + (7 : Int))
theorem fn_t__law_cell_2 {script1 : (List Int)} {k2 : Int} : Fn m__law_cell_2 [(fun xs : List Int => T.rd (xs.map PyData.int)) script1, (dE eI) k2] (t__law_cell_2 script1 k2) (fun a : Int => (dE eI) a) (fun a => []) := by
  unfold m__law_cell_2 t__law_cell_2
  exact fn_j (p := [some ((fun xs : List Int => T.rd (xs.map PyData.int)) script1), some ((dE eI) k2)]) rfl (s_seq (s_if (t_test (x_lift (p_bin (p_var rfl (p_callB (z_cons (p_var rfl (z_nil (v_ok len_r (v_ok rfl (x_onlyD (t_onB (g_ite (by first | rfl | simp) (fun _ => s_ret (x_lift (p_bin (p_var rfl (p_var rfl (v_r ro_idxR fun x3 => x_onlyD (r_seq (f_ret (a := x3) (F := (fun a : Int => (dE eI) a)) (G := (fun a : Int => [])) rfl (by rfl) (by rfl))))))))) (fun _ => s_next (n_seq (s_ret (x_lift (p_bin (p_bin (p_bin (p_bin (p_c (p_var rfl (v_r ro_mul fun v4 => p_var rfl (v_r ro_mul fun v5 => p_bin (p_c (p_var rfl (v_r ro_mul fun v6 => v_ok rfl (p_c (v_ok rfl (x_onlyD (f_ret (a := ((v5 + v6) + (7 : Int))) (F := (fun a : Int => (dE eI) a)) (G := (fun a : Int => [])) rfl (by rfl) (by rfl)))))))))))))))))))))))))))))))))))
@[irreducible] noncomputable def t__law_state (script1 : (List Int)) (k2 : Int) : R (Int × Bool × Int) :=
  (t__law_cell_2 script1 k2).nx.bind fun r3 => (t__law_cell_2 script1 (0 : Int)).nx.bind fun r4 => (tMod r4 (2 : Int)).bind fun v5 => .ok (r3, (decide (v5 = (1 : Int))), k2)
theorem fn_t__law_state {script1 : (List Int)} {k2 : Int} : Fn m__law_state [(fun xs : List Int => T.rd (xs.map PyData.int)) script1, (dE eI) k2] (t__law_state script1 k2) (fun a : (Int × Bool × Int) => (fun s : (Int × Bool × Int) => T.od [.inr "rest", .inr "mixed", .inr "turn"] [(dE eI) (s.1), (dE eB) (s.2.1), (dE eI) (s.2.2)]) a) (fun a => []) := by
  unfold m__law_state t__law_state
  exact fn_j (p := [some ((fun xs : List Int => T.rd (xs.map PyData.int)) script1), some ((dE eI) k2)]) rfl (s_ret (x_disp (a_cons (x_call (b_cons (x_rd rfl (b_cons (x_d rfl (b_nil (c_end rfl fn_t__law_cell_2 rfl (fun _ => rfl) fun r3 => a_cons (x_bin (x_bin (x_call (b_cons (x_rd rfl (b_cons (x_lift (p_c (x_onlyD (b_nil (c_end rfl fn_t__law_cell_2 rfl (fun _ => rfl) fun r4 => x_lift (p_c (x_onlyD (o_r ro_mod fun v5 => x_lift (p_c (x_onlyD (o_ok rfl (a_cons (x_d rfl (a_nil (l_disp ((fun s : (Int × Bool × Int) => T.od [.inr "rest", .inr "mixed", .inr "turn"] [(dE eI) (s.1), (dE eB) (s.2.1), (dE eI) (s.2.2)]) (r3, (decide (v5 = (1 : Int))), k2)) (by rfl) rfl (f_ret (a := (r3, (decide (v5 = (1 : Int))), k2)) (F := (fun a : (Int × Bool × Int) => (fun s : (Int × Bool × Int) => T.od [.inr "rest", .inr "mixed", .inr "turn"] [(dE eI) (s.1), (dE eB) (s.2.1), (dE eI) (s.2.2)]) a)) (G := (fun a : (Int × Bool × Int) => [])) rfl (by rfl) (by rfl)))))))))))))))))))))))))))))))))
@[irreducible] noncomputable def t__law_take_3 (state1 : (Int × Bool × Int)) (many2 : Int) : R (Int × (Int × Bool × Int)) :=
  if (!state1.2.1) = true then (tMod state1.1 many2).bind fun v3 => (tFdiv state1.1 many2).bind fun v4 => (R.ok (v4, state1.2.1, state1.2.2)).bind fun state5 => .ok (v3, state5) else (R.ok (state1.1, state1.2.1, (state1.2.2 + (1 : Int)))).bind fun state6 => (tMod state6.1 (2147483579 : Int)).bind fun v7 => (tMul (70001 : Int) state6.2.2).bind fun v8 => (tMod (v7 + v8) (2147483579 : Int)).bind fun v9 => (tMul v9 v9).bind fun v10 => (tMod v10 (2147483563 : Int)).bind fun v11 => (tMul v11 (50021 : Int)).bind fun v12 => (tMod (v12 + (7 : Int)) (2147483579 : Int)).bind fun v13 => (R.ok (v13, state6.2.1, state6.2.2)).bind fun state14 => (tFdiv state14.1 (5 : Int)).bind fun v15 => (tMod v15 many2).bind fun v16 => .ok (v16, state14)
theorem fn_t__law_take_3 {state1 : (Int × Bool × Int)} {many2 : Int} : Fn m__law_take_3 [(fun s : (Int × Bool × Int) => T.od [.inr "rest", .inr "mixed", .inr "turn"] [(dE eI) (s.1), (dE eB) (s.2.1), (dE eI) (s.2.2)]) state1, (dE eI) many2] (t__law_take_3 state1 many2) (fun a : (Int × (Int × Bool × Int)) => (dE eI) a.1) (fun a => [(fun s : (Int × Bool × Int) => T.od [.inr "rest", .inr "mixed", .inr "turn"] [(dE eI) (s.1), (dE eB) (s.2.1), (dE eI) (s.2.2)]) a.2]) := by
  unfold m__law_take_3 t__law_take_3
  exact fn_j (p := [some ((fun s : (Int × Bool × Int) => T.od [.inr "rest", .inr "mixed", .inr "turn"] [(dE eI) (s.1), (dE eB) (s.2.1), (dE eI) (s.2.2)]) state1), some ((dE eI) many2), none, none]) rfl (s_seq (s_if (t_not (t_truth (p_bin (p_var rfl (p_c (v_key (n := 1) ((dE eB) state1.2.1) rfl (by decide) (by rfl) (t_tru rfl (g_ite dec_self (fun _ => s_seq (s_asg (x_lift (p_bin (p_bin (p_var rfl (p_c (v_key (n := 0) ((dE eI) state1.1) rfl (by decide) (by rfl) (p_var rfl (v_r ro_mod fun v3 => x_onlyD (g_name (n_seq (s_seq (s_keySet rfl (x_lift (p_bin (p_bin (p_var rfl (p_c (v_key (n := 0) ((dE eI) state1.1) rfl (by decide) (by rfl) (p_var rfl (v_r ro_fdiv fun v4 => x_onlyD (ks_endN ((fun s : (Int × Bool × Int) => T.od [.inr "rest", .inr "mixed", .inr "turn"] [(dE eI) (s.1), (dE eB) (s.2.1), (dE eI) (s.2.2)])) 0 (v4, state1.2.1, state1.2.2) (by rfl) (by decide) (by decide) (by rfl) fun state5 => n_seq (s_ret (x_d rfl (r_seq (f_ret (a := (v3, state5)) (F := (fun a : (Int × (Int × Bool × Int)) => (dE eI) a.1)) (G := (fun a : (Int × (Int × Bool × Int)) => [(fun s : (Int × Bool × Int) => T.od [.inr "rest", .inr "mixed", .inr "turn"] [(dE eI) (s.1), (dE eB) (s.2.1), (dE eI) (s.2.2)]) a.2])) rfl (by rfl) (by rfl)))))))))))))))))))))))))))) (fun _ => s_next (n_seq (s_seq (s_keySet rfl (x_lift (p_bin (p_bin (p_var rfl (p_c (v_key (n := 2) ((dE eI) state1.2.2) rfl (by decide) (by rfl) (p_c (v_ok rfl (x_onlyD (ks_endN ((fun s : (Int × Bool × Int) => T.od [.inr "rest", .inr "mixed", .inr "turn"] [(dE eI) (s.1), (dE eB) (s.2.1), (dE eI) (s.2.2)])) 2 (state1.1, state1.2.1, (state1.2.2 + (1 : Int))) (by rfl) (by decide) (by decide) (by rfl) fun state6 => n_seq (s_seq (s_asg (x_lift (p_bin (p_bin (p_bin (p_bin (p_var rfl (p_c (v_key (n := 0) ((dE eI) state6.1) rfl (by decide) (by rfl) (p_c (v_r ro_mod fun v7 => p_bin (p_c (p_bin (p_var rfl (p_c (v_key (n := 2) ((dE eI) state6.2.2) rfl (by decide) (by rfl) (v_r ro_mul fun v8 => v_ok rfl (p_c (v_r ro_mod fun v9 => x_onlyD (g_name (n_seq (s_seq (s_asg (x_lift (p_bin (p_bin (p_var rfl (p_var rfl (v_r ro_mul fun v10 => p_c (v_r ro_mod fun v11 => x_onlyD (g_name (n_seq (s_seq (s_keySet rfl (x_lift (p_bin (p_bin (p_bin (p_var rfl (p_c (v_r ro_mul fun v12 => p_c (v_ok rfl (p_c (v_r ro_mod fun v13 => x_onlyD (ks_endN ((fun s : (Int × Bool × Int) => T.od [.inr "rest", .inr "mixed", .inr "turn"] [(dE eI) (s.1), (dE eB) (s.2.1), (dE eI) (s.2.2)])) 0 (v13, state6.2.1, state6.2.2) (by rfl) (by decide) (by decide) (by rfl) fun state14 => n_seq (s_ret (x_lift (p_bin (p_bin (p_bin (p_var rfl (p_c (v_key (n := 0) ((dE eI) state14.1) rfl (by decide) (by rfl) (p_c (v_r ro_fdiv fun v15 => p_var rfl (v_r ro_mod fun v16 => x_onlyD (f_ret (a := (v16, state14)) (F := (fun a : (Int × (Int × Bool × Int)) => (dE eI) a.1)) (G := (fun a : (Int × (Int × Bool × Int)) => [(fun s : (Int × Bool × Int) => T.od [.inr "rest", .inr "mixed", .inr "turn"] [(dE eI) (s.1), (dE eB) (s.2.1), (dE eI) (s.2.2)]) a.2])) rfl (by rfl) (by rfl)))))))))))))))))))))))))))))))))))))))))))))))))))))))))))))))))))))))))))))))))))
@[irreducible] noncomputable def t__law_some (state1 : (Int × Bool × Int)) : R (Rat × (Int × Bool × Int)) :=
  (t__law_take_3 state1 (8 : Int)).nx.bind fun r2 => if r2.1 = (7 : Int) then (tPow (10 : Int) (12 : Int)).bind fun v3 => (t__law_take_3 r2.2 v3).nx.bind fun r4 => (tPow (10 : Int) (11 : Int)).bind fun v5 => (tMul (5 : Int) v5).bind fun v6 => (t__law_take_3 r4.2 (97 : Int)).nx.bind fun r7 => (rMkP (r4.1 - v6) ((1 : Int) + r7.1)).nx.bind fun r8 => .ok (r8, r7.2) else if r2.1 < (3 : Int) then (t__law_take_3 r2.2 (19 : Int)).nx.bind fun r9 => .ok ((((r9.1 - (9 : Int)) : Int) : Rat), r9.2) else (t__law_take_3 r2.2 (41 : Int)).nx.bind fun r10 => (t__law_take_3 r10.2 (6 : Int)).nx.bind fun r11 => (rMkP (r10.1 - (20 : Int)) ((1 : Int) + r11.1)).nx.bind fun r12 => .ok (r12, r11.2)
theorem fn_t__law_some {state1 : (Int × Bool × Int)} : Fn m__law_some [(fun s : (Int × Bool × Int) => T.od [.inr "rest", .inr "mixed", .inr "turn"] [(dE eI) (s.1), (dE eB) (s.2.1), (dE eI) (s.2.2)]) state1] (t__law_some state1) (fun a : (Rat × (Int × Bool × Int)) => (dE fr) a.1) (fun a => [(fun s : (Int × Bool × Int) => T.od [.inr "rest", .inr "mixed", .inr "turn"] [(dE eI) (s.1), (dE eB) (s.2.1), (dE eI) (s.2.2)]) a.2]) := by
  unfold m__law_some t__law_some
  exact fn_j (p := [some ((fun s : (Int × Bool × Int) => T.od [.inr "rest", .inr "mixed", .inr "turn"] [(dE eI) (s.1), (dE eB) (s.2.1), (dE eI) (s.2.2)]) state1), none]) rfl (s_seq (s_asg (x_call (b_io rfl (b_cons (x_lift (p_c (x_onlyD (b_nil (c_end rfl fn_t__law_take_3 rfl (fun _ => rfl) fun r2 => g_name (n_seq (s_seq (s_if (t_test (x_lift (p_bin (p_var rfl (p_c (v_ok rfl (x_onlyD (t_onB (g_ite (by first | rfl | simp) (fun _ => s_ret (x_call (b_cons (x_bin (x_call (b_io rfl (b_cons (x_lift (p_bin (p_c (p_c (v_r ro_pow fun v3 => x_onlyD (b_nil (c_end rfl fn_t__law_take_3 rfl (fun _ => rfl) fun r4 => x_lift (p_bin (p_c (p_bin (p_c (p_c (v_r ro_pow fun v5 => v_r ro_mul fun v6 => x_onlyD (o_ok rfl (b_cons (x_bin (x_lift (p_c (x_onlyD (x_call (b_io rfl (b_cons (x_lift (p_c (x_onlyD (b_nil (c_end rfl fn_t__law_take_3 rfl (fun _ => rfl) fun r7 => o_ok rfl (b_nil (c_end rfl fn_lfrac rfl (fun _ => rfl) fun r8 => r_seq (f_ret (a := (r8, r7.2)) (F := (fun a : (Rat × (Int × Bool × Int)) => (dE fr) a.1)) (G := (fun a : (Rat × (Int × Bool × Int)) => [(fun s : (Int × Bool × Int) => T.od [.inr "rest", .inr "mixed", .inr "turn"] [(dE eI) (s.1), (dE eB) (s.2.1), (dE eI) (s.2.2)]) a.2])) rfl (by rfl) (by rfl)))))))))))))))))))))))))))))))))))))) (fun _ => s_next (n_seq (s_seq (s_if (t_test (x_lift (p_bin (p_var rfl (p_c (v_ok rfl (x_onlyD (t_onB (g_ite (by first | rfl | simp) (fun _ => s_ret (x_tupO (a_cons (x_bin (x_call (b_io rfl (b_cons (x_lift (p_c (x_onlyD (b_nil (c_end rfl fn_t__law_take_3 rfl (fun _ => rfl) fun r9 => x_lift (p_c (x_onlyD (o_ok rfl (a_cons (x_lift (p_c (x_onlyD (a_nil (l_tup (.d (fr (((r9.1 - (9 : Int)) : Int) : Rat))) (by rfl) (r_seq (f_ret (a := ((((r9.1 - (9 : Int)) : Int) : Rat), r9.2)) (F := (fun a : (Rat × (Int × Bool × Int)) => (dE fr) a.1)) (G := (fun a : (Rat × (Int × Bool × Int)) => [(fun s : (Int × Bool × Int) => T.od [.inr "rest", .inr "mixed", .inr "turn"] [(dE eI) (s.1), (dE eB) (s.2.1), (dE eI) (s.2.2)]) a.2])) rfl (by rfl) (by rfl)))))))))))))))))))))))) (fun _ => s_next (n_seq (s_ret (x_call (b_cons (x_bin (x_call (b_io rfl (b_cons (x_lift (p_c (x_onlyD (b_nil (c_end rfl fn_t__law_take_3 rfl (fun _ => rfl) fun r10 => x_lift (p_c (x_onlyD (o_ok rfl (b_cons (x_bin (x_lift (p_c (x_onlyD (x_call (b_io rfl (b_cons (x_lift (p_c (x_onlyD (b_nil (c_end rfl fn_t__law_take_3 rfl (fun _ => rfl) fun r11 => o_ok rfl (b_nil (c_end rfl fn_lfrac rfl (fun _ => rfl) fun r12 => f_ret (a := (r12, r11.2)) (F := (fun a : (Rat × (Int × Bool × Int)) => (dE fr) a.1)) (G := (fun a : (Rat × (Int × Bool × Int)) => [(fun s : (Int × Bool × Int) => T.od [.inr "rest", .inr "mixed", .inr "turn"] [(dE eI) (s.1), (dE eB) (s.2.1), (dE eI) (s.2.2)]) a.2])) rfl (by rfl) (by rfl))))))))))))))))))))))))))))))))))))))))))))))))))))))))))))))))))))
@[irreducible] noncomputable def t__law_bounds_3 (state1 : (Int × Bool × Int)) : R ((Rat × Rat) × (Int × Bool × Int)) :=
  (t__law_some state1).nx.bind fun r2 => (t__law_take_3 r2.2 (9 : Int)).nx.bind fun r3 => (t__law_take_3 r3.2 (3 : Int)).nx.bind fun r4 => (rMkP r3.1 ((1 : Int) + r4.1)).nx.bind fun r5 => (rAdd r2.1 r5).nx.bind fun r6 => .ok ((r2.1, r6), r4.2)
theorem fn_t__law_bounds_3 {state1 : (Int × Bool × Int)} : Fn m__law_bounds_3 [(fun s : (Int × Bool × Int) => T.od [.inr "rest", .inr "mixed", .inr "turn"] [(dE eI) (s.1), (dE eB) (s.2.1), (dE eI) (s.2.2)]) state1] (t__law_bounds_3 state1) (fun a : ((Rat × Rat) × (Int × Bool × Int)) => (dE (eT2 fr fr)) a.1) (fun a => [(fun s : (Int × Bool × Int) => T.od [.inr "rest", .inr "mixed", .inr "turn"] [(dE eI) (s.1), (dE eB) (s.2.1), (dE eI) (s.2.2)]) a.2]) := by
  unfold m__law_bounds_3 t__law_bounds_3
  exact fn_j (p := [some ((fun s : (Int × Bool × Int) => T.od [.inr "rest", .inr "mixed", .inr "turn"] [(dE eI) (s.1), (dE eB) (s.2.1), (dE eI) (s.2.2)]) state1), none]) rfl (s_seq (s_asg (x_call (b_io rfl (b_nil (c_end rfl fn_t__law_some rfl (fun _ => rfl) fun r2 => g_name (n_seq (s_ret (x_tupO (a_cons (x_d rfl (a_cons (x_call (b_cons (x_d rfl (b_cons (x_call (b_cons (x_call (b_io rfl (b_cons (x_lift (p_c (x_onlyD (b_nil (c_end rfl fn_t__law_take_3 rfl (fun _ => rfl) fun r3 => b_cons (x_bin (x_lift (p_c (x_onlyD (x_call (b_io rfl (b_cons (x_lift (p_c (x_onlyD (b_nil (c_end rfl fn_t__law_take_3 rfl (fun _ => rfl) fun r4 => o_ok rfl (b_nil (c_end rfl fn_lfrac rfl (fun _ => rfl) fun r5 => b_nil (c_end rfl fn_lplus4 rfl (fun _ => rfl) fun r6 => a_nil (l_tup ((dE (eT2 fr fr)) (r2.1, r6)) (by rfl) (f_ret (a := ((r2.1, r6), r4.2)) (F := (fun a : ((Rat × Rat) × (Int × Bool × Int)) => (dE (eT2 fr fr)) a.1)) (G := (fun a : ((Rat × Rat) × (Int × Bool × Int)) => [(fun s : (Int × Bool × Int) => T.od [.inr "rest", .inr "mixed", .inr "turn"] [(dE eI) (s.1), (dE eB) (s.2.1), (dE eI) (s.2.2)]) a.2])) rfl (by rfl) (by rfl))))))))))))))))))))))))))))))))))))))))))))
@[irreducible] noncomputable def t__law_weight (state1 : (Int × Bool × Int)) : R (Rat × (Int × Bool × Int)) :=
  (t__law_take_3 state1 (12 : Int)).nx.bind fun r2 => if r2.1 < (10 : Int) then (tIdx ([(0 : Rat), (0 : Rat), (1 : Rat), (-1 : Rat), (1 : Rat), (-1 : Rat), (2 : Rat), (mkRat (-3) 2), (mkRat 1 3), (-2 : Rat)]) r2.1).bind fun x3 => .ok (x3, r2.2) else (t__law_take_3 r2.2 (41 : Int)).nx.bind fun r4 => (t__law_take_3 r4.2 (6 : Int)).nx.bind fun r5 => (rMkP (r4.1 - (20 : Int)) ((1 : Int) + r5.1)).nx.bind fun r6 => .ok (r6, r5.2)
theorem fn_t__law_weight {state1 : (Int × Bool × Int)} : Fn m__law_weight [(fun s : (Int × Bool × Int) => T.od [.inr "rest", .inr "mixed", .inr "turn"] [(dE eI) (s.1), (dE eB) (s.2.1), (dE eI) (s.2.2)]) state1] (t__law_weight state1) (fun a : (Rat × (Int × Bool × Int)) => (dE fr) a.1) (fun a => [(fun s : (Int × Bool × Int) => T.od [.inr "rest", .inr "mixed", .inr "turn"] [(dE eI) (s.1), (dE eB) (s.2.1), (dE eI) (s.2.2)]) a.2]) := by
  unfold m__law_weight t__law_weight
  exact fn_j (p := [some ((fun s : (Int × Bool × Int) => T.od [.inr "rest", .inr "mixed", .inr "turn"] [(dE eI) (s.1), (dE eB) (s.2.1), (dE eI) (s.2.2)]) state1), none, none]) rfl (s_seq (s_asg (x_mfz (x_lstO (a_cons (x_tupO (a_cons (x_lift (p_c (x_onlyD (a_cons (x_lift (p_c (x_onlyD (a_nil (l_tup (.d (fr (0 : Rat))) (by rfl) (a_cons (x_tupO (a_cons (x_lift (p_c (x_onlyD (a_cons (x_lift (p_c (x_onlyD (a_nil (l_tup (.d (fr (0 : Rat))) (by rfl) (a_cons (x_tupO (a_cons (x_lift (p_c (x_onlyD (a_cons (x_lift (p_c (x_onlyD (a_nil (l_tup (.d (fr (1 : Rat))) (by rfl) (a_cons (x_tupO (a_cons (x_lift (p_un (p_c (v_ok rfl (x_onlyD (a_cons (x_lift (p_c (x_onlyD (a_nil (l_tup (.d (fr (-1 : Rat))) (by rfl) (a_cons (x_tupO (a_cons (x_lift (p_c (x_onlyD (a_cons (x_lift (p_c (x_onlyD (a_nil (l_tup (.d (fr (1 : Rat))) (by rfl) (a_cons (x_tupO (a_cons (x_lift (p_un (p_c (v_ok rfl (x_onlyD (a_cons (x_lift (p_c (x_onlyD (a_nil (l_tup (.d (fr (-1 : Rat))) (by rfl) (a_cons (x_tupO (a_cons (x_lift (p_c (x_onlyD (a_cons (x_lift (p_c (x_onlyD (a_nil (l_tup (.d (fr (2 : Rat))) (by rfl) (a_cons (x_tupO (a_cons (x_lift (p_un (p_c (v_ok rfl (x_onlyD (a_cons (x_lift (p_c (x_onlyD (a_nil (l_tup (.d (fr (mkRat (-3) 2))) (by rfl) (a_cons (x_tupO (a_cons (x_lift (p_c (x_onlyD (a_cons (x_lift (p_c (x_onlyD (a_nil (l_tup (.d (fr (mkRat 1 3))) (by rfl) (a_cons (x_tupO (a_cons (x_lift (p_un (p_c (v_ok rfl (x_onlyD (a_cons (x_lift (p_c (x_onlyD (a_nil (l_tup (.d (fr (-2 : Rat))) (by rfl) (a_nil (l_lst (f := (dE fr)) ([(0 : Rat), (0 : Rat), (1 : Rat), (-1 : Rat), (1 : Rat), (-1 : Rat), (2 : Rat), (mkRat (-3) 2), (mkRat 1 3), (-2 : Rat)]) (by rfl) (x_frz (fz_ol fun _ => fz_d) (g_name (n_seq (s_seq (s_asg (x_call (b_io rfl (b_cons (x_lift (p_c (x_onlyD (b_nil (c_end rfl fn_t__law_take_3 rfl (fun _ => rfl) fun r2 => g_name (n_seq (s_seq (s_if (t_test (x_lift (p_bin (p_var rfl (p_c (v_ok rfl (x_onlyD (t_onB (g_ite (by first | rfl | simp) (fun _ => s_ret (x_lift (p_bin (p_var rfl (p_var rfl (v_r ro_idxL fun x3 => x_onlyD (r_seq (f_ret (a := (x3, r2.2)) (F := (fun a : (Rat × (Int × Bool × Int)) => (dE fr) a.1)) (G := (fun a : (Rat × (Int × Bool × Int)) => [(fun s : (Int × Bool × Int) => T.od [.inr "rest", .inr "mixed", .inr "turn"] [(dE eI) (s.1), (dE eB) (s.2.1), (dE eI) (s.2.2)]) a.2])) rfl (by rfl) (by rfl))))))))) (fun _ => s_next (n_seq (s_ret (x_call (b_cons (x_bin (x_call (b_io rfl (b_cons (x_lift (p_c (x_onlyD (b_nil (c_end rfl fn_t__law_take_3 rfl (fun _ => rfl) fun r4 => x_lift (p_c (x_onlyD (o_ok rfl (b_cons (x_bin (x_lift (p_c (x_onlyD (x_call (b_io rfl (b_cons (x_lift (p_c (x_onlyD (b_nil (c_end rfl fn_t__law_take_3 rfl (fun _ => rfl) fun r5 => o_ok rfl (b_nil (c_end rfl fn_lfrac rfl (fun _ => rfl) fun r6 => f_ret (a := (r6, r5.2)) (F := (fun a : (Rat × (Int × Bool × Int)) => (dE fr) a.1)) (G := (fun a : (Rat × (Int × Bool × Int)) => [(fun s : (Int × Bool × Int) => T.od [.inr "rest", .inr "mixed", .inr "turn"] [(dE eI) (s.1), (dE eB) (s.2.1), (dE eI) (s.2.2)]) a.2])) rfl (by rfl) (by rfl))))))))))))))))))))))))))))))))))))))))))))))))))))))))))))))))))))))))))))))))))))))))))))))))))))))))))))))))))))))))))))))))))))))))))))))))))))))))))))))))))))))))))))))))))))))))))))))))
@[irreducible] noncomputable def t__law_plan_4 (script1 : (List Int)) : R ((List (Rat × Rat)) × (List (Rat × Rat)) × (List ((List Rat) × (List Rat) × Rat))) :=
  (t__law_cell_2 script1 (0 : Int)).nx.bind fun r2 => (tFdiv r2 (2 : Int)).bind fun v3 => (tFdiv v3 (24 : Int)).bind fun v4 => (tMod v4 (8 : Int)).bind fun v5 => (tIdx ([(1 : Int), (0 : Int), (2 : Int), (2 : Int), (3 : Int), (3 : Int), (2 : Int), (1 : Int)]) v5).bind fun x6 => (tMod v3 (3 : Int)).bind fun v7 => (show R Bool from (tFdiv v3 (3 : Int)).bind fun v9 => (tMod v9 (8 : Int)).bind fun v10 => if v10 = (5 : Int) then .ok (decide (x6 < (3 : Int))) else .ok false).bind fun b8 => (tIdx ([((1 : Int) + v7), (6 : Int)]) (if b8 = true then (1 : Int) else 0)).bind fun x11 => (tIdx ([(8 : Int), (8 : Int), (6 : Int), (3 : Int)]) x6).bind fun x12 => (tRange 0 x11).bind fun ks13 => (tMapG (fun x14 => ((t__law_state script1 ((1 : Int) + x14)).nx.bind fun r15 => (t__law_bounds_3 r15).nx.bind fun r16 => .ok r16.1 : R (Rat × Rat))) ks13).bind fun r17 => (tRange 0 x6).bind fun ks18 => (tMapG (fun x19 => ((t__law_state script1 ((7 : Int) + x19)).nx.bind fun r20 => (t__law_bounds_3 r20).nx.bind fun r21 => .ok r21.1 : R (Rat × Rat))) ks18).bind fun r22 => (tFdiv v3 (192 : Int)).bind fun v23 => (tMod v23 ((1 : Int) + x12)).bind fun v24 => (tRange 0 (x12 - v24)).bind fun ks25 => (tFold (fun (s26 : (List ((List Rat) × (List Rat) × Rat))) x27 => ((t__law_state script1 ((11 : Int) + x27)).nx.bind fun r28 => (tLcG (fun (s30 : (Int × Bool × Int)) x29 => ((t__law_weight s30).nx.bind fun r31 => .ok (some r31.1, (r31.2)) : R (Option Rat × (Int × Bool × Int)))) r17 (r28)).bind fun r32 => (tLcG (fun (s34 : (Int × Bool × Int)) x33 => ((t__law_weight s34).nx.bind fun r35 => .ok (some r35.1, (r35.2)) : R (Option Rat × (Int × Bool × Int)))) r22 (r32.2)).bind fun r36 => (t__law_some r36.2).nx.bind fun r37 => (tApp s26 (r32.1, r36.1, r37.1)).bind fun demands38 => .ok (demands38) : R (List ((List Rat) × (List Rat) × Rat)))) ks25 (([] : (List ((List Rat) × (List Rat) × Rat))))).bind fun s39 => .ok (r17, r22, s39)
theorem fn_t__law_plan_4 {script1 : (List Int)} : Fn m__law_plan_4 [(fun xs : List Int => T.rd (xs.map PyData.int)) script1] (t__law_plan_4 script1) (fun a : ((List (Rat × Rat)) × (List (Rat × Rat)) × (List ((List Rat) × (List Rat) × Rat))) => (dE (eT3 (eL (eT2 fr fr)) (eL (eT2 fr fr)) (eL (eT3 (eL fr) (eL fr) fr)))) a) (fun a => []) := by
  unfold m__law_plan_4 t__law_plan_4
  exact fn_j (p := [some ((fun xs : List Int => T.rd (xs.map PyData.int)) script1), none, none, none, none, none, none, none, none, none, none, none, none, none]) rfl (s_seq (s_asg (x_bin (x_call (b_cons (x_rd rfl (b_cons (x_lift (p_c (x_onlyD (b_nil (c_end rfl fn_t__law_cell_2 rfl (fun _ => rfl) fun r2 => x_lift (p_c (x_onlyD (o_r ro_fdiv fun v3 => g_name (n_seq (s_seq (s_asg (x_bin (x_lstO (a_cons (x_lift (p_c (x_onlyD (a_cons (x_lift (p_c (x_onlyD (a_cons (x_lift (p_c (x_onlyD (a_cons (x_lift (p_c (x_onlyD (a_cons (x_lift (p_c (x_onlyD (a_cons (x_lift (p_c (x_onlyD (a_cons (x_lift (p_c (x_onlyD (a_cons (x_lift (p_c (x_onlyD (a_nil (l_lst (f := (dE eI)) ([(1 : Int), (0 : Int), (2 : Int), (2 : Int), (3 : Int), (3 : Int), (2 : Int), (1 : Int)]) (by rfl) (x_lift (p_bin (p_bin (p_var rfl (p_c (v_r ro_fdiv fun v4 => p_c (v_r ro_mod fun v5 => x_onlyD (o_r ro_idxO fun x6 => g_name (n_seq (s_seq (s_asg (x_bin (x_lstO (a_cons (x_lift (p_bin (p_c (p_bin (p_var rfl (p_c (v_r ro_mod fun v7 => v_ok rfl (x_onlyD (a_cons (x_lift (p_c (x_onlyD (a_nil (l_lst (f := (dE eI)) ([((1 : Int) + v7), (6 : Int)]) (by rfl) (x_callB (a_cons (x_cut (F := dE eB) (q := fun _ => [some ((fun xs : List Int => T.rd (xs.map PyData.int)) script1), some ((dE eI) v3), some ((dE eI) x6), none, none, none, none, none, none, none, none, none, none, none]) (x_andV (t_test (x_lift (p_bin (p_bin (p_bin (p_var rfl (p_c (v_r ro_fdiv fun v9 => p_c (v_r ro_mod fun v10 => p_c (v_ok rfl (x_onlyD (t_onB (g_ite (by first | rfl | simp) (fun _ => x_lift (p_bin (p_var rfl (p_c (v_ok rfl (x_onlyD (e_v (by rfl) (wk_some (wk_some (wk_some (wk_none (wk_none (wk_none (wk_none (wk_none (wk_none (wk_none (wk_none (wk_none (wk_none (wk_none wk_nil))))))))))))))))))))) (fun _ => e_v (by rfl) (wk_some (wk_some (wk_some (wk_none (wk_none (wk_none (wk_none (wk_none (wk_none (wk_none (wk_none (wk_none (wk_none (wk_none wk_nil))))))))))))))))))))))))))))) fun b8 => a_nil (o_ok rfl (o_r ro_idxO fun x11 => g_name (n_seq (s_seq (s_asg (x_bin (x_lstO (a_cons (x_lift (p_c (x_onlyD (a_cons (x_lift (p_c (x_onlyD (a_cons (x_lift (p_c (x_onlyD (a_cons (x_lift (p_c (x_onlyD (a_nil (l_lst (f := (dE eI)) ([(8 : Int), (8 : Int), (6 : Int), (3 : Int)]) (by rfl) (x_d rfl (o_r ro_idxO fun x12 => g_name (n_seq (s_seq (s_thenFz (s_asg (x_lc (i_range1 (a_cons (x_d rfl (a_nil (i_r1 fun ks13 => l_map (F := (dE eI)) (G := (dE (eT2 fr fr))) (q := [some ((fun xs : List Int => T.rd (xs.map PyData.int)) script1), some ((dE eI) v3), some ((dE eI) x6), some ((dE eI) x11), some ((dE eI) x12), none, none, none, none, none, none, none, none, none]) (wk_some (wk_some (wk_some (wk_some (wk_some (wk_none (wk_none (wk_none (wk_none (wk_none (wk_none (wk_none (wk_none (wk_none wk_nil)))))))))))))) rfl (fun x14 => g_name (x_call (b_cons (x_call (b_cons (x_rd rfl (b_cons (x_lift (p_bin (p_c (p_var rfl (v_ok rfl (x_onlyD (b_nil (c_end rfl fn_t__law_state rfl (fun _ => rfl) fun r15 => b_nil (c_end rfl (fn_drop fn_t__law_bounds_3) rfl (fun _ => rfl) fun r16 => e_m (by rfl) (wk_some (wk_some (wk_some (wk_some (wk_some (wk_none (wk_none (wk_none (wk_none (wk_none (wk_none (wk_none (wk_none (wk_none wk_nil)))))))))))))))))))))))))))))) fun r17 => g_name (n_fz rfl (fz_ol fun _ => fz_d) (n_seq (s_seq (s_thenFz (s_asg (x_lc (i_range1 (a_cons (x_d rfl (a_nil (i_r1 fun ks18 => l_map (F := (dE eI)) (G := (dE (eT2 fr fr))) (q := [some ((fun xs : List Int => T.rd (xs.map PyData.int)) script1), some ((dE eI) v3), some ((dE eI) x6), some ((dE eI) x11), some ((dE eI) x12), some ((dE (eL (eT2 fr fr))) r17), none, none, none, none, none, none, none, none]) (wk_some (wk_some (wk_some (wk_some (wk_some (wk_some (wk_none (wk_none (wk_none (wk_none (wk_none (wk_none (wk_none (wk_none wk_nil)))))))))))))) rfl (fun x19 => g_name (x_call (b_cons (x_call (b_cons (x_rd rfl (b_cons (x_lift (p_bin (p_c (p_var rfl (v_ok rfl (x_onlyD (b_nil (c_end rfl fn_t__law_state rfl (fun _ => rfl) fun r20 => b_nil (c_end rfl (fn_drop fn_t__law_bounds_3) rfl (fun _ => rfl) fun r21 => e_m (by rfl) (wk_some (wk_some (wk_some (wk_some (wk_some (wk_some (wk_none (wk_none (wk_none (wk_none (wk_none (wk_none (wk_none (wk_none wk_nil)))))))))))))))))))))))))))))) fun r22 => g_name (n_fz rfl (fz_ol fun _ => fz_d) (n_seq (s_seq (s_asg (x_lstO (a_nil (l_lst (f := (dE (eT3 (eL fr) (eL fr) fr))) ([] : (List ((List Rat) × (List Rat) × Rat))) (by rfl) (g_name (n_seq (s_seq (s_for (i_range1 (a_cons (x_lift (p_bin (p_var rfl (p_bin (p_bin (p_var rfl (p_c (v_r ro_fdiv fun v23 => p_bin (p_c (p_var rfl (v_ok rfl (v_r ro_mod fun v24 => v_ok rfl (x_onlyD (a_nil (i_r1 fun ks25 => l_for (F := (dE eI)) (q := fun s26 : (List ((List Rat) × (List Rat) × Rat)) => [some ((fun xs : List Int => T.rd (xs.map PyData.int)) script1), some ((dE eI) v3), some ((dE eI) x6), some ((dE eI) x11), some ((dE eI) x12), some ((dE (eL (eT2 fr fr))) r17), some ((dE (eL (eT2 fr fr))) r22), some ((oL (dE (eT3 (eL fr) (eL fr) fr))) s26), none, none, none, none, none, none]) (wk_some (wk_some (wk_some (wk_some (wk_some (wk_some (wk_some (wk_some (wk_none (wk_none (wk_none (wk_none (wk_none (wk_none wk_nil)))))))))))))) (fun s26 x27 => g_name (s_seq (s_asg (x_call (b_cons (x_rd rfl (b_cons (x_lift (p_bin (p_c (p_var rfl (v_ok rfl (x_onlyD (b_nil (c_end rfl fn_t__law_state rfl (fun _ => rfl) fun r28 => g_name (n_seq (s_seq (s_thenFz (s_asg (x_lc (i_list (x_d rfl (i_on dmapI (l_lc (F := (dE (eT2 fr fr))) (G := (dE fr)) (q := fun s30 : (Int × Bool × Int) => [some ((fun xs : List Int => T.rd (xs.map PyData.int)) script1), some ((dE eI) v3), some ((dE eI) x6), some ((dE eI) x11), some ((dE eI) x12), some ((dE (eL (eT2 fr fr))) r17), some ((dE (eL (eT2 fr fr))) r22), some ((oL (dE (eT3 (eL fr) (eL fr) fr))) s26), some ((dE eI) x27), some ((fun s : (Int × Bool × Int) => T.od [.inr "rest", .inr "mixed", .inr "turn"] [(dE eI) (s.1), (dE eB) (s.2.1), (dE eI) (s.2.2)]) s30), none, none, none, none]) (wk_some (wk_some (wk_some (wk_some (wk_some (wk_some (wk_some (wk_some (wk_some (wk_some (wk_none (wk_none (wk_none (wk_none wk_nil)))))))))))))) (fun _ => rfl) (fun s30 x29 => g_name (x_call (b_io rfl (b_nil (c_end rfl fn_t__law_weight rfl (fun _ => rfl) fun r31 => e_l (by rfl) (wk_some (wk_some (wk_some (wk_some (wk_some (wk_some (wk_some (wk_some (wk_some (wk_some (wk_none (wk_none (wk_none (wk_none wk_nil))))))))))))))))))) fun r32 => g_name (n_fz rfl (fz_ol fun _ => fz_d) (n_seq (s_seq (s_thenFz (s_asg (x_lc (i_list (x_d rfl (i_on dmapI (l_lc (F := (dE (eT2 fr fr))) (G := (dE fr)) (q := fun s34 : (Int × Bool × Int) => [some ((fun xs : List Int => T.rd (xs.map PyData.int)) script1), some ((dE eI) v3), some ((dE eI) x6), some ((dE eI) x11), some ((dE eI) x12), some ((dE (eL (eT2 fr fr))) r17), some ((dE (eL (eT2 fr fr))) r22), some ((oL (dE (eT3 (eL fr) (eL fr) fr))) s26), some ((dE eI) x27), some ((fun s : (Int × Bool × Int) => T.od [.inr "rest", .inr "mixed", .inr "turn"] [(dE eI) (s.1), (dE eB) (s.2.1), (dE eI) (s.2.2)]) s34), some ((dE (eL fr)) r32.1), none, none, none]) (wk_some (wk_some (wk_some (wk_some (wk_some (wk_some (wk_some (wk_some (wk_some (wk_some (wk_some (wk_none (wk_none (wk_none wk_nil)))))))))))))) (fun _ => rfl) (fun s34 x33 => g_name (x_call (b_io rfl (b_nil (c_end rfl fn_t__law_weight rfl (fun _ => rfl) fun r35 => e_l (by rfl) (wk_some (wk_some (wk_some (wk_some (wk_some (wk_some (wk_some (wk_some (wk_some (wk_some (wk_some (wk_none (wk_none (wk_none wk_nil))))))))))))))))))) fun r36 => g_name (n_fz rfl (fz_ol fun _ => fz_d) (n_seq (s_drop (x_meth rfl (a_cons (x_tupO (a_cons (x_d rfl (a_cons (x_d rfl (a_cons (x_call (b_io rfl (b_nil (c_end rfl fn_t__law_some rfl (fun _ => rfl) fun r37 => a_nil (l_tup ((dE (eT3 (eL fr) (eL fr) fr)) (r32.1, r36.1, r37.1)) (by rfl) (a_nil (m_append (f := (dE (eT3 (eL fr) (eL fr) fr))) (xs := s26) (x := (r32.1, r36.1, r37.1)) rfl rfl fun demands38 => e_cN (wk_some (wk_some (wk_some (wk_some (wk_some (wk_some (wk_some (wk_some (wk_none (wk_none (wk_none (wk_none (wk_none (wk_none wk_nil)))))))))))))))))))))))))))))))))))))))))))))))))))))))))))))))))) fun s39 => n_seq (s_ret (x_tupO (a_cons (x_d rfl (a_cons (x_d rfl (a_cons (x_fz rfl (fz_ol fun _ => fz_d) (a_nil (l_tup ((dE (eT3 (eL (eT2 fr fr)) (eL (eT2 fr fr)) (eL (eT3 (eL fr) (eL fr) fr)))) (r17, r22, s39)) (by rfl) (f_ret (a := (r17, r22, s39)) (F := (fun a : ((List (Rat × Rat)) × (List (Rat × Rat)) × (List ((List Rat) × (List Rat) × Rat))) => (dE (eT3 (eL (eT2 fr fr)) (eL (eT2 fr fr)) (eL (eT3 (eL fr) (eL fr) fr)))) a)) (G := (fun a : ((List (Rat × Rat)) × (List (Rat × Rat)) × (List ((List Rat) × (List Rat) × Rat))) => [])) rfl (by rfl) (by rfl)))))))))))))))))))))))))))))))))))))))))))))))))))))))))))))))))))))))))))))))))))))))))))))))))))))))))))))))))))))))))))))))))))))))))))))))))))))))))))))))))))))))))))))
@[irreducible] noncomputable def t_is_plain (row1 : ((List Rat) × (List Rat) × Rat)) : R Bool :=
  (tCat row1.1 row1.2.1).bind fun v2 => (tLoop (fun (s3 : Unit) x4 => (if ¬ x4 = (0 : Rat) then .ok (.rt false) else .ok (.nx ()) : R (Fl Unit Bool))) v2 ()).bind fun f => f.on (fun s5 => (show R Bool from (rLt row1.2.2 (0 : Rat)).nx.bind fun r7 => .ok (!r7)).bind fun b6 => .ok b6) (fun r8 => .ok r8)
theorem fn_t_is_plain {row1 : ((List Rat) × (List Rat) × Rat)} : Fn m_is_plain [(dE (eT3 (eL fr) (eL fr) fr)) row1] (t_is_plain row1) (fun a : Bool => (dE eB) a) (fun a => []) := by
  unfold m_is_plain t_is_plain
  exact fn_j (p := [some ((dE (eT3 (eL fr) (eL fr) fr)) row1), none]) rfl (s_seq (s_for (i_list (x_mfz (x_bin (x_lift (p_bin (p_var rfl (p_c (v_ok (u := ((dE (eL fr)) row1.1)) rfl (x_onlyD (x_lift (p_bin (p_var rfl (p_c (v_ok (u := ((dE (eL fr)) row1.2.1)) rfl (x_onlyD (o_rN (ro_cat lst_d lst_d) fun v2 => x_frz (fz_ol fun _ => fz_d) (i_on dmapI (l_forR (F := (dE fr)) (q := fun s3 : Unit => [some ((dE (eT3 (eL fr) (eL fr) fr)) row1), none]) (FR := (fun r8 : Bool => (dE eB) r8)) (qr := fun r8 => [none, none]) (wk_some (wk_none wk_nil)) (fun s3 x4 => g_name (s_if (t_test (x_lift (p_bin (p_var rfl (p_cv (v := fr (0 : Rat)) (by rfl) (v_ok (ne_nice (e := fr) (a := x4) (b := (0 : Rat)) (nice_Q) toD_d toD_d) (x_onlyD (t_onB (g_ite (by first | rfl | simp) (fun _ => s_ret (x_lift (p_c (x_onlyD (e_fR (by rfl) (wk_none (wk_none wk_nil))))))) (fun _ => s_next (e_fN (wk_some (wk_none wk_nil))))))))))))))) (fun s5 => n_seq (s_ret (x_cut (F := dE eB) (q := fun _ => [some ((dE (eT3 (eL fr) (eL fr) fr)) row1), none]) (x_notV (t_test (x_call (b_cons (x_lift (p_bin (p_var rfl (p_c (v_ok (u := ((dE fr) row1.2.2)) rfl (x_onlyD (b_cons (x_lift (p_cv (v := fr (0 : Rat)) (by rfl) (x_onlyD (b_nil (c_end rfl fn_below rfl (fun _ => rfl) fun r7 => t_onB (e_v (by rfl) (wk_some (wk_none wk_nil))))))))))))))))))) fun b6 => f_ret (a := b6) (F := (fun a : Bool => (dE eB) a)) (G := (fun a : Bool => [])) rfl (by rfl) (by rfl)))) (fun r8 => r_seq (f_ret (a := r8) (F := (fun a : Bool => (dE eB) a)) (G := (fun a : Bool => [])) rfl (by rfl) (by rfl)))))))))))))))))))))))
@[irreducible] noncomputable def t_put_on (rows1 : (List ((List Rat) × (List Rat) × Rat))) (row2 : ((List Rat) × (List Rat) × Rat)) : R (Unit × (List ((List Rat) × (List Rat) × Rat))) :=
  (show R Bool from (t_is_plain row2).nx.bind fun r4 => if (!r4) = true then .ok (!decide (row2 ∈ rows1)) else .ok false).bind fun b3 => if b3 = true then (tApp rows1 row2).bind fun rows5 => .ok ((), rows5) else .ok ((), rows1)
theorem fn_t_put_on {rows1 : (List ((List Rat) × (List Rat) × Rat))} {row2 : ((List Rat) × (List Rat) × Rat)} : Fn m_put_on [(oL (dE (eT3 (eL fr) (eL fr) fr))) rows1, (dE (eT3 (eL fr) (eL fr) fr)) row2] (t_put_on rows1 row2) (fun a : (Unit × (List ((List Rat) × (List Rat) × Rat))) => (dE eN) a.1) (fun a => [(oL (dE (eT3 (eL fr) (eL fr) fr))) a.2]) := by
  unfold m_put_on t_put_on
  exact fn_j (p := [some ((oL (dE (eT3 (eL fr) (eL fr) fr))) rows1), some ((dE (eT3 (eL fr) (eL fr) fr)) row2)]) rfl (s_if (t_cut (q := [some ((oL (dE (eT3 (eL fr) (eL fr) fr))) rows1), some ((dE (eT3 (eL fr) (eL fr) fr)) row2)]) (t_and (t_not (t_test (x_call (b_cons (x_d rfl (b_nil (c_end rfl fn_t_is_plain rfl (fun _ => rfl) fun r4 => t_onB (g_ite dec_self (fun _ => t_test (x_lift (p_bin (p_var rfl (p_var rfl (v_ok (notIn_nice (e := (eT3 (eL fr) (eL fr) fr)) (((nice_Q).list).t3 ((nice_Q).list) ((nice_Q).up (by decide))) toD_d toD_o) (x_onlyD (t_onB (e_b (wk_some (wk_some wk_nil))))))))))) (fun _ => e_b (wk_some (wk_some wk_nil)))))))))))) fun b3 => g_ite dec_self (fun _ => s_drop (x_meth rfl (a_cons (x_d rfl (a_nil (m_append (f := (dE (eT3 (eL fr) (eL fr) fr))) (xs := rows1) (x := row2) rfl rfl fun rows5 => f_nx (a := ((), rows5)) (F := (fun a : (Unit × (List ((List Rat) × (List Rat) × Rat))) => (dE eN) a.1)) (G := (fun a : (Unit × (List ((List Rat) × (List Rat) × Rat))) => [(oL (dE (eT3 (eL fr) (eL fr) fr))) a.2])) rfl (by rfl) (by rfl))))))) (fun _ => s_next (f_nx (a := ((), rows1)) (F := (fun a : (Unit × (List ((List Rat) × (List Rat) × Rat))) => (dE eN) a.1)) (G := (fun a : (Unit × (List ((List Rat) × (List Rat) × Rat))) => [(oL (dE (eT3 (eL fr) (eL fr) fr))) a.2])) rfl (by rfl) (by rfl)))))
@[irreducible] noncomputable def t_bound_row (plan1 : ((List (Rat × Rat)) × (List (Rat × Rat)) × (List ((List Rat) × (List Rat) × Rat)))) (k2 : Int) (sign3 : Rat) (c4 : Rat) : R ((List Rat) × (List Rat) × Rat) :=
  (tMapG (fun x5 => (.ok (0 : Rat) : R Rat)) plan1.2.1).bind fun r6 => (tSet r6 k2 sign3).bind fun b7 => (tMapG (fun x8 => (.ok (0 : Rat) : R Rat)) plan1.1).bind fun r9 => .ok (r9, b7, c4)
theorem fn_t_bound_row {plan1 : ((List (Rat × Rat)) × (List (Rat × Rat)) × (List ((List Rat) × (List Rat) × Rat)))} {k2 : Int} {sign3 : Rat} {c4 : Rat} : Fn m_bound_row [(dE (eT3 (eL (eT2 fr fr)) (eL (eT2 fr fr)) (eL (eT3 (eL fr) (eL fr) fr)))) plan1, (dE eI) k2, (dE fr) sign3, (dE fr) c4] (t_bound_row plan1 k2 sign3 c4) (fun a : ((List Rat) × (List Rat) × Rat) => (dE (eT3 (eL fr) (eL fr) fr)) a) (fun a => []) := by
  unfold m_bound_row t_bound_row
  exact fn_j (p := [some ((dE (eT3 (eL (eT2 fr fr)) (eL (eT2 fr fr)) (eL (eT3 (eL fr) (eL fr) fr)))) plan1), some ((dE eI) k2), some ((dE fr) sign3), some ((dE fr) c4), none, none, none]) rfl (s_seq (s_asg (x_lc (i_list (x_lift (p_bin (p_var rfl (p_c (v_ok (u := ((dE (eL (eT2 fr fr))) plan1.2.1)) rfl (x_onlyD (i_on dmapI (l_map (F := (dE (eT2 fr fr))) (G := (dE fr)) (q := [some ((dE (eT3 (eL (eT2 fr fr)) (eL (eT2 fr fr)) (eL (eT3 (eL fr) (eL fr) fr)))) plan1), some ((dE eI) k2), some ((dE fr) sign3), some ((dE fr) c4), none, none, none]) (wk_some (wk_some (wk_some (wk_some (wk_none (wk_none (wk_none wk_nil))))))) rfl (fun x5 => g_name (x_lift (p_cv (v := fr (0 : Rat)) (by rfl) (x_onlyD (e_m (by rfl) (wk_some (wk_some (wk_some (wk_some (wk_none (wk_none (wk_none wk_nil)))))))))))) fun r6 => g_name (n_seq (s_seq (s_asg (x_d rfl (g_item (f := (dE fr)) (xs := r6) (x := sign3) rfl rfl (pv_var rfl) fun b7 => n_seq (s_ret (x_tupO (a_cons (x_mfz (x_lc (i_list (x_lift (p_bin (p_var rfl (p_c (v_ok (u := ((dE (eL (eT2 fr fr))) plan1.1)) rfl (x_onlyD (i_on dmapI (l_map (F := (dE (eT2 fr fr))) (G := (dE fr)) (q := [some ((dE (eT3 (eL (eT2 fr fr)) (eL (eT2 fr fr)) (eL (eT3 (eL fr) (eL fr) fr)))) plan1), some ((dE eI) k2), some ((dE fr) sign3), some ((dE fr) c4), some ((oL (dE fr)) b7), none, none]) (wk_some (wk_some (wk_some (wk_some (wk_some (wk_none (wk_none wk_nil))))))) rfl (fun x8 => g_name (x_lift (p_cv (v := fr (0 : Rat)) (by rfl) (x_onlyD (e_m (by rfl) (wk_some (wk_some (wk_some (wk_some (wk_some (wk_none (wk_none wk_nil)))))))))))) fun r9 => x_frz (fz_ol fun _ => fz_d) (a_cons (x_fz rfl (fz_ol fun _ => fz_d) (a_cons (x_d rfl (a_nil (l_tup ((dE (eT3 (eL fr) (eL fr) fr)) (r9, b7, c4)) (by rfl) (f_ret (a := (r9, b7, c4)) (F := (fun a : ((List Rat) × (List Rat) × Rat) => (dE (eT3 (eL fr) (eL fr) fr)) a)) (G := (fun a : ((List Rat) × (List Rat) × Rat) => [])) rfl (by rfl) (by rfl)))))))))))))))))))))))))))))))))))))))
@[irreducible] noncomputable def t_first_rows (plan1 : ((List (Rat × Rat)) × (List (Rat × Rat)) × (List ((List Rat) × (List Rat) × Rat)))) : R (List ((List Rat) × (List Rat) × Rat)) :=
  (tFold (fun (s2 : (List ((List Rat) × (List Rat) × Rat))) x3 => ((t_put_on s2 (x3.1, x3.2.1, x3.2.2)).nx.bind fun r4 => .ok (r4.2) : R (List ((List Rat) × (List Rat) × Rat)))) plan1.2.2 (([] : (List ((List Rat) × (List Rat) × Rat))))).bind fun s5 => (tFold (fun (s6 : (List ((List Rat) × (List Rat) × Rat))) x7 => ((rSub (0 : Rat) x7.2.1).nx.bind fun r8 => (t_bound_row plan1 x7.1 (1 : Rat) r8).nx.bind fun r9 => (t_put_on s6 r9).nx.bind fun r10 => (t_bound_row plan1 x7.1 (-1 : Rat) x7.2.2).nx.bind fun r11 => (t_put_on r10.2 r11).nx.bind fun r12 => .ok (r12.2) : R (List ((List Rat) × (List Rat) × Rat)))) (enumL plan1.2.1) (s5)).bind fun s13 => .ok s13
theorem fn_t_first_rows {plan1 : ((List (Rat × Rat)) × (List (Rat × Rat)) × (List ((List Rat) × (List Rat) × Rat)))} : Fn m_first_rows [(dE (eT3 (eL (eT2 fr fr)) (eL (eT2 fr fr)) (eL (eT3 (eL fr) (eL fr) fr)))) plan1] (t_first_rows plan1) (fun a : (List ((List Rat) × (List Rat) × Rat)) => (dE (eL (eT3 (eL fr) (eL fr) fr))) a) (fun a => []) := by
  unfold m_first_rows t_first_rows
  exact fn_j (p := [some ((dE (eT3 (eL (eT2 fr fr)) (eL (eT2 fr fr)) (eL (eT3 (eL fr) (eL fr) fr)))) plan1), none, none, none, none, none, none]) rfl (s_seq (s_asg (x_lstO (a_nil (l_lst (f := (dE (eT3 (eL fr) (eL fr) fr))) ([] : (List ((List Rat) × (List Rat) × Rat))) (by rfl) (g_name (n_seq (s_seq (s_for (i_list (x_lift (p_bin (p_var rfl (p_c (v_ok (u := ((dE (eL (eT3 (eL fr) (eL fr) fr))) plan1.2.2)) rfl (x_onlyD (i_on dmapI (l_for (F := (dE (eT3 (eL fr) (eL fr) fr))) (q := fun s2 : (List ((List Rat) × (List Rat) × Rat)) => [some ((dE (eT3 (eL (eT2 fr fr)) (eL (eT2 fr fr)) (eL (eT3 (eL fr) (eL fr) fr)))) plan1), some ((oL (dE (eT3 (eL fr) (eL fr) fr))) s2), none, none, none, none, none]) (wk_some (wk_some (wk_none (wk_none (wk_none (wk_none (wk_none wk_nil))))))) (fun s2 x3 => g_tup rfl rfl (g_cons (g_name (g_cons (g_name (g_cons (g_name (g_nil (s_drop (x_call (b_io rfl (b_cons (x_tupO (a_cons (x_mfz (x_callB (a_cons (x_d rfl (a_nil (o_okN (list_of rfl) (x_frz (fz_ol fun _ => fz_d) (a_cons (x_mfz (x_callB (a_cons (x_d rfl (a_nil (o_okN (list_of rfl) (x_frz (fz_ol fun _ => fz_d) (a_cons (x_d rfl (a_nil (l_tup ((dE (eT3 (eL fr) (eL fr) fr)) (x3.1, x3.2.1, x3.2.2)) (by rfl) (b_nil (c_end rfl fn_t_put_on rfl (fun _ => rfl) fun r4 => e_cN (wk_some (wk_some (wk_none (wk_none (wk_none (wk_none (wk_none wk_nil)))))))))))))))))))))))))))))))))))))))))) fun s5 => n_seq (s_seq (s_for (i_enum (a_cons (x_lift (p_bin (p_var rfl (p_c (v_ok (u := ((dE (eL (eT2 fr fr))) plan1.2.1)) rfl (x_onlyD (a_nil (i_n (l_for (F := (dE (eT2 eI (eT2 fr fr)))) (q := fun s6 : (List ((List Rat) × (List Rat) × Rat)) => [some ((dE (eT3 (eL (eT2 fr fr)) (eL (eT2 fr fr)) (eL (eT3 (eL fr) (eL fr) fr)))) plan1), some ((oL (dE (eT3 (eL fr) (eL fr) fr))) s6), none, none, none, none, none]) (wk_some (wk_some (wk_none (wk_none (wk_none (wk_none (wk_none wk_nil))))))) (fun s6 x7 => g_tup rfl rfl (g_cons (g_name (g_cons (g_name (g_nil (s_seq (s_drop (x_call (b_io rfl (b_cons (x_call (b_cons (x_d rfl (b_cons (x_d rfl (b_cons (x_lift (p_cv (v := fr (1 : Rat)) (by rfl) (x_onlyD (b_cons (x_call (b_cons (x_lift (p_cv (v := fr (0 : Rat)) (by rfl) (x_onlyD (b_cons (x_lift (p_bin (p_var rfl (p_c (v_ok (u := ((dE fr) x7.2.1)) rfl (x_onlyD (b_nil (c_end rfl fn_minus rfl (fun _ => rfl) fun r8 => b_nil (c_end rfl fn_t_bound_row rfl (fun _ => rfl) fun r9 => b_nil (c_end rfl fn_t_put_on rfl (fun _ => rfl) fun r10 => n_seq (s_drop (x_call (b_io rfl (b_cons (x_call (b_cons (x_d rfl (b_cons (x_d rfl (b_cons (x_lift (p_cv (v := fr (-1 : Rat)) (by rfl) (x_onlyD (b_cons (x_lift (p_bin (p_var rfl (p_c (v_ok (u := ((dE fr) x7.2.2)) rfl (x_onlyD (b_nil (c_end rfl fn_t_bound_row rfl (fun _ => rfl) fun r11 => b_nil (c_end rfl fn_t_put_on rfl (fun _ => rfl) fun r12 => e_cN (wk_some (wk_some (wk_none (wk_none (wk_none (wk_none (wk_none wk_nil))))))))))))))))))))))))))))))))))))))))))))))))))))))))))))))))))) fun s13 => n_seq (s_ret (x_fz rfl (fz_ol fun _ => fz_d) (f_ret (a := s13) (F := (fun a : (List ((List Rat) × (List Rat) × Rat)) => (dE (eL (eT3 (eL fr) (eL fr) fr))) a)) (G := (fun a : (List ((List Rat) × (List Rat) × Rat)) => [])) rfl (by rfl) (by rfl)))))))))))))))))))))))))))))))))))
@[irreducible] noncomputable def t_mixed (ones1 : (List Rat)) (many2 : Rat) (others3 : (List Rat)) (more4 : Rat) : R (List Rat) :=
  (tMapG (fun x5 => ((rMul x5.1 many2).nx.bind fun r6 => (rMul x5.2 more4).nx.bind fun r7 => (rAdd r6 r7).nx.bind fun r8 => .ok r8 : R Rat)) (ones1.zip others3)).bind fun r9 => .ok r9
theorem fn_t_mixed {ones1 : (List Rat)} {many2 : Rat} {others3 : (List Rat)} {more4 : Rat} : Fn m_mixed [(dE (eL fr)) ones1, (dE fr) many2, (dE (eL fr)) others3, (dE fr) more4] (t_mixed ones1 many2 others3 more4) (fun a : (List Rat) => (dE (eL fr)) a) (fun a => []) := by
  unfold m_mixed t_mixed
  exact fn_j (p := [some ((dE (eL fr)) ones1), some ((dE fr) many2), some ((dE (eL fr)) others3), some ((dE fr) more4), none, none]) rfl (s_ret (x_mfz (x_lc (i_zip (a_cons (x_d rfl (a_cons (x_d rfl (a_nil (i_z (l_map (F := (dE (eT2 fr fr))) (G := (dE fr)) (q := [some ((dE (eL fr)) ones1), some ((dE fr) many2), some ((dE (eL fr)) others3), some ((dE fr) more4), none, none]) (wk_some (wk_some (wk_some (wk_some (wk_none (wk_none wk_nil)))))) rfl (fun x5 => g_tup rfl rfl (g_cons (g_name (g_cons (g_name (g_nil (x_call (b_cons (x_call (b_cons (x_d rfl (b_cons (x_d rfl (b_nil (c_end rfl fn_times rfl (fun _ => rfl) fun r6 => b_cons (x_call (b_cons (x_d rfl (b_cons (x_d rfl (b_nil (c_end rfl fn_times rfl (fun _ => rfl) fun r7 => b_nil (c_end rfl fn_plus rfl (fun _ => rfl) fun r8 => e_m (by rfl) (wk_some (wk_some (wk_some (wk_some (wk_none (wk_none wk_nil))))))))))))))))))))))))))))) fun r9 => x_frz (fz_ol fun _ => fz_d) (f_ret (a := r9) (F := (fun a : (List Rat) => (dE (eL fr)) a)) (G := (fun a : (List Rat) => [])) rfl (by rfl) (by rfl)))))))))))))
@[irreducible] noncomputable def t_taken_together (low1 : ((List Rat) × (List Rat) × Rat)) (high2 : ((List Rat) × (List Rat) × Rat)) (k3 : Int) : R ((List Rat) × (List Rat) × Rat) :=
  (tIdx high2.2.1 k3).bind fun x4 => (rSub (0 : Rat) x4).nx.bind fun r5 => (tIdx low1.2.1 k3).bind fun x6 => (rMul low1.2.2 r5).nx.bind fun r7 => (rMul high2.2.2 x6).nx.bind fun r8 => (rAdd r7 r8).nx.bind fun r9 => (t_mixed low1.1 r5 high2.1 x6).nx.bind fun r10 => (t_mixed low1.2.1 r5 high2.2.1 x6).nx.bind fun r11 => .ok (r10, r11, r9)
theorem fn_t_taken_together {low1 : ((List Rat) × (List Rat) × Rat)} {high2 : ((List Rat) × (List Rat) × Rat)} {k3 : Int} : Fn m_taken_together [(dE (eT3 (eL fr) (eL fr) fr)) low1, (dE (eT3 (eL fr) (eL fr) fr)) high2, (dE eI) k3] (t_taken_together low1 high2 k3) (fun a : ((List Rat) × (List Rat) × Rat) => (dE (eT3 (eL fr) (eL fr) fr)) a) (fun a => []) := by
  unfold m_taken_together t_taken_together
  exact fn_j (p := [some ((dE (eT3 (eL fr) (eL fr) fr)) low1), some ((dE (eT3 (eL fr) (eL fr) fr)) high2), some ((dE eI) k3), none, none, none]) rfl (s_seq (s_asg (x_call (b_cons (x_lift (p_cv (v := fr (0 : Rat)) (by rfl) (x_onlyD (b_cons (x_lift (p_bin (p_bin (p_var rfl (p_c (v_ok (u := ((dE (eL fr)) high2.2.1)) rfl (p_var rfl (v_r ro_idxL fun x4 => x_onlyD (b_nil (c_end rfl fn_minus rfl (fun _ => rfl) fun r5 => g_name (n_seq (s_seq (s_asg (x_lift (p_bin (p_bin (p_var rfl (p_c (v_ok (u := ((dE (eL fr)) low1.2.1)) rfl (p_var rfl (v_r ro_idxL fun x6 => x_onlyD (g_name (n_seq (s_seq (s_asg (x_call (b_cons (x_call (b_cons (x_lift (p_bin (p_var rfl (p_c (v_ok (u := ((dE fr) low1.2.2)) rfl (x_onlyD (b_cons (x_d rfl (b_nil (c_end rfl fn_times rfl (fun _ => rfl) fun r7 => b_cons (x_call (b_cons (x_lift (p_bin (p_var rfl (p_c (v_ok (u := ((dE fr) high2.2.2)) rfl (x_onlyD (b_cons (x_d rfl (b_nil (c_end rfl fn_times rfl (fun _ => rfl) fun r8 => b_nil (c_end rfl fn_plus rfl (fun _ => rfl) fun r9 => g_name (n_seq (s_ret (x_tupO (a_cons (x_call (b_cons (x_lift (p_bin (p_var rfl (p_c (v_ok (u := ((dE (eL fr)) low1.1)) rfl (x_onlyD (b_cons (x_d rfl (b_cons (x_lift (p_bin (p_var rfl (p_c (v_ok (u := ((dE (eL fr)) high2.1)) rfl (x_onlyD (b_cons (x_d rfl (b_nil (c_end rfl fn_t_mixed rfl (fun _ => rfl) fun r10 => a_cons (x_call (b_cons (x_lift (p_bin (p_var rfl (p_c (v_ok (u := ((dE (eL fr)) low1.2.1)) rfl (x_onlyD (b_cons (x_d rfl (b_cons (x_lift (p_bin (p_var rfl (p_c (v_ok (u := ((dE (eL fr)) high2.2.1)) rfl (x_onlyD (b_cons (x_d rfl (b_nil (c_end rfl fn_t_mixed rfl (fun _ => rfl) fun r11 => a_cons (x_d rfl (a_nil (l_tup ((dE (eT3 (eL fr) (eL fr) fr)) (r10, r11, r9)) (by rfl) (f_ret (a := (r10, r11, r9)) (F := (fun a : ((List Rat) × (List Rat) × Rat) => (dE (eT3 (eL fr) (eL fr) fr)) a)) (G := (fun a : ((List Rat) × (List Rat) × Rat) => [])) rfl (by rfl) (by rfl)))))))))))))))))))))))))))))))))))))))))))))))))))))))))))))))))))))))))))))))))))))))))))))))))))))))))))))))
@[irreducible] noncomputable def t_taken_out (rows1 : (List ((List Rat) × (List Rat) × Rat))) (k2 : Int) : R ((List ((List Rat) × (List Rat) × Rat)) × (List ((List Rat) × (List Rat) × Rat)) × (List ((List Rat) × (List Rat) × Rat))) :=
  (tFmG (fun x3 => ((tIdx x3.2.1 k2).bind fun x4 => (rLt (0 : Rat) x4).nx.bind fun r5 => if r5 = true then .ok (some x3) else .ok none : R (Option ((List Rat) × (List Rat) × Rat)))) rows1).bind fun r6 => (tFmG (fun x7 => ((tIdx x7.2.1 k2).bind fun x8 => (rLt x8 (0 : Rat)).nx.bind fun r9 => if r9 = true then .ok (some x7) else .ok none : R (Option ((List Rat) × (List Rat) × Rat)))) rows1).bind fun r10 => (tFmG (fun x11 => ((tIdx x11.2.1 k2).bind fun x12 => if x12 = (0 : Rat) then .ok (some x11) else .ok none : R (Option ((List Rat) × (List Rat) × Rat)))) rows1).bind fun r13 => (tFold (fun (s14 : (List ((List Rat) × (List Rat) × Rat))) x15 => ((tFold (fun (s16 : (List ((List Rat) × (List Rat) × Rat))) x17 => ((t_taken_together x15 x17 k2).nx.bind fun r18 => (t_put_on s16 r18).nx.bind fun r19 => .ok (r19.2) : R (List ((List Rat) × (List Rat) × Rat)))) r10 (s14)).bind fun s20 => .ok (s20) : R (List ((List Rat) × (List Rat) × Rat)))) r6 (r13)).bind fun s21 => .ok (r6, r10, s21)
theorem fn_t_taken_out {rows1 : (List ((List Rat) × (List Rat) × Rat))} {k2 : Int} : Fn m_taken_out [(dE (eL (eT3 (eL fr) (eL fr) fr))) rows1, (dE eI) k2] (t_taken_out rows1 k2) (fun a : ((List ((List Rat) × (List Rat) × Rat)) × (List ((List Rat) × (List Rat) × Rat)) × (List ((List Rat) × (List Rat) × Rat))) => (dE (eT3 (eL (eT3 (eL fr) (eL fr) fr)) (eL (eT3 (eL fr) (eL fr) fr)) (eL (eT3 (eL fr) (eL fr) fr)))) a) (fun a => []) := by
  unfold m_taken_out t_taken_out
  exact fn_j (p := [some ((dE (eL (eT3 (eL fr) (eL fr) fr))) rows1), some ((dE eI) k2), none, none, none, none, none, none]) rfl (s_seq (s_thenFz (s_asg (x_lc (i_list (x_d rfl (i_on dmapI (l_fm (F := (dE (eT3 (eL fr) (eL fr) fr))) (G := (dE (eT3 (eL fr) (eL fr) fr))) (q := [some ((dE (eL (eT3 (eL fr) (eL fr) fr))) rows1), some ((dE eI) k2), none, none, none, none, none, none]) (wk_some (wk_some (wk_none (wk_none (wk_none (wk_none (wk_none (wk_none wk_nil)))))))) rfl (fun x3 => g_name (t_test (x_call (b_cons (x_lift (p_cv (v := fr (0 : Rat)) (by rfl) (x_onlyD (b_cons (x_lift (p_bin (p_bin (p_var rfl (p_c (v_ok (u := ((dE (eL fr)) x3.2.1)) rfl (p_var rfl (v_r ro_idxL fun x4 => x_onlyD (b_nil (c_end rfl fn_below rfl (fun _ => rfl) fun r5 => t_onB (g_ite dec_self (fun _ => x_d rfl (e_m2 (by rfl) (wk_some (wk_some (wk_none (wk_none (wk_none (wk_none (wk_none (wk_none wk_nil)))))))))) (fun _ => e_m2n (wk_some (wk_some (wk_none (wk_none (wk_none (wk_none (wk_none (wk_none wk_nil)))))))))))))))))))))))))))) fun r6 => g_name (n_fz rfl (fz_ol fun _ => fz_d) (n_seq (s_seq (s_thenFz (s_asg (x_lc (i_list (x_d rfl (i_on dmapI (l_fm (F := (dE (eT3 (eL fr) (eL fr) fr))) (G := (dE (eT3 (eL fr) (eL fr) fr))) (q := [some ((dE (eL (eT3 (eL fr) (eL fr) fr))) rows1), some ((dE eI) k2), some ((dE (eL (eT3 (eL fr) (eL fr) fr))) r6), none, none, none, none, none]) (wk_some (wk_some (wk_some (wk_none (wk_none (wk_none (wk_none (wk_none wk_nil)))))))) rfl (fun x7 => g_name (t_test (x_call (b_cons (x_lift (p_bin (p_bin (p_var rfl (p_c (v_ok (u := ((dE (eL fr)) x7.2.1)) rfl (p_var rfl (v_r ro_idxL fun x8 => x_onlyD (b_cons (x_lift (p_cv (v := fr (0 : Rat)) (by rfl) (x_onlyD (b_nil (c_end rfl fn_below rfl (fun _ => rfl) fun r9 => t_onB (g_ite dec_self (fun _ => x_d rfl (e_m2 (by rfl) (wk_some (wk_some (wk_some (wk_none (wk_none (wk_none (wk_none (wk_none wk_nil)))))))))) (fun _ => e_m2n (wk_some (wk_some (wk_some (wk_none (wk_none (wk_none (wk_none (wk_none wk_nil)))))))))))))))))))))))))))) fun r10 => g_name (n_fz rfl (fz_ol fun _ => fz_d) (n_seq (s_seq (s_asg (x_lc (i_list (x_d rfl (i_on dmapI (l_fm (F := (dE (eT3 (eL fr) (eL fr) fr))) (G := (dE (eT3 (eL fr) (eL fr) fr))) (q := [some ((dE (eL (eT3 (eL fr) (eL fr) fr))) rows1), some ((dE eI) k2), some ((dE (eL (eT3 (eL fr) (eL fr) fr))) r6), some ((dE (eL (eT3 (eL fr) (eL fr) fr))) r10), none, none, none, none]) (wk_some (wk_some (wk_some (wk_some (wk_none (wk_none (wk_none (wk_none wk_nil)))))))) rfl (fun x11 => g_name (t_test (x_lift (p_bin (p_bin (p_bin (p_var rfl (p_c (v_ok (u := ((dE (eL fr)) x11.2.1)) rfl (p_var rfl (v_r ro_idxL fun x12 => p_cv (v := fr (0 : Rat)) (by rfl) (v_ok (eq_nice (e := fr) (a := x12) (b := (0 : Rat)) (nice_Q) toD_d toD_d) (x_onlyD (t_onB (g_ite (by first | rfl | simp) (fun _ => x_d rfl (e_m2 (by rfl) (wk_some (wk_some (wk_some (wk_some (wk_none (wk_none (wk_none (wk_none wk_nil)))))))))) (fun _ => e_m2n (wk_some (wk_some (wk_some (wk_some (wk_none (wk_none (wk_none (wk_none wk_nil)))))))))))))))))))))))) fun r13 => g_name (n_seq (s_seq (s_for (i_list (x_d rfl (i_on dmapI (l_for (F := (dE (eT3 (eL fr) (eL fr) fr))) (q := fun s14 : (List ((List Rat) × (List Rat) × Rat)) => [some ((dE (eL (eT3 (eL fr) (eL fr) fr))) rows1), some ((dE eI) k2), some ((dE (eL (eT3 (eL fr) (eL fr) fr))) r6), some ((dE (eL (eT3 (eL fr) (eL fr) fr))) r10), some ((oL (dE (eT3 (eL fr) (eL fr) fr))) s14), none, none, none]) (wk_some (wk_some (wk_some (wk_some (wk_some (wk_none (wk_none (wk_none wk_nil)))))))) (fun s14 x15 => g_name (s_for (i_list (x_d rfl (i_on dmapI (l_for (F := (dE (eT3 (eL fr) (eL fr) fr))) (q := fun s16 : (List ((List Rat) × (List Rat) × Rat)) => [some ((dE (eL (eT3 (eL fr) (eL fr) fr))) rows1), some ((dE eI) k2), some ((dE (eL (eT3 (eL fr) (eL fr) fr))) r6), some ((dE (eL (eT3 (eL fr) (eL fr) fr))) r10), some ((oL (dE (eT3 (eL fr) (eL fr) fr))) s16), some ((dE (eT3 (eL fr) (eL fr) fr)) x15), none, none]) (wk_some (wk_some (wk_some (wk_some (wk_some (wk_some (wk_none (wk_none wk_nil)))))))) (fun s16 x17 => g_name (s_drop (x_call (b_io rfl (b_cons (x_call (b_cons (x_d rfl (b_cons (x_d rfl (b_cons (x_d rfl (b_nil (c_end rfl fn_t_taken_together rfl (fun _ => rfl) fun r18 => b_nil (c_end rfl fn_t_put_on rfl (fun _ => rfl) fun r19 => e_cN (wk_some (wk_some (wk_some (wk_some (wk_some (wk_some (wk_none (wk_none wk_nil))))))))))))))))))))))) fun s20 => e_cN (wk_some (wk_some (wk_some (wk_some (wk_some (wk_none (wk_none (wk_none wk_nil)))))))))))))) fun s21 => n_seq (s_ret (x_tupO (a_cons (x_d rfl (a_cons (x_d rfl (a_cons (x_fz rfl (fz_ol fun _ => fz_d) (a_nil (l_tup ((dE (eT3 (eL (eT3 (eL fr) (eL fr) fr)) (eL (eT3 (eL fr) (eL fr) fr)) (eL (eT3 (eL fr) (eL fr) fr)))) (r6, r10, s21)) (by rfl) (f_ret (a := (r6, r10, s21)) (F := (fun a : ((List ((List Rat) × (List Rat) × Rat)) × (List ((List Rat) × (List Rat) × Rat)) × (List ((List Rat) × (List Rat) × Rat))) => (dE (eT3 (eL (eT3 (eL fr) (eL fr) fr)) (eL (eT3 (eL fr) (eL fr) fr)) (eL (eT3 (eL fr) (eL fr) fr)))) a)) (G := (fun a : ((List ((List Rat) × (List Rat) × Rat)) × (List ((List Rat) × (List Rat) × Rat)) × (List ((List Rat) × (List Rat) × Rat))) => [])) rfl (by rfl) (by rfl))))))))))))))))))))))))))))))))))))))))))))))
@[irreducible] noncomputable def t_rule_of (plan1 : ((List (Rat × Rat)) × (List (Rat × Rat)) × (List ((List Rat) × (List Rat) × Rat)))) : R ((List ((List ((List Rat) × (List Rat) × Rat)) × (List ((List Rat) × (List Rat) × Rat)))) × (List ((List Rat) × (List Rat) × Rat))) :=
  (t_first_rows plan1).nx.bind fun r2 => (tDown ((tLen plan1.2.1) - (1 : Int)) (-(1 : Int))).bind fun ks3 => (tFold (fun (s4 : ((List ((List Rat) × (List Rat) × Rat)) × (List ((List ((List Rat) × (List Rat) × Rat)) × (List ((List Rat) × (List Rat) × Rat)))))) x5 => ((t_taken_out s4.1 x5).nx.bind fun r6 => (tIns s4.2 (0 : Int) (r6.1, r6.2.1)).bind fun steps7 => .ok (r6.2.2, steps7) : R ((List ((List Rat) × (List Rat) × Rat)) × (List ((List ((List Rat) × (List Rat) × Rat)) × (List ((List Rat) × (List Rat) × Rat))))))) ks3 (r2, ([] : (List ((List ((List Rat) × (List Rat) × Rat)) × (List ((List Rat) × (List Rat) × Rat))))))).bind fun s8 => .ok (s8.2, s8.1)
theorem fn_t_rule_of {plan1 : ((List (Rat × Rat)) × (List (Rat × Rat)) × (List ((List Rat) × (List Rat) × Rat)))} : Fn m_rule_of [(dE (eT3 (eL (eT2 fr fr)) (eL (eT2 fr fr)) (eL (eT3 (eL fr) (eL fr) fr)))) plan1] (t_rule_of plan1) (fun a : ((List ((List ((List Rat) × (List Rat) × Rat)) × (List ((List Rat) × (List Rat) × Rat)))) × (List ((List Rat) × (List Rat) × Rat))) => (dE (eT2 (eL (eT2 (eL (eT3 (eL fr) (eL fr) fr)) (eL (eT3 (eL fr) (eL fr) fr)))) (eL (eT3 (eL fr) (eL fr) fr)))) a) (fun a => []) := by
  unfold m_rule_of t_rule_of
  exact fn_j (p := [some ((dE (eT3 (eL (eT2 fr fr)) (eL (eT2 fr fr)) (eL (eT3 (eL fr) (eL fr) fr)))) plan1), none, none, none, none, none]) rfl (s_seq (s_asg (x_call (b_cons (x_d rfl (b_nil (c_end rfl fn_t_first_rows rfl (fun _ => rfl) fun r2 => g_name (n_seq (s_seq (s_asg (x_lstO (a_nil (l_lst (f := (dE (eT2 (eL (eT3 (eL fr) (eL fr) fr)) (eL (eT3 (eL fr) (eL fr) fr))))) ([] : (List ((List ((List Rat) × (List Rat) × Rat)) × (List ((List Rat) × (List Rat) × Rat))))) (by rfl) (g_name (n_seq (s_seq (s_for (i_range3 (a_cons (x_lift (p_bin (p_callB (z_cons (p_bin (p_var rfl (p_c (v_ok (u := ((dE (eL (eT2 fr fr))) plan1.2.1)) rfl (z_nil (v_ok len_l (p_c (v_ok rfl (x_onlyD (a_cons (x_lift (p_un (p_c (v_ok rfl (x_onlyD (a_cons (x_lift (p_un (p_c (v_ok rfl (x_onlyD (a_nil (i_r3 fun ks3 => l_for (F := (dE eI)) (q := fun s4 : ((List ((List Rat) × (List Rat) × Rat)) × (List ((List ((List Rat) × (List Rat) × Rat)) × (List ((List Rat) × (List Rat) × Rat))))) => [some ((dE (eT3 (eL (eT2 fr fr)) (eL (eT2 fr fr)) (eL (eT3 (eL fr) (eL fr) fr)))) plan1), some ((dE (eL (eT3 (eL fr) (eL fr) fr))) s4.1), some ((oL (dE (eT2 (eL (eT3 (eL fr) (eL fr) fr)) (eL (eT3 (eL fr) (eL fr) fr))))) s4.2), none, none, none]) (wk_some (wk_some (wk_some (wk_none (wk_none (wk_none wk_nil)))))) (fun s4 x5 => g_name (s_seq (s_asg (x_call (b_cons (x_d rfl (b_cons (x_d rfl (b_nil (c_end rfl fn_t_taken_out rfl (fun _ => rfl) fun r6 => g_tup rfl rfl (g_cons (g_name (g_cons (g_name (g_cons (g_name (g_nil (n_seq (s_drop (x_meth rfl (a_cons (x_lift (p_c (x_onlyD (a_cons (x_tupO (a_cons (x_d rfl (a_cons (x_d rfl (a_nil (l_tup ((dE (eT2 (eL (eT3 (eL fr) (eL fr) fr)) (eL (eT3 (eL fr) (eL fr) fr)))) (r6.1, r6.2.1)) (by rfl) (a_nil (m_insert (f := (dE (eT2 (eL (eT3 (eL fr) (eL fr) fr)) (eL (eT3 (eL fr) (eL fr) fr))))) (xs := s4.2) (x := (r6.1, r6.2.1)) rfl rfl fun steps7 => e_cN (wk_some (wk_some (wk_some (wk_none (wk_none (wk_none wk_nil)))))))))))))))))))))))))))))))))))))))) fun s8 => n_seq (s_ret (x_tupO (a_cons (x_fz rfl (fz_ol fun _ => fz_d) (a_cons (x_d rfl (a_nil (l_tup ((dE (eT2 (eL (eT2 (eL (eT3 (eL fr) (eL fr) fr)) (eL (eT3 (eL fr) (eL fr) fr)))) (eL (eT3 (eL fr) (eL fr) fr)))) (s8.2, s8.1)) (by rfl) (f_ret (a := (s8.2, s8.1)) (F := (fun a : ((List ((List ((List Rat) × (List Rat) × Rat)) × (List ((List Rat) × (List Rat) × Rat)))) × (List ((List Rat) × (List Rat) × Rat))) => (dE (eT2 (eL (eT2 (eL (eT3 (eL fr) (eL fr) fr)) (eL (eT3 (eL fr) (eL fr) fr)))) (eL (eT3 (eL fr) (eL fr) fr)))) a)) (G := (fun a : ((List ((List ((List Rat) × (List Rat) × Rat)) × (List ((List Rat) × (List Rat) × Rat)))) × (List ((List Rat) × (List Rat) × Rat))) => [])) rfl (by rfl) (by rfl))))))))))))))))))))))))))))))))))))))))))))))))))))))))
@[irreducible] noncomputable def t__law_moved_2 (plan1 : ((List (Rat × Rat)) × (List (Rat × Rat)) × (List ((List Rat) × (List Rat) × Rat)))) (moves2 : (List Rat)) (shifts3 : (List Rat)) : R ((List (Rat × Rat)) × (List (Rat × Rat)) × (List ((List Rat) × (List Rat) × Rat))) :=
  (tMapG (fun x4 => ((rAdd x4.1.1 x4.2).nx.bind fun r5 => (rAdd x4.1.2 x4.2).nx.bind fun r6 => .ok (r5, r6) : R (Rat × Rat))) (plan1.1.zip moves2)).bind fun r7 => (tMapG (fun x8 => ((rAdd x8.1.1 x8.2).nx.bind fun r9 => (rAdd x8.1.2 x8.2).nx.bind fun r10 => .ok (r9, r10) : R (Rat × Rat))) (plan1.2.1.zip shifts3)).bind fun r11 => (tFold (fun (s12 : (List ((List Rat) × (List Rat) × Rat))) x13 => ((tCat (x13.1.zip moves2) (x13.2.1.zip shifts3)).bind fun v14 => (tFold (fun (s15 : Rat) x16 => ((rMul x16.1 (-x16.2)).nx.bind fun r17 => (rAdd s15 r17).nx.bind fun r18 => .ok (r18) : R Rat)) v14 (x13.2.2)).bind fun s19 => (tApp s12 (x13.1, x13.2.1, s19)).bind fun demands20 => .ok (demands20) : R (List ((List Rat) × (List Rat) × Rat)))) plan1.2.2 (([] : (List ((List Rat) × (List Rat) × Rat))))).bind fun s21 => .ok (r7, r11, s21)
theorem fn_t__law_moved_2 {plan1 : ((List (Rat × Rat)) × (List (Rat × Rat)) × (List ((List Rat) × (List Rat) × Rat)))} {moves2 : (List Rat)} {shifts3 : (List Rat)} : Fn m__law_moved_2 [(dE (eT3 (eL (eT2 fr fr)) (eL (eT2 fr fr)) (eL (eT3 (eL fr) (eL fr) fr)))) plan1, (dE (eL fr)) moves2, (dE (eL fr)) shifts3] (t__law_moved_2 plan1 moves2 shifts3) (fun a : ((List (Rat × Rat)) × (List (Rat × Rat)) × (List ((List Rat) × (List Rat) × Rat))) => (dE (eT3 (eL (eT2 fr fr)) (eL (eT2 fr fr)) (eL (eT3 (eL fr) (eL fr) fr)))) a) (fun a => []) := by
  unfold m__law_moved_2 t__law_moved_2
  exact fn_j (p := [some ((dE (eT3 (eL (eT2 fr fr)) (eL (eT2 fr fr)) (eL (eT3 (eL fr) (eL fr) fr)))) plan1), some ((dE (eL fr)) moves2), some ((dE (eL fr)) shifts3), none, none, none, none, none, none, none, none, none, none]) rfl (s_seq (s_thenFz (s_asg (x_lc (i_zip (a_cons (x_lift (p_bin (p_var rfl (p_c (v_ok (u := ((dE (eL (eT2 fr fr))) plan1.1)) rfl (x_onlyD (a_cons (x_d rfl (a_nil (i_z (l_map (F := (dE (eT2 (eT2 fr fr) fr))) (G := (dE (eT2 fr fr))) (q := [some ((dE (eT3 (eL (eT2 fr fr)) (eL (eT2 fr fr)) (eL (eT3 (eL fr) (eL fr) fr)))) plan1), some ((dE (eL fr)) moves2), some ((dE (eL fr)) shifts3), none, none, none, none, none, none, none, none, none, none]) (wk_some (wk_some (wk_some (wk_none (wk_none (wk_none (wk_none (wk_none (wk_none (wk_none (wk_none (wk_none (wk_none wk_nil))))))))))))) rfl (fun x4 => g_tup rfl rfl (g_cons (g_tup rfl rfl (g_cons (g_name (g_cons (g_name (g_nil (g_cons (g_name (g_nil (x_tupO (a_cons (x_call (b_cons (x_d rfl (b_cons (x_d rfl (b_nil (c_end rfl fn_lplus4 rfl (fun _ => rfl) fun r5 => a_cons (x_call (b_cons (x_d rfl (b_cons (x_d rfl (b_nil (c_end rfl fn_lplus4 rfl (fun _ => rfl) fun r6 => a_nil (l_tup ((dE (eT2 fr fr)) (r5, r6)) (by rfl) (e_m (by rfl) (wk_some (wk_some (wk_some (wk_none (wk_none (wk_none (wk_none (wk_none (wk_none (wk_none (wk_none (wk_none (wk_none wk_nil)))))))))))))))))))))))))))))))))))))))))) fun r7 => g_name (n_fz rfl (fz_ol fun _ => fz_d) (n_seq (s_seq (s_thenFz (s_asg (x_lc (i_zip (a_cons (x_lift (p_bin (p_var rfl (p_c (v_ok (u := ((dE (eL (eT2 fr fr))) plan1.2.1)) rfl (x_onlyD (a_cons (x_d rfl (a_nil (i_z (l_map (F := (dE (eT2 (eT2 fr fr) fr))) (G := (dE (eT2 fr fr))) (q := [some ((dE (eT3 (eL (eT2 fr fr)) (eL (eT2 fr fr)) (eL (eT3 (eL fr) (eL fr) fr)))) plan1), some ((dE (eL fr)) moves2), some ((dE (eL fr)) shifts3), some ((dE (eL (eT2 fr fr))) r7), none, none, none, none, none, none, none, none, none]) (wk_some (wk_some (wk_some (wk_some (wk_none (wk_none (wk_none (wk_none (wk_none (wk_none (wk_none (wk_none (wk_none wk_nil))))))))))))) rfl (fun x8 => g_tup rfl rfl (g_cons (g_tup rfl rfl (g_cons (g_name (g_cons (g_name (g_nil (g_cons (g_name (g_nil (x_tupO (a_cons (x_call (b_cons (x_d rfl (b_cons (x_d rfl (b_nil (c_end rfl fn_lplus4 rfl (fun _ => rfl) fun r9 => a_cons (x_call (b_cons (x_d rfl (b_cons (x_d rfl (b_nil (c_end rfl fn_lplus4 rfl (fun _ => rfl) fun r10 => a_nil (l_tup ((dE (eT2 fr fr)) (r9, r10)) (by rfl) (e_m (by rfl) (wk_some (wk_some (wk_some (wk_some (wk_none (wk_none (wk_none (wk_none (wk_none (wk_none (wk_none (wk_none (wk_none wk_nil)))))))))))))))))))))))))))))))))))))))))) fun r11 => g_name (n_fz rfl (fz_ol fun _ => fz_d) (n_seq (s_seq (s_asg (x_lstO (a_nil (l_lst (f := (dE (eT3 (eL fr) (eL fr) fr))) ([] : (List ((List Rat) × (List Rat) × Rat))) (by rfl) (g_name (n_seq (s_seq (s_for (i_list (x_lift (p_bin (p_var rfl (p_c (v_ok (u := ((dE (eL (eT3 (eL fr) (eL fr) fr))) plan1.2.2)) rfl (x_onlyD (i_on dmapI (l_for (F := (dE (eT3 (eL fr) (eL fr) fr))) (q := fun s12 : (List ((List Rat) × (List Rat) × Rat)) => [some ((dE (eT3 (eL (eT2 fr fr)) (eL (eT2 fr fr)) (eL (eT3 (eL fr) (eL fr) fr)))) plan1), some ((dE (eL fr)) moves2), some ((dE (eL fr)) shifts3), some ((dE (eL (eT2 fr fr))) r7), some ((dE (eL (eT2 fr fr))) r11), some ((oL (dE (eT3 (eL fr) (eL fr) fr))) s12), none, none, none, none, none, none, none]) (wk_some (wk_some (wk_some (wk_some (wk_some (wk_some (wk_none (wk_none (wk_none (wk_none (wk_none (wk_none (wk_none wk_nil))))))))))))) (fun s12 x13 => g_tup rfl rfl (g_cons (g_name (g_cons (g_name (g_cons (g_name (g_nil (s_seq (s_for (i_list (x_mfz (x_bin (x_mfz (x_listZip (a_cons (x_d rfl (a_cons (x_d rfl (a_nil (l_lz (x_frz (fz_ol fun _ => fz_d) (x_mfz (x_listZip (a_cons (x_d rfl (a_cons (x_d rfl (a_nil (l_lz (x_frz (fz_ol fun _ => fz_d) (o_rN (ro_cat lst_d lst_d) fun v14 => x_frz (fz_ol fun _ => fz_d) (i_on dmapI (l_for (F := (dE (eT2 fr fr))) (q := fun s15 : Rat => [some ((dE (eT3 (eL (eT2 fr fr)) (eL (eT2 fr fr)) (eL (eT3 (eL fr) (eL fr) fr)))) plan1), some ((dE (eL fr)) moves2), some ((dE (eL fr)) shifts3), some ((dE (eL (eT2 fr fr))) r7), some ((dE (eL (eT2 fr fr))) r11), some ((oL (dE (eT3 (eL fr) (eL fr) fr))) s12), some ((dE (eL fr)) x13.1), some ((dE (eL fr)) x13.2.1), some ((dE fr) s15), none, none, none, none]) (wk_some (wk_some (wk_some (wk_some (wk_some (wk_some (wk_some (wk_some (wk_some (wk_none (wk_none (wk_none (wk_none wk_nil))))))))))))) (fun s15 x16 => g_tup rfl rfl (g_cons (g_name (g_cons (g_name (g_nil (s_asg (x_call (b_cons (x_d rfl (b_cons (x_call (b_cons (x_d rfl (b_cons (x_tupO (a_cons (x_lift (p_un (p_bin (p_var rfl (p_c (v_ok (u := ((dE eI) (Rat.num x16.2))) rfl (v_ok rfl (x_onlyD (a_cons (x_lift (p_bin (p_var rfl (p_c (v_ok (u := ((dE eI) ((Rat.den x16.2 : Nat) : Int))) rfl (x_onlyD (a_nil (l_tup (.d (fr (-x16.2))) tup_neg2 (b_nil (c_end rfl fn_ltimes3 rfl (fun _ => rfl) fun r17 => b_nil (c_end rfl fn_lplus4 rfl (fun _ => rfl) fun r18 => g_name (e_cN (wk_some (wk_some (wk_some (wk_some (wk_some (wk_some (wk_some (wk_some (wk_some (wk_none (wk_none (wk_none (wk_none wk_nil))))))))))))))))))))))))))))))))))))))))))))))))))) fun s19 => n_seq (s_drop (x_meth rfl (a_cons (x_tupO (a_cons (x_mfz (x_callB (a_cons (x_d rfl (a_nil (o_okN (list_of rfl) (x_frz (fz_ol fun _ => fz_d) (a_cons (x_mfz (x_callB (a_cons (x_d rfl (a_nil (o_okN (list_of rfl) (x_frz (fz_ol fun _ => fz_d) (a_cons (x_d rfl (a_nil (l_tup ((dE (eT3 (eL fr) (eL fr) fr)) (x13.1, x13.2.1, s19)) (by rfl) (a_nil (m_append (f := (dE (eT3 (eL fr) (eL fr) fr))) (xs := s12) (x := (x13.1, x13.2.1, s19)) rfl rfl fun demands20 => e_cN (wk_some (wk_some (wk_some (wk_some (wk_some (wk_some (wk_none (wk_none (wk_none (wk_none (wk_none (wk_none (wk_none wk_nil))))))))))))))))))))))))))))))))))))))))))))))))))))))))))))))))))))))))) fun s21 => n_seq (s_ret (x_tupO (a_cons (x_d rfl (a_cons (x_d rfl (a_cons (x_fz rfl (fz_ol fun _ => fz_d) (a_nil (l_tup ((dE (eT3 (eL (eT2 fr fr)) (eL (eT2 fr fr)) (eL (eT3 (eL fr) (eL fr) fr)))) (r7, r11, s21)) (by rfl) (f_ret (a := (r7, r11, s21)) (F := (fun a : ((List (Rat × Rat)) × (List (Rat × Rat)) × (List ((List Rat) × (List Rat) × Rat))) => (dE (eT3 (eL (eT2 fr fr)) (eL (eT2 fr fr)) (eL (eT3 (eL fr) (eL fr) fr)))) a)) (G := (fun a : ((List (Rat × Rat)) × (List (Rat × Rat)) × (List ((List Rat) × (List Rat) × Rat))) => [])) rfl (by rfl) (by rfl))))))))))))))))))))))))))))))))))))))))))))))))))))))))))))))))))))
@[irreducible] noncomputable def t__law_made_2 (state1 : (Int × Bool × Int)) (plan2 : ((List (Rat × Rat)) × (List (Rat × Rat)) × (List ((List Rat) × (List Rat) × Rat)))) : R ((List Rat) × (Int × Bool × Int)) :=
  (tFold (fun (s3 : ((Int × Bool × Int) × (List Rat))) x4 => ((t__law_take_3 s3.1 (9 : Int)).nx.bind fun r5 => (rMkP r5.1 (8 : Int)).nx.bind fun r6 => (rAdd x4.2 (-x4.1)).nx.bind fun r7 => (rMul r6 r7).nx.bind fun r8 => (rAdd x4.1 r8).nx.bind fun r9 => (show R ((Int × Bool × Int) × Rat) from (t__law_take_3 r5.2 (12 : Int)).nx.bind fun r11 => if r11.1 = (5 : Int) then (t__law_some r11.2).nx.bind fun r12 => (rAdd r9 r12.1).nx.bind fun r13 => .ok (r12.2, r13) else .ok (r11.2, r9)).bind fun z10 => (tApp s3.2 z10.2).bind fun found14 => .ok (z10.1, found14) : R ((Int × Bool × Int) × (List Rat)))) plan2.1 (state1, ([] : (List Rat)))).bind fun s15 => .ok (s15.2, s15.1)
theorem fn_t__law_made_2 {state1 : (Int × Bool × Int)} {plan2 : ((List (Rat × Rat)) × (List (Rat × Rat)) × (List ((List Rat) × (List Rat) × Rat)))} : Fn m__law_made_2 [(fun s : (Int × Bool × Int) => T.od [.inr "rest", .inr "mixed", .inr "turn"] [(dE eI) (s.1), (dE eB) (s.2.1), (dE eI) (s.2.2)]) state1, (dE (eT3 (eL (eT2 fr fr)) (eL (eT2 fr fr)) (eL (eT3 (eL fr) (eL fr) fr)))) plan2] (t__law_made_2 state1 plan2) (fun a : ((List Rat) × (Int × Bool × Int)) => (dE (eL fr)) a.1) (fun a => [(fun s : (Int × Bool × Int) => T.od [.inr "rest", .inr "mixed", .inr "turn"] [(dE eI) (s.1), (dE eB) (s.2.1), (dE eI) (s.2.2)]) a.2]) := by
  unfold m__law_made_2 t__law_made_2
  exact fn_j (p := [some ((fun s : (Int × Bool × Int) => T.od [.inr "rest", .inr "mixed", .inr "turn"] [(dE eI) (s.1), (dE eB) (s.2.1), (dE eI) (s.2.2)]) state1), some ((dE (eT3 (eL (eT2 fr fr)) (eL (eT2 fr fr)) (eL (eT3 (eL fr) (eL fr) fr)))) plan2), none, none, none, none, none]) rfl (s_seq (s_asg (x_lstO (a_nil (l_lst (f := (dE fr)) ([] : (List Rat)) (by rfl) (g_name (n_seq (s_seq (s_for (i_list (x_lift (p_bin (p_var rfl (p_c (v_ok (u := ((dE (eL (eT2 fr fr))) plan2.1)) rfl (x_onlyD (i_on dmapI (l_for (F := (dE (eT2 fr fr))) (q := fun s3 : ((Int × Bool × Int) × (List Rat)) => [some ((fun s : (Int × Bool × Int) => T.od [.inr "rest", .inr "mixed", .inr "turn"] [(dE eI) (s.1), (dE eB) (s.2.1), (dE eI) (s.2.2)]) s3.1), some ((dE (eT3 (eL (eT2 fr fr)) (eL (eT2 fr fr)) (eL (eT3 (eL fr) (eL fr) fr)))) plan2), some ((oL (dE fr)) s3.2), none, none, none, none]) (wk_some (wk_some (wk_some (wk_none (wk_none (wk_none (wk_none wk_nil))))))) (fun s3 x4 => g_tup rfl rfl (g_cons (g_name (g_cons (g_name (g_nil (s_seq (s_asg (x_call (b_cons (x_call (b_io rfl (b_cons (x_lift (p_c (x_onlyD (b_nil (c_end rfl fn_t__law_take_3 rfl (fun _ => rfl) fun r5 => b_cons (x_lift (p_c (x_onlyD (b_nil (c_end rfl fn_lfrac rfl (fun _ => rfl) fun r6 => g_name (n_seq (s_seq (s_asg (x_call (b_cons (x_d rfl (b_cons (x_call (b_cons (x_d rfl (b_cons (x_call (b_cons (x_d rfl (b_cons (x_tupO (a_cons (x_lift (p_un (p_bin (p_var rfl (p_c (v_ok (u := ((dE eI) (Rat.num x4.1))) rfl (v_ok rfl (x_onlyD (a_cons (x_lift (p_bin (p_var rfl (p_c (v_ok (u := ((dE eI) ((Rat.den x4.1 : Nat) : Int))) rfl (x_onlyD (a_nil (l_tup (.d (fr (-x4.1))) tup_neg2 (b_nil (c_end rfl fn_lplus4 rfl (fun _ => rfl) fun r7 => b_nil (c_end rfl fn_ltimes3 rfl (fun _ => rfl) fun r8 => b_nil (c_end rfl fn_lplus4 rfl (fun _ => rfl) fun r9 => g_name (n_seq (s_seq (s_cut (q := fun z10 : ((Int × Bool × Int) × Rat) => [some ((fun s : (Int × Bool × Int) => T.od [.inr "rest", .inr "mixed", .inr "turn"] [(dE eI) (s.1), (dE eB) (s.2.1), (dE eI) (s.2.2)]) z10.1), some ((dE (eT3 (eL (eT2 fr fr)) (eL (eT2 fr fr)) (eL (eT3 (eL fr) (eL fr) fr)))) plan2), some ((oL (dE fr)) s3.2), some ((dE fr) x4.1), some ((dE fr) x4.2), some ((dE fr) r6), some ((dE fr) z10.2)]) (s_if (t_test (x_bin (x_call (b_io rfl (b_cons (x_lift (p_c (x_onlyD (b_nil (c_end rfl fn_t__law_take_3 rfl (fun _ => rfl) fun r11 => x_lift (p_c (x_onlyD (o_ok rfl (t_onB (g_ite (by first | rfl | simp) (fun _ => s_asg (x_call (b_cons (x_d rfl (b_cons (x_call (b_io rfl (b_nil (c_end rfl fn_t__law_some rfl (fun _ => rfl) fun r12 => b_nil (c_end rfl fn_lplus4 rfl (fun _ => rfl) fun r13 => g_name (e_n (wk_some (wk_some (wk_some (wk_some (wk_some (wk_some (wk_some wk_nil)))))))))))))))))) (fun _ => s_next (e_n (wk_some (wk_some (wk_some (wk_some (wk_some (wk_some (wk_some wk_nil))))))))))))))))))))))))) fun z10 => n_seq (s_drop (x_meth rfl (a_cons (x_d rfl (a_nil (m_append (f := (dE fr)) (xs := s3.2) (x := z10.2) rfl rfl fun found14 => e_cN (wk_some (wk_some (wk_some (wk_none (wk_none (wk_none (wk_none wk_nil))))))))))))))))))))))))))))))))))))))))))))))))))))))))))))))))))))))))))))) fun s15 => n_seq (s_ret (x_fz rfl (fz_ol fun _ => fz_d) (f_ret (a := (s15.2, s15.1)) (F := (fun a : ((List Rat) × (Int × Bool × Int)) => (dE (eL fr)) a.1)) (G := (fun a : ((List Rat) × (Int × Bool × Int)) => [(fun s : (Int × Bool × Int) => T.od [.inr "rest", .inr "mixed", .inr "turn"] [(dE eI) (s.1), (dE eB) (s.2.1), (dE eI) (s.2.2)]) a.2])) rfl (by rfl) (by rfl))))))))))))))))))))))
@[irreducible] noncomputable def t_worth_of (row1 : ((List Rat) × (List Rat) × Rat)) (made2 : (List Rat)) (choice3 : (List Rat)) : R Rat :=
  (tCat (row1.1.zip made2) (row1.2.1.zip choice3)).bind fun v4 => (tFold (fun (s5 : Rat) x6 => ((rMul x6.1 x6.2).nx.bind fun r7 => (rAdd s5 r7).nx.bind fun r8 => .ok (r8) : R Rat)) v4 (row1.2.2)).bind fun s9 => .ok s9
theorem fn_t_worth_of {row1 : ((List Rat) × (List Rat) × Rat)} {made2 : (List Rat)} {choice3 : (List Rat)} : Fn m_worth_of [(dE (eT3 (eL fr) (eL fr) fr)) row1, (dE (eL fr)) made2, (dE (eL fr)) choice3] (t_worth_of row1 made2 choice3) (fun a : Rat => (dE fr) a) (fun a => []) := by
  unfold m_worth_of t_worth_of
  exact fn_j (p := [some ((dE (eT3 (eL fr) (eL fr) fr)) row1), some ((dE (eL fr)) made2), some ((dE (eL fr)) choice3), none, none, none]) rfl (s_seq (s_asg (x_lift (p_bin (p_var rfl (p_c (v_ok (u := ((dE fr) row1.2.2)) rfl (x_onlyD (g_name (n_seq (s_seq (s_for (i_list (x_mfz (x_bin (x_mfz (x_listZip (a_cons (x_lift (p_bin (p_var rfl (p_c (v_ok (u := ((dE (eL fr)) row1.1)) rfl (x_onlyD (a_cons (x_d rfl (a_nil (l_lz (x_frz (fz_ol fun _ => fz_d) (x_mfz (x_listZip (a_cons (x_lift (p_bin (p_var rfl (p_c (v_ok (u := ((dE (eL fr)) row1.2.1)) rfl (x_onlyD (a_cons (x_d rfl (a_nil (l_lz (x_frz (fz_ol fun _ => fz_d) (o_rN (ro_cat lst_d lst_d) fun v4 => x_frz (fz_ol fun _ => fz_d) (i_on dmapI (l_for (F := (dE (eT2 fr fr))) (q := fun s5 : Rat => [some ((dE (eT3 (eL fr) (eL fr) fr)) row1), some ((dE (eL fr)) made2), some ((dE (eL fr)) choice3), some ((dE fr) s5), none, none]) (wk_some (wk_some (wk_some (wk_some (wk_none (wk_none wk_nil)))))) (fun s5 x6 => g_tup rfl rfl (g_cons (g_name (g_cons (g_name (g_nil (s_asg (x_call (b_cons (x_d rfl (b_cons (x_call (b_cons (x_d rfl (b_cons (x_d rfl (b_nil (c_end rfl fn_times rfl (fun _ => rfl) fun r7 => b_nil (c_end rfl fn_plus rfl (fun _ => rfl) fun r8 => g_name (e_cN (wk_some (wk_some (wk_some (wk_some (wk_none (wk_none wk_nil)))))))))))))))))))))))))) fun s9 => n_seq (s_ret (x_d rfl (f_ret (a := s9) (F := (fun a : Rat => (dE fr) a)) (G := (fun a : Rat => [])) rfl (by rfl) (by rfl))))))))))))))))))))))))))))))))))))))))))))))))))
@[irreducible] noncomputable def t_chosen_by (rule1 : ((List ((List ((List Rat) × (List Rat) × Rat)) × (List ((List Rat) × (List Rat) × Rat)))) × (List ((List Rat) × (List Rat) × Rat)))) (made2 : (List Rat)) : R (List Rat) :=
  (tFold (fun (s3 : Unit) x4 => ((t_worth_of x4 made2 ([] : (List Rat))).nx.bind fun r5 => (rLt r5 (0 : Rat)).nx.bind fun r6 => if r6 = true then .exc "NoChoice" else .ok () : R Unit)) rule1.2 ()).bind fun s7 => (tFold (fun (s8 : (List Rat)) x9 => ((tFold (fun (s10 : (Option Rat)) x11 => ((show R Rat from (t_worth_of x11 made2 s8).nx.bind fun r12 => .ok r12).bind fun r13 => (rSub (0 : Rat) r13).nx.bind fun r14 => (tIdx x11.2.1 x9.1).bind fun x15 => (rDiv r14 x15).nx.bind fun r16 => (show R Bool from if (Option.isNone s10) = true then .ok true else (tGet s10).bind fun best18 => (rLt best18 r16).nx.bind fun r19 => .ok r19).bind fun b17 => if b17 = true then .ok ((some r16)) else .ok (s10) : R (Option Rat))) x9.2.1 (none)).bind fun s20 => (tGet s20).bind fun best21 => (tApp s8 best21).bind fun choice22 => .ok (choice22) : R (List Rat))) (enumL rule1.1) (([] : (List Rat)))).bind fun s23 => .ok s23
theorem fn_t_chosen_by {rule1 : ((List ((List ((List Rat) × (List Rat) × Rat)) × (List ((List Rat) × (List Rat) × Rat)))) × (List ((List Rat) × (List Rat) × Rat)))} {made2 : (List Rat)} : Fn m_chosen_by [(dE (eT2 (eL (eT2 (eL (eT3 (eL fr) (eL fr) fr)) (eL (eT3 (eL fr) (eL fr) fr)))) (eL (eT3 (eL fr) (eL fr) fr)))) rule1, (dE (eL fr)) made2] (t_chosen_by rule1 made2) (fun a : (List Rat) => (dE (eL fr)) a) (fun a => []) := by
  unfold m_chosen_by t_chosen_by
  exact fn_j (p := [some ((dE (eT2 (eL (eT2 (eL (eT3 (eL fr) (eL fr) fr)) (eL (eT3 (eL fr) (eL fr) fr)))) (eL (eT3 (eL fr) (eL fr) fr)))) rule1), some ((dE (eL fr)) made2), none, none, none, none, none, none, none, none]) rfl (s_seq (s_asg (x_d rfl (g_tup rfl rfl (g_cons (g_name (g_cons (g_name (g_nil (n_seq (s_seq (s_for (i_list (x_d rfl (i_on dmapI (l_for (F := (dE (eT3 (eL fr) (eL fr) fr))) (q := fun s3 : Unit => [some ((dE (eT2 (eL (eT2 (eL (eT3 (eL fr) (eL fr) fr)) (eL (eT3 (eL fr) (eL fr) fr)))) (eL (eT3 (eL fr) (eL fr) fr)))) rule1), some ((dE (eL fr)) made2), none, none, some ((dE (eL (eT2 (eL (eT3 (eL fr) (eL fr) fr)) (eL (eT3 (eL fr) (eL fr) fr))))) rule1.1), some ((dE (eL (eT3 (eL fr) (eL fr) fr))) rule1.2), none, none, none, none]) (wk_some (wk_some (wk_none (wk_none (wk_some (wk_some (wk_none (wk_none (wk_none (wk_none wk_nil)))))))))) (fun s3 x4 => g_name (s_if (t_test (x_call (b_cons (x_call (b_cons (x_d rfl (b_cons (x_d rfl (b_cons (x_mfz (x_lstO (a_nil (l_lst (f := (dE fr)) ([] : (List Rat)) (by rfl) (x_frz (fz_ol fun _ => fz_d) (b_nil (c_end rfl fn_t_worth_of rfl (fun _ => rfl) fun r5 => b_cons (x_lift (p_cv (v := fr (0 : Rat)) (by rfl) (x_onlyD (b_nil (c_end rfl fn_below rfl (fun _ => rfl) fun r6 => t_onB (g_ite dec_self (fun _ => s_raise) (fun _ => s_next (e_cN (wk_some (wk_some (wk_none (wk_none (wk_some (wk_some (wk_none (wk_none (wk_none (wk_none wk_nil)))))))))))))))))))))))))))))))))))) fun s7 => n_seq (s_seq (s_asg (x_lstO (a_nil (l_lst (f := (dE fr)) ([] : (List Rat)) (by rfl) (g_name (n_seq (s_seq (s_for (i_enum (a_cons (x_d rfl (a_nil (i_n (l_for (F := (dE (eT2 eI (eT2 (eL (eT3 (eL fr) (eL fr) fr)) (eL (eT3 (eL fr) (eL fr) fr)))))) (q := fun s8 : (List Rat) => [some ((dE (eT2 (eL (eT2 (eL (eT3 (eL fr) (eL fr) fr)) (eL (eT3 (eL fr) (eL fr) fr)))) (eL (eT3 (eL fr) (eL fr) fr)))) rule1), some ((dE (eL fr)) made2), none, some ((oL (dE fr)) s8), some ((dE (eL (eT2 (eL (eT3 (eL fr) (eL fr) fr)) (eL (eT3 (eL fr) (eL fr) fr))))) rule1.1), some ((dE (eL (eT3 (eL fr) (eL fr) fr))) rule1.2), none, none, none, none]) (wk_some (wk_some (wk_none (wk_some (wk_some (wk_some (wk_none (wk_none (wk_none (wk_none wk_nil)))))))))) (fun s8 x9 => g_tup rfl rfl (g_cons (g_name (g_cons (g_name (g_nil (s_seq (s_asg (x_lift (p_c (x_onlyD (g_name (n_seq (s_seq (s_for (i_list (x_lift (p_bin (p_var rfl (p_c (v_ok (u := ((dE (eL (eT3 (eL fr) (eL fr) fr))) x9.2.1)) rfl (x_onlyD (i_on dmapI (l_for (F := (dE (eT3 (eL fr) (eL fr) fr))) (q := fun s10 : (Option Rat) => [some ((dE (eT2 (eL (eT2 (eL (eT3 (eL fr) (eL fr) fr)) (eL (eT3 (eL fr) (eL fr) fr)))) (eL (eT3 (eL fr) (eL fr) fr)))) rule1), some ((dE (eL fr)) made2), none, some ((oL (dE fr)) s8), some ((dE (eL (eT2 (eL (eT3 (eL fr) (eL fr) fr)) (eL (eT3 (eL fr) (eL fr) fr))))) rule1.1), some ((dE (eL (eT3 (eL fr) (eL fr) fr))) rule1.2), some ((dE eI) x9.1), some ((dE (eT2 (eL (eT3 (eL fr) (eL fr) fr)) (eL (eT3 (eL fr) (eL fr) fr)))) x9.2), some ((dE (eO fr)) s10), none]) (wk_some (wk_some (wk_none (wk_some (wk_some (wk_some (wk_some (wk_some (wk_some (wk_none wk_nil)))))))))) (fun s10 x11 => g_name (s_seq (s_asg (x_call (b_cons (x_call (b_cons (x_lift (p_cv (v := fr (0 : Rat)) (by rfl) (x_onlyD (b_cons (x_lookE (q := [none, none, none, none, none, none, none, none, none, none]) (e := fr) (Fzp.some fz_d (Fzp.some fz_d (Fzp.some fz_d (Fzp.some (fz_ol fun _ => fz_d) (Fzp.some fz_d (Fzp.some fz_d (Fzp.some fz_d (Fzp.some fz_d (Fzp.some fz_d (Fzp.none Fzp.nil)))))))))) calm_fr (x_call (b_cons (x_d rfl (b_cons (x_d rfl (b_cons (x_d rfl (b_nil (c_end rfl fn_t_worth_of rfl (fun _ => rfl) fun r12 => e_v (by rfl) (wk_none (wk_none (wk_none (wk_none (wk_none (wk_none (wk_none (wk_none (wk_none (wk_none wk_nil))))))))))))))))))) fun r13 => b_nil (c_end rfl fn_minus rfl (fun _ => rfl) fun r14 => b_cons (x_lift (p_bin (p_bin (p_var rfl (p_c (v_ok (u := ((dE (eL fr)) x11.2.1)) rfl (p_var rfl (v_r ro_idxL fun x15 => x_onlyD (b_nil (c_end rfl fn_over rfl (fun _ => rfl) fun r16 => g_name (n_seq (s_if (t_cut (q := [some ((dE (eT2 (eL (eT2 (eL (eT3 (eL fr) (eL fr) fr)) (eL (eT3 (eL fr) (eL fr) fr)))) (eL (eT3 (eL fr) (eL fr) fr)))) rule1), some ((dE (eL fr)) made2), some ((dE (eT3 (eL fr) (eL fr) fr)) x11), some ((oL (dE fr)) s8), some ((dE (eL (eT2 (eL (eT3 (eL fr) (eL fr) fr)) (eL (eT3 (eL fr) (eL fr) fr))))) rule1.1), some ((dE (eL (eT3 (eL fr) (eL fr) fr))) rule1.2), some ((dE eI) x9.1), some ((dE (eT2 (eL (eT3 (eL fr) (eL fr) fr)) (eL (eT3 (eL fr) (eL fr) fr)))) x9.2), some ((dE (eO fr)) s10), some ((dE fr) r16)]) (t_or (t_test (x_lift (p_bin (p_var rfl (p_c (v_ok (isn_eo fun _ => rfl) (x_onlyD (t_onB (g_ite dec_self (fun _ => e_b (wk_some (wk_some (wk_some (wk_some (wk_some (wk_some (wk_some (wk_some (wk_some (wk_some wk_nil))))))))))) (fun _ => t_test (x_call (b_cons (x_dG rfl fun best18 => b_cons (x_d rfl (b_nil (c_end rfl fn_below rfl (fun _ => rfl) fun r19 => t_onB (e_b (wk_some (wk_some (wk_some (wk_some (wk_some (wk_some (wk_some (wk_some (wk_some (wk_some wk_nil)))))))))))))))))))))))))))) fun b17 => g_ite dec_self (fun _ => s_asg (x_d rfl (g_name (e_cN (wk_some (wk_some (wk_none (wk_some (wk_some (wk_some (wk_some (wk_some (wk_some (wk_none wk_nil)))))))))))))) (fun _ => s_next (e_cN (wk_some (wk_some (wk_none (wk_some (wk_some (wk_some (wk_some (wk_some (wk_some (wk_none wk_nil)))))))))))))))))))))))))))))))))))))) fun s20 => n_seq (s_drop (x_meth rfl (a_cons (x_dG rfl fun best21 => a_nil (m_append (f := (dE fr)) (xs := s8) (x := best21) rfl rfl fun choice22 => e_cN (wk_some (wk_some (wk_none (wk_some (wk_some (wk_some (wk_none (wk_none (wk_none (wk_none wk_nil))))))))))))))))))))))))))))))))))))))) fun s23 => n_seq (s_ret (x_fz rfl (fz_ol fun _ => fz_d) (f_ret (a := s23) (F := (fun a : (List Rat) => (dE (eL fr)) a)) (G := (fun a : (List Rat) => [])) rfl (by rfl) (by rfl)))))))))))))))))))))))))))))))))))
@[irreducible] noncomputable def t__law_told (rule1 : ((List ((List ((List Rat) × (List Rat) × Rat)) × (List ((List Rat) × (List Rat) × Rat)))) × (List ((List Rat) × (List Rat) × Rat)))) (made2 : (List Rat)) : R (Option (List Rat)) :=
  (tTry ["NoChoice"] (show R (Option (List Rat)) from (t_chosen_by rule1 made2).bind fun r4 => .ok ((some r4))) (.ok (none))).bind fun z3 => .ok z3
theorem fn_t__law_told {rule1 : ((List ((List ((List Rat) × (List Rat) × Rat)) × (List ((List Rat) × (List Rat) × Rat)))) × (List ((List Rat) × (List Rat) × Rat)))} {made2 : (List Rat)} : Fn m__law_told [(dE (eT2 (eL (eT2 (eL (eT3 (eL fr) (eL fr) fr)) (eL (eT3 (eL fr) (eL fr) fr)))) (eL (eT3 (eL fr) (eL fr) fr)))) rule1, (dE (eL fr)) made2] (t__law_told rule1 made2) (fun a : (Option (List Rat)) => (dE (eO (eL fr))) a) (fun a => []) := by
  unfold m__law_told t__law_told
  exact fn_j (p := [some ((dE (eT2 (eL (eT2 (eL (eT3 (eL fr) (eL fr) fr)) (eL (eT3 (eL fr) (eL fr) fr)))) (eL (eT3 (eL fr) (eL fr) fr)))) rule1), some ((dE (eL fr)) made2), none]) rfl (s_seq (s_asg (x_lift (p_c (x_onlyD (g_name (n_seq (s_seq (s_tryO (q := fun z3 : (Option (List Rat)) => [none, none, some ((dE (eO (eL fr))) z3)]) (s_asg (x_call (b_cons (x_d rfl (b_cons (x_d rfl (b_nil (c_endX rfl fn_t_chosen_by rfl (fun _ => rfl) fun r4 => g_name (e_n (wk_none (wk_none (wk_some wk_nil)))))))))))) (s_asg (x_lift (p_c (x_onlyD (g_name (e_n (wk_none (wk_none (wk_some wk_nil))))))))) fun z3 => n_seq (s_ret (x_d rfl (f_ret (a := z3) (F := (fun a : (Option (List Rat)) => (dE (eO (eL fr))) a)) (G := (fun a : (Option (List Rat)) => [])) rfl (by rfl) (by rfl)))))))))))))
@[irreducible] noncomputable def t_law_11 (script1 : (List Int)) : R Bool :=
  (t__law_plan_4 script1).nx.bind fun r2 => (t_rule_of r2).nx.bind fun r3 => (t__law_state script1 (19 : Int)).nx.bind fun r4 => (tLcG (fun (s6 : (Int × Bool × Int)) x5 => ((t__law_some s6).nx.bind fun r7 => .ok (some r7.1, (r7.2)) : R (Option Rat × (Int × Bool × Int)))) r2.1 (r4)).bind fun r8 => (tLcG (fun (s10 : (Int × Bool × Int)) x9 => ((t__law_some s10).nx.bind fun r11 => .ok (some r11.1, (r11.2)) : R (Option Rat × (Int × Bool × Int)))) r2.2.1 (r8.2)).bind fun r12 => (t__law_moved_2 r2 r8.1 r12.1).nx.bind fun r13 => (t_rule_of r13).nx.bind fun r14 => (tRange (20 : Int) (tMax (24 : Int) (tMin (36 : Int) (tLen script1)))).bind fun ks15 => (tLoop (fun (s16 : Unit) x17 => ((t__law_state script1 x17).nx.bind fun r18 => (t__law_made_2 r18 r2).nx.bind fun r19 => (t__law_told r3 r19.1).nx.bind fun r20 => (tMapG (fun x21 => ((rAdd x21.1 x21.2).nx.bind fun r22 => .ok r22 : R Rat)) (r19.1.zip r8.1)).bind fun r23 => (t__law_told r14 r23).nx.bind fun r24 => if (Option.isNone r20) = true then if (!Option.isNone r24) = true then .ok (.rt false) else .ok (.nx ()) else (tGet r20).bind fun choice25 => (tMapG (fun x26 => ((rAdd x26.1 x26.2).nx.bind fun r27 => .ok r27 : R Rat)) (choice25.zip r12.1)).bind fun r28 => if ¬ r24 = (some r28) then .ok (.rt false) else .ok (.nx ()) : R (Fl Unit Bool))) ks15 ()).bind fun f => f.on (fun s29 => .ok true) (fun r30 => .ok r30)
theorem fn_t_law_11 {script1 : (List Int)} : Fn m_law_11 [(fun xs : List Int => T.rd (xs.map PyData.int)) script1] (t_law_11 script1) (fun a : Bool => (dE eB) a) (fun a => []) := by
  unfold m_law_11 t_law_11
  exact fn_j (p := [some ((fun xs : List Int => T.rd (xs.map PyData.int)) script1), none, none, none, none, none, none, none, none, none, none, none, none, none, none]) rfl (s_seq (s_asg (x_call (b_cons (x_rd rfl (b_nil (c_end rfl fn_t__law_plan_4 rfl (fun _ => rfl) fun r2 => g_name (n_seq (s_seq (s_asg (x_call (b_cons (x_d rfl (b_nil (c_end rfl fn_t_rule_of rfl (fun _ => rfl) fun r3 => g_name (n_seq (s_seq (s_asg (x_call (b_cons (x_rd rfl (b_cons (x_lift (p_c (x_onlyD (b_nil (c_end rfl fn_t__law_state rfl (fun _ => rfl) fun r4 => g_name (n_seq (s_seq (s_thenFz (s_asg (x_lc (i_list (x_lift (p_bin (p_var rfl (p_c (v_ok (u := ((dE (eL (eT2 fr fr))) r2.1)) rfl (x_onlyD (i_on dmapI (l_lc (F := (dE (eT2 fr fr))) (G := (dE fr)) (q := fun s6 : (Int × Bool × Int) => [some ((fun xs : List Int => T.rd (xs.map PyData.int)) script1), some ((dE (eT3 (eL (eT2 fr fr)) (eL (eT2 fr fr)) (eL (eT3 (eL fr) (eL fr) fr)))) r2), some ((dE (eT2 (eL (eT2 (eL (eT3 (eL fr) (eL fr) fr)) (eL (eT3 (eL fr) (eL fr) fr)))) (eL (eT3 (eL fr) (eL fr) fr)))) r3), some ((fun s : (Int × Bool × Int) => T.od [.inr "rest", .inr "mixed", .inr "turn"] [(dE eI) (s.1), (dE eB) (s.2.1), (dE eI) (s.2.2)]) s6), none, none, none, none, none, none, none, none, none, none, none]) (wk_some (wk_some (wk_some (wk_some (wk_none (wk_none (wk_none (wk_none (wk_none (wk_none (wk_none (wk_none (wk_none (wk_none (wk_none wk_nil))))))))))))))) (fun _ => rfl) (fun s6 x5 => g_name (x_call (b_io rfl (b_nil (c_end rfl fn_t__law_some rfl (fun _ => rfl) fun r7 => e_l (by rfl) (wk_some (wk_some (wk_some (wk_some (wk_none (wk_none (wk_none (wk_none (wk_none (wk_none (wk_none (wk_none (wk_none (wk_none (wk_none wk_nil)))))))))))))))))))) fun r8 => g_name (n_fz rfl (fz_ol fun _ => fz_d) (n_seq (s_seq (s_thenFz (s_asg (x_lc (i_list (x_lift (p_bin (p_var rfl (p_c (v_ok (u := ((dE (eL (eT2 fr fr))) r2.2.1)) rfl (x_onlyD (i_on dmapI (l_lc (F := (dE (eT2 fr fr))) (G := (dE fr)) (q := fun s10 : (Int × Bool × Int) => [some ((fun xs : List Int => T.rd (xs.map PyData.int)) script1), some ((dE (eT3 (eL (eT2 fr fr)) (eL (eT2 fr fr)) (eL (eT3 (eL fr) (eL fr) fr)))) r2), some ((dE (eT2 (eL (eT2 (eL (eT3 (eL fr) (eL fr) fr)) (eL (eT3 (eL fr) (eL fr) fr)))) (eL (eT3 (eL fr) (eL fr) fr)))) r3), some ((fun s : (Int × Bool × Int) => T.od [.inr "rest", .inr "mixed", .inr "turn"] [(dE eI) (s.1), (dE eB) (s.2.1), (dE eI) (s.2.2)]) s10), some ((dE (eL fr)) r8.1), none, none, none, none, none, none, none, none, none, none]) (wk_some (wk_some (wk_some (wk_some (wk_some (wk_none (wk_none (wk_none (wk_none (wk_none (wk_none (wk_none (wk_none (wk_none (wk_none wk_nil))))))))))))))) (fun _ => rfl) (fun s10 x9 => g_name (x_call (b_io rfl (b_nil (c_end rfl fn_t__law_some rfl (fun _ => rfl) fun r11 => e_l (by rfl) (wk_some (wk_some (wk_some (wk_some (wk_some (wk_none (wk_none (wk_none (wk_none (wk_none (wk_none (wk_none (wk_none (wk_none (wk_none wk_nil)))))))))))))))))))) fun r12 => g_name (n_fz rfl (fz_ol fun _ => fz_d) (n_seq (s_seq (s_asg (x_call (b_cons (x_call (b_cons (x_d rfl (b_cons (x_d rfl (b_cons (x_d rfl (b_nil (c_end rfl fn_t__law_moved_2 rfl (fun _ => rfl) fun r13 => b_nil (c_end rfl fn_t_rule_of rfl (fun _ => rfl) fun r14 => g_name (n_seq (s_seq (s_for (i_range2 (a_cons (x_lift (p_c (x_onlyD (a_cons (x_lift (p_callB (z_cons (p_c (z_cons (p_callB (z_cons (p_c (z_cons (p_callB (z_cons (p_var rfl (z_nil (v_ok len_r (z_nil (v_ok rfl (z_nil (v_ok rfl (x_onlyD (a_nil (i_r2 fun ks15 => l_forR (F := (dE eI)) (q := fun s16 : Unit => [some ((fun xs : List Int => T.rd (xs.map PyData.int)) script1), some ((dE (eT3 (eL (eT2 fr fr)) (eL (eT2 fr fr)) (eL (eT3 (eL fr) (eL fr) fr)))) r2), some ((dE (eT2 (eL (eT2 (eL (eT3 (eL fr) (eL fr) fr)) (eL (eT3 (eL fr) (eL fr) fr)))) (eL (eT3 (eL fr) (eL fr) fr)))) r3), some ((fun s : (Int × Bool × Int) => T.od [.inr "rest", .inr "mixed", .inr "turn"] [(dE eI) (s.1), (dE eB) (s.2.1), (dE eI) (s.2.2)]) r12.2), some ((dE (eL fr)) r8.1), some ((dE (eL fr)) r12.1), some ((dE (eT2 (eL (eT2 (eL (eT3 (eL fr) (eL fr) fr)) (eL (eT3 (eL fr) (eL fr) fr)))) (eL (eT3 (eL fr) (eL fr) fr)))) r14), none, none, none, none, none, none, none, none]) (FR := (fun r30 : Bool => (dE eB) r30)) (qr := fun r30 => [none, none, none, none, none, none, none, none, none, none, none, none, none, none, none]) (wk_some (wk_some (wk_some (wk_some (wk_some (wk_some (wk_some (wk_none (wk_none (wk_none (wk_none (wk_none (wk_none (wk_none (wk_none wk_nil))))))))))))))) (fun s16 x17 => g_name (s_seq (s_asg (x_call (b_cons (x_call (b_cons (x_rd rfl (b_cons (x_d rfl (b_nil (c_end rfl fn_t__law_state rfl (fun _ => rfl) fun r18 => b_cons (x_d rfl (b_nil (c_end rfl (fn_drop fn_t__law_made_2) rfl (fun _ => rfl) fun r19 => g_name (n_seq (s_seq (s_asg (x_call (b_cons (x_d rfl (b_cons (x_d rfl (b_nil (c_end rfl fn_t__law_told rfl (fun _ => rfl) fun r20 => g_name (n_seq (s_seq (s_asg (x_call (b_cons (x_d rfl (b_cons (x_mfz (x_lc (i_zip (a_cons (x_d rfl (a_cons (x_d rfl (a_nil (i_z (l_map (F := (dE (eT2 fr fr))) (G := (dE fr)) (q := [some ((fun xs : List Int => T.rd (xs.map PyData.int)) script1), some ((dE (eT3 (eL (eT2 fr fr)) (eL (eT2 fr fr)) (eL (eT3 (eL fr) (eL fr) fr)))) r2), some ((dE (eT2 (eL (eT2 (eL (eT3 (eL fr) (eL fr) fr)) (eL (eT3 (eL fr) (eL fr) fr)))) (eL (eT3 (eL fr) (eL fr) fr)))) r3), some ((fun s : (Int × Bool × Int) => T.od [.inr "rest", .inr "mixed", .inr "turn"] [(dE eI) (s.1), (dE eB) (s.2.1), (dE eI) (s.2.2)]) r12.2), some ((dE (eL fr)) r8.1), some ((dE (eL fr)) r12.1), some ((dE (eT2 (eL (eT2 (eL (eT3 (eL fr) (eL fr) fr)) (eL (eT3 (eL fr) (eL fr) fr)))) (eL (eT3 (eL fr) (eL fr) fr)))) r14), some ((dE eI) x17), some ((dE (eL fr)) r19.1), some ((dE (eO (eL fr))) r20), none, none, none, none, none]) (wk_some (wk_some (wk_some (wk_some (wk_some (wk_some (wk_some (wk_some (wk_some (wk_some (wk_none (wk_none (wk_none (wk_none (wk_none wk_nil))))))))))))))) rfl (fun x21 => g_tup rfl rfl (g_cons (g_name (g_cons (g_name (g_nil (x_call (b_cons (x_d rfl (b_cons (x_d rfl (b_nil (c_end rfl fn_lplus4 rfl (fun _ => rfl) fun r22 => e_m (by rfl) (wk_some (wk_some (wk_some (wk_some (wk_some (wk_some (wk_some (wk_some (wk_some (wk_some (wk_none (wk_none (wk_none (wk_none (wk_none wk_nil)))))))))))))))))))))))))))) fun r23 => x_frz (fz_ol fun _ => fz_d) (b_nil (c_end rfl fn_t__law_told rfl (fun _ => rfl) fun r24 => g_name (n_seq (s_if (t_test (x_lift (p_bin (p_var rfl (p_c (v_ok (isn_eo fun _ => rfl) (x_onlyD (t_onB (g_ite dec_self (fun _ => s_if (t_test (x_lift (p_bin (p_var rfl (p_c (v_ok (notn_eo fun _ => rfl) (x_onlyD (t_onB (g_ite dec_self (fun _ => s_ret (x_lift (p_c (x_onlyD (e_fR (by rfl) (wk_none (wk_none (wk_none (wk_none (wk_none (wk_none (wk_none (wk_none (wk_none (wk_none (wk_none (wk_none (wk_none (wk_none (wk_none wk_nil)))))))))))))))))))) (fun _ => s_next (e_fN (wk_some (wk_some (wk_some (wk_some (wk_some (wk_some (wk_some (wk_none (wk_none (wk_none (wk_none (wk_none (wk_none (wk_none (wk_none wk_nil))))))))))))))))))))))))))) (fun _ => s_if (t_test (x_bin (x_d rfl (x_mfz (x_lc (i_zip (a_cons (x_dG rfl fun choice25 => a_cons (x_d rfl (a_nil (i_z (l_map (F := (dE (eT2 fr fr))) (G := (dE fr)) (q := [some ((fun xs : List Int => T.rd (xs.map PyData.int)) script1), some ((dE (eT3 (eL (eT2 fr fr)) (eL (eT2 fr fr)) (eL (eT3 (eL fr) (eL fr) fr)))) r2), some ((dE (eT2 (eL (eT2 (eL (eT3 (eL fr) (eL fr) fr)) (eL (eT3 (eL fr) (eL fr) fr)))) (eL (eT3 (eL fr) (eL fr) fr)))) r3), some ((fun s : (Int × Bool × Int) => T.od [.inr "rest", .inr "mixed", .inr "turn"] [(dE eI) (s.1), (dE eB) (s.2.1), (dE eI) (s.2.2)]) r12.2), some ((dE (eL fr)) r8.1), some ((dE (eL fr)) r12.1), some ((dE (eT2 (eL (eT2 (eL (eT3 (eL fr) (eL fr) fr)) (eL (eT3 (eL fr) (eL fr) fr)))) (eL (eT3 (eL fr) (eL fr) fr)))) r14), some ((dE eI) x17), some ((dE (eL fr)) r19.1), some ((dE (eO (eL fr))) r20), some ((dE (eO (eL fr))) r24), none, none, none, none]) (wk_some (wk_some (wk_some (wk_some (wk_some (wk_some (wk_some (wk_some (wk_some (wk_some (wk_some (wk_none (wk_none (wk_none (wk_none wk_nil))))))))))))))) rfl (fun x26 => g_tup rfl rfl (g_cons (g_name (g_cons (g_name (g_nil (x_call (b_cons (x_d rfl (b_cons (x_d rfl (b_nil (c_end rfl fn_lplus4 rfl (fun _ => rfl) fun r27 => e_m (by rfl) (wk_some (wk_some (wk_some (wk_some (wk_some (wk_some (wk_some (wk_some (wk_some (wk_some (wk_some (wk_none (wk_none (wk_none (wk_none wk_nil)))))))))))))))))))))))))))) fun r28 => x_frz (fz_ol fun _ => fz_d) (o_ok (ne_nice (e := (eO (eL fr))) (a := r24) (b := (some r28)) ((((nice_Q).list).opt (by intro a h; cases h))) toD_d toD_d) (t_onB (g_ite (by first | rfl | simp) (fun _ => s_ret (x_lift (p_c (x_onlyD (e_fR (by rfl) (wk_none (wk_none (wk_none (wk_none (wk_none (wk_none (wk_none (wk_none (wk_none (wk_none (wk_none (wk_none (wk_none (wk_none (wk_none wk_nil)))))))))))))))))))) (fun _ => s_next (e_fN (wk_some (wk_some (wk_some (wk_some (wk_some (wk_some (wk_some (wk_none (wk_none (wk_none (wk_none (wk_none (wk_none (wk_none (wk_none wk_nil)))))))))))))))))))))))))))))))))))))))))))))))))))))))))))))))))))))))))))))))))))))))) (fun s29 => n_seq (s_ret (x_lift (p_c (x_onlyD (f_ret (a := true) (F := (fun a : Bool => (dE eB) a)) (G := (fun a : Bool => [])) rfl (by rfl) (by rfl))))))) (fun r30 => r_seq (f_ret (a := r30) (F := (fun a : Bool => (dE eB) a)) (G := (fun a : Bool => [])) rfl (by rfl) (by rfl)))))))))))))))))))))))))))))))))))))))))))))))))))))))))))))))))))))))))))))))))))))))))))))))))))))))))
end Sr
/-! L5 -/
/-! L5: what typed terms come to. -/
namespace L4
open PySem PySem.Spec PyProof.Rows L2 L3
section
variable {α β σ γ δ : Type} {P : δ → Prop} {E : Str → Prop}
theorem st_ok {a : α} {k : α → R δ} (h : Then (k a) P E) : Then ((R.ok a).bind k) P E := h
theorem st_end {a : δ} (h : P a) : Then (R.ok a) P E := h
theorem st_call {t : R α} {k : α → R δ} {Q : α → Prop} (h : Then t Q (fun _ => False)) (hk : ∀ a, Q a → Then (k a) P E) : Then (t.nx.bind k) P E := then_bindI (then_nx h) hk
theorem st_callE {t : R α} {k : α → R δ} {a : α} (h : t = .ok a) (hk : Then (k a) P E) : Then (t.nx.bind k) P E := by rw [h]; exact hk
theorem st_bind {t : R α} {k : α → R δ} {Q : α → Prop} (h : Then t Q E) (hk : ∀ a, Q a → Then (k a) P E) : Then (t.bind k) P E := then_bindI h hk
theorem st_op {b : Bool} {x : β} {k : β → R δ} (hb : b = true) (h : Then (k x) P E) : Then ((tOp b x).bind k) P E := by subst hb; exact h
theorem st_opN {b : Bool} {x : β} {k : β → R δ} (hb : b = true) (h : Then (k x) P E) : Then ((tOp b x).nx.bind k) P E := by subst hb; exact h
theorem st_mul {a b : Int} {k : Int → R δ} (hb : mulOk a b = true) (h : Then (k (a * b)) P E) : Then ((tMul a b).bind k) P E := st_op hb h
theorem st_mod {a b : Int} {k : Int → R δ} (hb : b ≠ 0) (h : Then (k (a.fmod b)) P E) : Then ((tMod a b).bind k) P E := st_op (decide_eq_true hb) h
theorem st_fdiv {a b : Int} {k : Int → R δ} (hb : divOk a b = true) (h : Then (k (a.fdiv b)) P E) : Then ((tFdiv a b).bind k) P E := st_op hb h
theorem st_add {q r : Rat} {k : Rat → R δ} (hb : hq q + hq r ≤ 9000) (h : ∀ z, z = q + r → hq z ≤ hq q + hq r + 1 → Then (k z) P E) : Then ((rAdd q r).nx.bind k) P E := st_opN (decide_eq_true (ok2_of hb)) (h _ rfl (hq_add q r))
theorem st_sub {q r : Rat} {k : Rat → R δ} (hb : hq q + hq r ≤ 9000) (h : ∀ z, z = q - r → hq z ≤ hq q + hq r + 1 → Then (k z) P E) : Then ((rSub q r).nx.bind k) P E := st_opN (decide_eq_true (ok2_of hb)) (h _ rfl (hq_sub q r))
theorem hq_zero : hq 0 = 1 := by decide +kernel
theorem hq_one : hq 1 = 1 := by decide +kernel
theorem hq_lone : hq (-1) = 1 := by decide +kernel
theorem st_neg {r : Rat} {k : Rat → R δ} (hb : hq r ≤ 8000) (h : ∀ z, z = -r → hq z = hq r → Then (k z) P E) : Then ((rSub 0 r).nx.bind k) P E := st_opN (decide_eq_true (ok2_of (by rw [hq_zero]; omega))) (by
  have : (0 : Rat) - r = -r := by grind
  rw [this]
  exact h _ rfl (hq_neg r))
theorem st_times {q r : Rat} {k : Rat → R δ} (hb : hq q + hq r ≤ 9000) (h : ∀ z, z = q * r → hq z ≤ hq q + hq r → Then (k z) P E) : Then ((rMul q r).nx.bind k) P E := st_opN (decide_eq_true (ok2_of hb)) (h _ rfl (hq_mul q r))
theorem st_over {q r : Rat} {k : Rat → R δ} (hb : hq q + hq r ≤ 9000) (hr : r ≠ 0) (h : ∀ z, z = q / r → hq z ≤ hq q + hq r → Then (k z) P E) : Then ((rDiv q r).nx.bind k) P E := st_opN (decide_eq_true ⟨okD_of hb, hr⟩) (h _ rfl (hq_div q r))
theorem st_lt {q r : Rat} {k : Bool → R δ} (hb : hq q + hq r ≤ 400000) (h : Then (k (decide (q < r))) P E) : Then ((rLt q r).nx.bind k) P E := st_opN (decide_eq_true hb) h
/-! with the bottoms' sizes -/
theorem st_addW {q r : Rat} {k : Rat → R δ} (hd : dq q + dq r ≤ 9000) (hb : hq q + hq r ≤ 400000) (h : ∀ z, z = q + r → hq z ≤ hq q + hq r + 1 → dq z ≤ dq q + dq r → Then (k z) P E) : Then ((rAdd q r).nx.bind k) P E := st_opN (decide_eq_true ⟨hd, hb⟩) (h _ rfl (hq_add q r) (dq_add q r))
theorem st_subW {q r : Rat} {k : Rat → R δ} (hd : dq q + dq r ≤ 9000) (hb : hq q + hq r ≤ 400000) (h : ∀ z, z = q - r → hq z ≤ hq q + hq r + 1 → dq z ≤ dq q + dq r → Then (k z) P E) : Then ((rSub q r).nx.bind k) P E := st_opN (decide_eq_true ⟨hd, hb⟩) (h _ rfl (hq_sub q r) (dq_sub q r))
theorem dq_zero : dq 0 = 1 := by decide +kernel
theorem st_negW {r : Rat} {k : Rat → R δ} (hd : dq r ≤ 8999) (hb : hq r ≤ 399999) (h : ∀ z, z = -r → hq z = hq r → dq z = dq r → Then (k z) P E) : Then ((rSub 0 r).nx.bind k) P E := st_opN (decide_eq_true ⟨by rw [dq_zero]; omega, by rw [hq_zero]; omega⟩) (by
  have : (0 : Rat) - r = -r := by grind
  rw [this]
  exact h _ rfl (hq_neg r) (dq_neg r))
theorem st_timesW {q r : Rat} {k : Rat → R δ} (hd : dq q + dq r ≤ 9000) (hb : hq q + hq r ≤ 400000) (h : ∀ z, z = q * r → hq z ≤ hq q + hq r → dq z ≤ dq q + dq r → Then (k z) P E) : Then ((rMul q r).nx.bind k) P E := st_opN (decide_eq_true ⟨hd, hb⟩) (h _ rfl (hq_mul q r) (dq_mul q r))
theorem st_overW {q r : Rat} {k : Rat → R δ} (hd : dq q + ib r.num ≤ 9000) (hb : hq q + hq r ≤ 400000) (hr : r ≠ 0) (h : ∀ z, z = q / r → hq z ≤ hq q + hq r → dq z ≤ dq q + ib r.num → Then (k z) P E) : Then ((rDiv q r).nx.bind k) P E := st_opN (decide_eq_true ⟨⟨hd, hb⟩, hr⟩) (h _ rfl (hq_div q r) (dq_div q r))
theorem st_mk {t b : Int} {k : Rat → R δ} (m : Nat) (h0 : b ≠ 0) (h1 : ib b ≤ m) (h2 : ib t ≤ m) (m1 : 1 ≤ m) (m2 : m ≤ 9000) (h : ∀ z, z = Rat.divInt t b → hq z ≤ m → Then (k z) P E) : Then ((rMk t b).nx.bind k) P E := st_opN (decide_eq_true ⟨h0, by omega⟩) (h _ rfl (hq_divInt h2 h1 m1))
theorem hq_int {n : Int} {m : Nat} (h : ib n ≤ m) (h1 : 1 ≤ m) : hq (n : Rat) ≤ m := hq_le.mpr ⟨h, Nat.le_trans (show bl 1 ≤ 1 by decide) h1⟩
theorem st_idx {xs : List β} {i : Int} {k : β → R δ} (n : Nat) (hi : i = n) (h : n < xs.length) (hk : Then (k xs[n]) P E) : Then ((tIdx xs i).bind k) P E := by
  unfold tIdx tGet
  subst hi
  rw [e_atIn, List.getElem?_eq_getElem h]
  exact hk
/-- an item, whatever it is -/
theorem st_idxM {xs : List β} {i : Int} {k : β → R δ} (h0 : 0 ≤ i) (h1 : i < xs.length) (hk : ∀ x ∈ xs, Then (k x) P E) : Then ((tIdx xs i).bind k) P E :=
  st_idx i.toNat (by omega) (by omega) (hk _ (List.getElem_mem _))
theorem st_get {o : Option β} {a : β} {k : β → R δ} (h : o = some a) (hk : Then (k a) P E) : Then ((tGet o).bind k) P E := by subst h; exact hk
theorem st_app {xs : List β} {x : β} {k : List β → R δ} (h : xs.length < 16777216) (hk : Then (k (xs ++ [x])) P E) : Then ((tApp xs x).bind k) P E := st_op (decide_eq_true h) hk
theorem st_ext {xs ys : List β} {k : List β → R δ} (h : xs.length + ys.length ≤ 16777216) (hk : Then (k (xs ++ ys)) P E) : Then ((tExt xs ys).bind k) P E := st_op (decide_eq_true h) hk
theorem st_cat {xs ys : List β} {k : List β → R δ} (h : xs.length + ys.length ≤ 16777216) (hk : Then (k (xs ++ ys)) P E) : Then ((tCat xs ys).bind k) P E := st_op (decide_eq_true h) hk
theorem st_ins0 {xs : List β} {x : β} {k : List β → R δ} (h : xs.length < 16777216) (hk : Then (k (x :: xs)) P E) : Then ((tIns xs 0 x).bind k) P E := by
  unfold tIns
  exact st_op (decide_eq_true ⟨h, by omega, by omega⟩) hk
theorem st_set {xs : List β} {i : Int} {x : β} {k : List β → R δ} (n : Nat) (hi : i = n) (h : n < xs.length) (hk : Then (k (xs.set n x)) P E) : Then ((tSet xs i x).bind k) P E := by
  unfold tSet
  subst hi
  rw [e_ixN h]
  exact hk
theorem st_range {lo hi : Int} {k : List Int → R δ} (h1 : -(2 ^ 60) ≤ lo) (h2 : lo ≤ 2 ^ 60) (h3 : -(2 ^ 60) ≤ hi) (h4 : hi ≤ 2 ^ 60) (h : Then (k (rgI lo hi)) P E) : Then ((tRange lo hi).bind k) P E := by
  unfold tRange
  have e1 : small62 lo = true := decide_eq_true (by omega)
  have e2 : small62 hi = true := decide_eq_true (by omega)
  rw [e1, e2]
  exact h
theorem st_down {i j : Int} {k : List Int → R δ} (h1 : -(2 ^ 60) ≤ i) (h2 : i ≤ 2 ^ 60) (h3 : -(2 ^ 60) ≤ j) (h4 : j ≤ 2 ^ 60) (h : Then (k (dnI i j)) P E) : Then ((tDown i j).bind k) P E := by
  unfold tDown
  exact st_op (by
    have e1 : small62 i = true := decide_eq_true (by omega)
    have e2 : small62 j = true := decide_eq_true (by omega)
    rw [e1, e2]; rfl) h
theorem mem_rgI {lo hi x : Int} : x ∈ rgI lo hi ↔ lo ≤ x ∧ x < hi := by
  unfold rgI
  rw [List.mem_map]
  constructor
  · rintro ⟨n, h, rfl⟩
    have := List.mem_range.mp h
    omega
  · intro h
    exact ⟨(x - lo).toNat, List.mem_range.mpr (by omega), by omega⟩
@[simp] theorem len_rgI {lo hi : Int} : (rgI lo hi).length = (hi - lo).toNat := by simp [rgI]
theorem get_rgI {lo hi : Int} {i : Nat} {x : Int} (h : (rgI lo hi)[i]? = some x) : x = lo + i ∧ i < (hi - lo).toNat := by
  unfold rgI at h
  rw [List.getElem?_map] at h
  obtain ⟨z, e1, e2⟩ := Option.map_eq_some_iff.mp h
  obtain ⟨h1, h2⟩ := List.getElem?_eq_some_iff.mp e1
  simp at h1 h2
  omega
theorem mem_dnI {i j x : Int} : x ∈ dnI i j ↔ j < x ∧ x ≤ i := by
  unfold dnI
  rw [List.mem_map]
  constructor
  · rintro ⟨n, h, rfl⟩
    have := List.mem_range.mp h
    omega
  · intro h
    exact ⟨(i - x).toNat, List.mem_range.mpr (by omega), by omega⟩
@[simp] theorem len_dnI {i j : Int} : (dnI i j).length = (i - j).toNat := by simp [dnI]
@[simp] theorem tLen_eq {xs : List β} : tLen xs = (xs.length : Int) := (rfl)
@[simp] theorem len_enumL {xs : List β} : (enumL xs).length = xs.length := by simp [enumL]
theorem get_enumL {xs : List β} {i : Nat} {z : Int × β} (h : (enumL xs)[i]? = some z) : z.1 = i ∧ xs[i]? = some z.2 := by
  unfold enumL at h
  rw [List.getElem?_map] at h
  obtain ⟨y, e1, e2⟩ := Option.map_eq_some_iff.mp h
  subst e2
  rw [List.getElem?_zipIdx] at e1
  obtain ⟨u, e3, e4⟩ := Option.map_eq_some_iff.mp e1
  subst e4
  exact ⟨by simp, e3⟩
theorem mem_enumL {xs : List β} {z : Int × β} (h : z ∈ enumL xs) : ∃ i : Nat, z.1 = i ∧ ∃ hi : i < xs.length, xs[i] = z.2 := by
  obtain ⟨i, h1, h2⟩ := List.getElem_of_mem h
  have e := get_enumL (xs := xs) (i := i) (z := z) (by rw [List.getElem?_eq_getElem h1, h2])
  obtain ⟨e1, e2⟩ := e
  obtain ⟨h3, h4⟩ := List.getElem?_eq_some_iff.mp e2
  exact ⟨i, e1, h3, h4⟩
/-! loops -/
inductive All2 (Q : α → β → Prop) : List α → List β → Prop
  | nil : All2 Q [] []
  | cons {x : α} {y : β} {xs : List α} {ys : List β} : Q x y → All2 Q xs ys → All2 Q (x :: xs) (y :: ys)
theorem All2.len {Q : α → β → Prop} : ∀ {xs : List α} {ys : List β}, All2 Q xs ys → ys.length = xs.length
  | _, _, .nil => rfl
  | _, _, .cons _ r => by simp [r.len]
theorem All2.all {Q : α → β → Prop} {S : β → Prop} : ∀ {xs : List α} {ys : List β}, All2 Q xs ys → (∀ x ∈ xs, ∀ y, Q x y → S y) → ∀ y ∈ ys, S y
  | _, _, .nil, _, y, h => by simp at h
  | _, _, .cons q r, k, y, h => by
    rcases List.mem_cons.mp h with e | e
    · subst e; exact k _ List.mem_cons_self _ q
    · exact r.all (fun x hx => k x (List.mem_cons_of_mem _ hx)) y e
theorem All2.get {Q : α → β → Prop} : ∀ {xs : List α} {ys : List β}, All2 Q xs ys → ∀ {i : Nat} (h1 : i < xs.length) (h2 : i < ys.length), Q xs[i] ys[i]
  | _, _, .cons q r, 0, _, _ => q
  | _, _, .cons q r, i + 1, h1, h2 => r.get (by simpa using h1) (by simpa using h2)
theorem then_map {f : α → R β} {Q : α → β → Prop} : ∀ {xs : List α}, (∀ x ∈ xs, Then (f x) (Q x) E) → Then (tMap f xs) (All2 Q xs) E
  | [], _ => .nil
  | x :: xs, h => by
    unfold tMap
    refine then_bindI (h x List.mem_cons_self) fun y hy => ?_
    refine then_bindI (then_map fun z hz => h z (List.mem_cons_of_mem _ hz)) fun ys hys => ?_
    exact .cons hy hys
theorem st_map {f : α → R β} {xs : List α} {k : List β → R δ} (Q : α → β → Prop) (hl : xs.length ≤ 16777216) (h : ∀ x ∈ xs, Then (f x) (Q x) E) (hk : ∀ ys, All2 Q xs ys → Then (k ys) P E) : Then ((tMapG f xs).bind k) P E := by
  unfold tMapG
  have e : lenOk xs = true := decide_eq_true hl
  rw [e, guard_t]
  exact then_bindI (then_map h) hk
theorem map_ok {f : α → R β} {g : α → β} : ∀ {xs : List α}, (∀ x ∈ xs, f x = .ok (g x)) → tMap f xs = .ok (xs.map g)
  | [], _ => rfl
  | x :: xs, h => by
    unfold tMap
    rw [h x List.mem_cons_self, map_ok fun z hz => h z (List.mem_cons_of_mem _ hz)]
    rfl
theorem st_mapF {f : α → R β} {xs : List α} {k : List β → R δ} (g : α → β) (hl : xs.length ≤ 16777216) (h : ∀ x ∈ xs, f x = .ok (g x)) (hk : Then (k (xs.map g)) P E) : Then ((tMapG f xs).bind k) P E := by
  unfold tMapG
  have e : lenOk xs = true := decide_eq_true hl
  rw [e, guard_t, map_ok h]
  exact hk
theorem fm_ok {f : α → R (Option α)} {p : α → Bool} : ∀ {xs : List α}, (∀ x ∈ xs, f x = .ok (if p x = true then some x else none)) → tFm f xs = .ok (xs.filter p)
  | [], _ => rfl
  | x :: xs, h => by
    unfold tFm
    rw [h x List.mem_cons_self, fm_ok fun z hz => h z (List.mem_cons_of_mem _ hz)]
    cases e : p x <;> simp [e]
theorem st_fmF {f : α → R (Option α)} {xs : List α} {k : List α → R δ} (p : α → Bool) (hl : xs.length ≤ 16777216) (h : ∀ x ∈ xs, f x = .ok (if p x = true then some x else none)) (hk : Then (k (xs.filter p)) P E) : Then ((tFmG f xs).bind k) P E := by
  unfold tFmG
  have e : lenOk xs = true := decide_eq_true hl
  rw [e, guard_t, fm_ok h]
  exact hk
theorem then_fold {f : σ → α → R σ} (I : Nat → σ → Prop) {xs : List α} : ∀ {i : Nat} {s : σ}, I i s → (∀ j x s, xs[j]? = some x → I (i + j) s → Then (f s x) (I (i + j + 1)) E) → Then (tFold f xs s) (I (i + xs.length)) E := by
  induction xs with
  | nil => intro i s h _; exact h
  | cons x xs ih =>
    intro i s h hs
    unfold tFold
    refine then_bindI (hs 0 x s rfl h) fun s' h' => ?_
    have := ih (i := i + 1) (s := s') h' fun j y t hy ht => by
      have e := hs (j + 1) y t (by simpa using hy) (by rwa [show i + (j + 1) = i + 1 + j by omega])
      rwa [show i + (j + 1) + 1 = i + 1 + j + 1 by omega] at e
    rwa [show i + 1 + xs.length = i + (x :: xs).length by simp; omega] at this
theorem st_fold {f : σ → α → R σ} {xs : List α} {s0 : σ} {k : σ → R δ} (I : Nat → σ → Prop) (h0 : I 0 s0) (h : ∀ j x s, xs[j]? = some x → I j s → Then (f s x) (I (j + 1)) E) (hk : ∀ s, I xs.length s → Then (k s) P E) : Then ((tFold f xs s0).bind k) P E := by
  refine then_bindI (then_fold I h0 fun j x s hx hs => ?_) fun s hs => hk s (by rwa [Nat.zero_add] at hs)
  rw [Nat.zero_add] at hs ⊢
  exact h j x s hx hs
theorem fold_ok {f : σ → α → R σ} {g : σ → α → σ} {I : σ → Prop} : ∀ {xs : List α} {s : σ}, I s → (∀ s x, x ∈ xs → I s → f s x = .ok (g s x) ∧ I (g s x)) → tFold f xs s = .ok (xs.foldl g s) ∧ I (xs.foldl g s)
  | [], s, h, _ => ⟨rfl, h⟩
  | x :: xs, s, h, hs => by
    obtain ⟨e, h'⟩ := hs s x List.mem_cons_self h
    obtain ⟨e2, h2⟩ := fold_ok h' fun t y hy ht => hs t y (List.mem_cons_of_mem _ hy) ht
    exact ⟨by unfold tFold; rw [e]; exact e2, h2⟩
theorem then_loop {f : σ → α → R (Fl σ γ)} (I : Nat → σ → Prop) (D : σ → Prop) (Rt : γ → Prop) {xs : List α} : ∀ {i : Nat} {s : σ}, I i s → (∀ s, I (i + xs.length) s → D s) → (∀ j x s, xs[j]? = some x → I (i + j) s → Then (f s x) (fun r => match r with | .nx s => I (i + j + 1) s | .bk s => D s | .rt r => Rt r) E) → Then (tLoop f xs s) (fun r => match r with | .nx s => D s | .rt r => Rt r | .bk _ => False) E := by
  induction xs with
  | nil => intro i s h hd _; exact hd s h
  | cons x xs ih =>
    intro i s h hd hs
    unfold tLoop
    refine then_bindI (hs 0 x s rfl h) fun r h' => ?_
    cases r with
    | nx s' =>
      refine ih (i := i + 1) (s := s') h' (fun s hh => hd s (by rwa [show i + (x :: xs).length = i + 1 + xs.length by simp; omega])) fun j y t hy ht => ?_
      have e := hs (j + 1) y t (by simpa using hy) (by rwa [show i + (j + 1) = i + 1 + j by omega])
      rwa [show i + (j + 1) + 1 = i + 1 + j + 1 by omega] at e
    | bk s' => exact h'
    | rt r => exact h'
theorem st_loop {f : σ → α → R (Fl σ γ)} {xs : List α} {s0 : σ} {k : σ → R δ} {kr : γ → R δ} (I : Nat → σ → Prop) (D : σ → Prop) (Rt : γ → Prop) (h0 : I 0 s0) (hd : ∀ s, I xs.length s → D s) (h : ∀ j x s, xs[j]? = some x → I j s → Then (f s x) (fun r => match r with | .nx s => I (j + 1) s | .bk s => D s | .rt r => Rt r) E) (hk : ∀ s, D s → Then (k s) P E) (hr : ∀ r, Rt r → Then (kr r) P E) : Then ((tLoop f xs s0).bind fun z => z.on k kr) P E := by
  refine then_bindI (then_loop I D Rt h0 (fun s hs => hd s (by rwa [Nat.zero_add] at hs)) fun j x s hx hs => ?_) fun z hz => ?_
  · rw [Nat.zero_add] at hs ⊢
    exact h j x s hx hs
  · cases z with
    | nx s => exact hk s hz
    | rt r => exact hr r hz
    | bk _ => exact hz.elim
theorem then_lc {f : σ → α → R (Option β × σ)} (I : Nat → σ → Prop) (S : β → Prop) {xs : List α} : ∀ {i : Nat} {acc : List β} {s : σ}, I i s → (∀ y ∈ acc, S y) → (∀ j x s, xs[j]? = some x → I (i + j) s → Then (f s x) (fun r => (∃ y, r.1 = some y ∧ S y) ∧ I (i + j + 1) r.2) E) → Then (tLc f xs acc s) (fun r => r.1.length = acc.length + xs.length ∧ (∀ y ∈ r.1, S y) ∧ I (i + xs.length) r.2) E := by
  induction xs with
  | nil => intro i acc s h ha _; exact ⟨rfl, ha, h⟩
  | cons x xs ih =>
    intro i acc s h ha hs
    unfold tLc
    refine then_bindI (hs 0 x s rfl h) fun r ⟨⟨y, ey, sy⟩, h'⟩ => ?_
    rw [ey]
    have := ih (i := i + 1) (acc := acc ++ [y]) (s := r.2) h' (fun z hz => by
      rcases List.mem_append.mp hz with e | e
      · exact ha z e
      · simp at e; subst e; exact sy) fun j z t hz ht => by
      have e := hs (j + 1) z t (by simpa using hz) (by rwa [show i + (j + 1) = i + 1 + j by omega])
      rwa [show i + (j + 1) + 1 = i + 1 + j + 1 by omega] at e
    refine this.imp fun r ⟨l, a, b⟩ => ⟨by simp at l ⊢; omega, a, by rwa [show i + 1 + xs.length = i + (x :: xs).length by simp; omega] at b⟩
/-- a comprehension that changes the state and lets all by -/
theorem st_lc {f : σ → α → R (Option β × σ)} {xs : List α} {s0 : σ} {k : List β × σ → R δ} (I : Nat → σ → Prop) (S : β → Prop) (hl : xs.length ≤ 16777216) (h0 : I 0 s0) (h : ∀ j x s, xs[j]? = some x → I j s → Then (f s x) (fun r => (∃ y, r.1 = some y ∧ S y) ∧ I (j + 1) r.2) E) (hk : ∀ r, r.1.length = xs.length → (∀ y ∈ r.1, S y) → I xs.length r.2 → Then (k r) P E) : Then ((tLcG f xs s0).bind k) P E := by
  unfold tLcG
  have e : lenOk xs = true := decide_eq_true hl
  rw [e, guard_t]
  refine then_bindI (then_lc I S h0 (by simp) fun j x s hx hs => ?_) fun r ⟨l, a, b⟩ => hk r (by simpa using l) a (by rwa [Nat.zero_add] at b)
  rw [Nat.zero_add] at hs ⊢
  exact h j x s hx hs
/-- a typed answer is a mirror's -/
theorem Fn.spec {fm : List T → R (T × List T)} {ts : List T} {t0 : R β} {F : β → T} {G : β → List T} {Q : β → Prop} (h : Fn fm ts t0 F G) (k : Then t0 Q E) : Then (fm ts) (fun z => ∃ a, z = (F a, G a) ∧ Q a) E := (Rf.then h k)
theorem Fn.eq {fm : List T → R (T × List T)} {ts : List T} {t0 : R β} {F : β → T} {G : β → List T} {a : β} (h : Fn fm ts t0 F G) (k : t0 = .ok a) : fm ts = .ok (F a, G a) := by
  unfold Fn at h
  subst k
  obtain ⟨z, e, ez⟩ := h
  rw [e, ez]
/-- what is told for certain -/
theorem of_then {t : R β} {Q : β → Prop} (h : Then t Q (fun _ => False)) : ∃ a, t = .ok a ∧ Q a := by
  cases t with
  | ok a => exact ⟨a, rfl, h⟩
  | exc c => exact h.elim
  | bad => exact h.elim
end
end L4
/-! Q_ru -/
/-! what the rows of a rule come to (two sizes of numbers: of parts, of c) -/
namespace Sr
open PySem PySem.Spec PyProof.Rows L2 L3 L4
section
variable {E : Str → Prop}
abbrev Row := List Rat × List Rat × Rat
abbrev Plan := List (Rat × Rat) × List (Rat × Rat) × List Row
structure RowG (m f a c : Nat) (r : Row) : Prop where
  la : r.1.length = m
  lb : r.2.1.length = f
  sa : ∀ q ∈ r.1, hq q ≤ a
  sb : ∀ q ∈ r.2.1, hq q ≤ a
  sc : hq r.2.2 ≤ c
theorem RowG.mono {m f a c a' c' : Nat} {r : Row} (h : RowG m f a c r) (k : a ≤ a') (l : c ≤ c') : RowG m f a' c' r := ⟨h.la, h.lb, fun q hq => Nat.le_trans (h.sa q hq) k, fun q hq => Nat.le_trans (h.sb q hq) k, Nat.le_trans h.sc l⟩
theorem fold_okI {α σ : Type} {f : σ → α → R σ} {g : σ → α → σ} (I : Nat → σ → Prop) : ∀ {xs : List α} {i : Nat} {s : σ}, I i s → (∀ j s x, x ∈ xs → j < i + xs.length → I j s → f s x = .ok (g s x) ∧ I (j + 1) (g s x)) → tFold f xs s = .ok (xs.foldl g s) ∧ I (i + xs.length) (xs.foldl g s)
  | [], i, s, h, _ => ⟨rfl, h⟩
  | x :: xs, i, s, h, hs => by
    obtain ⟨e, h'⟩ := hs i s x List.mem_cons_self (by simp) h
    obtain ⟨e2, h2⟩ := fold_okI I (i := i + 1) h' fun j t y hy hj ht => hs j t y (List.mem_cons_of_mem _ hy) (by simp; omega) ht
    refine ⟨by unfold tFold; rw [e]; exact e2, ?_⟩
    rw [show i + (x :: xs).length = i + 1 + xs.length by simp; omega]
    exact h2
def plainR (r : Row) : Prop := (∀ q ∈ r.1 ++ r.2.1, q = 0) ∧ ¬ r.2.2 < 0
instance {r : Row} : Decidable (plainR r) := by unfold plainR; infer_instance
theorem isplain_ok {r : Row} {m f a c : Nat} (h : RowG m f a c r) (hm : m ≤ 1000) (hf : f ≤ 1000) (hb : c ≤ 8000) : t_is_plain r = .ok (decide (plainR r)) := by
  refine eq_of_then ?_
  unfold t_is_plain
  refine st_cat (by rw [h.la, h.lb]; omega) ?_
  refine st_loop (fun i _ => ∀ (j : Nat) (hj : j < (r.1 ++ r.2.1).length), j < i → (r.1 ++ r.2.1)[j] = 0) (fun _ => ∀ q ∈ r.1 ++ r.2.1, q = 0) (fun z => z = false ∧ ∃ q ∈ r.1 ++ r.2.1, q ≠ 0) (fun j hj h => absurd h (by omega)) (fun s hs q hq => ?_) (fun j x s hx hs => ?_) (fun s hs => ?_) (fun z hz => ?_)
  · obtain ⟨i, hi, e⟩ := List.getElem_of_mem hq
    rw [← e]
    exact hs i hi hi
  · obtain ⟨h1, h2⟩ := List.getElem?_eq_some_iff.mp hx
    by_cases e : x = 0
    · rw [if_neg (by simp [e])]
      intro i hi hj
      by_cases e2 : i = j
      · subst e2; rw [h2, e]
      · exact hs i hi (by omega)
    · rw [if_pos e]
      exact ⟨rfl, x, h2 ▸ List.getElem_mem _, e⟩
  · refine st_bind (Q := fun z => z = !decide (r.2.2 < 0)) ?_ fun z hz => ?_
    · exact st_lt (by have := h.sc; rw [hq_zero]; omega) rfl
    · show z = _
      rw [hz]
      unfold plainR
      by_cases c : r.2.2 < 0
      · simp [c]
      · rw [decide_eq_false c]
        exact (decide_eq_true ⟨hs, c⟩).symm
  · show z = _
    obtain ⟨e, q, h1, h2⟩ := hz
    rw [e]
    unfold plainR
    symm
    exact decide_eq_false fun k => h2 (k.1 q h1)
noncomputable def putR (rows : List Row) (r : Row) : List Row := if plainR r ∨ r ∈ rows then rows else rows ++ [r]
theorem puton_ok {rows : List Row} {r : Row} {m f a c : Nat} (h : RowG m f a c r) (hm : m ≤ 1000) (hf : f ≤ 1000) (hb : c ≤ 8000) (hl : rows.length < 16777216) : t_put_on rows r = .ok ((), putR rows r) := by
  refine eq_of_then ?_
  unfold t_put_on
  refine st_bind (Q := fun z => z = decide (¬ (plainR r ∨ r ∈ rows))) ?_ fun z hz => ?_
  · refine st_callE (isplain_ok h hm hf hb) ?_
    by_cases c : plainR r <;> simp [c]
  · subst hz
    unfold putR
    by_cases c : plainR r ∨ r ∈ rows
    · simp [c]
    · simp only [c, not_false_eq_true, decide_true, if_true, if_false]
      exact st_app hl rfl
theorem putR_len {rows : List Row} {r : Row} : (putR rows r).length ≤ rows.length + 1 := by
  unfold putR; split <;> simp
theorem putR_all {rows : List Row} {r : Row} {P : Row → Prop} (h : ∀ x ∈ rows, P x) (k : P r) : ∀ x ∈ putR rows r, P x := by
  unfold putR; split
  · exact h
  · intro x hx
    rcases List.mem_append.mp hx with e | e
    · exact h x e
    · simp at e; subst e; exact k
noncomputable def mixR (ones : List Rat) (many : Rat) (others : List Rat) (more : Rat) : List Rat := (ones.zip others).map fun x => x.1 * many + x.2 * more
theorem mixed_ok {xs ys : List Rat} {u v : Rat} {b : Nat} (hl : xs.length ≤ 1000) (h1 : ∀ q ∈ xs, hq q ≤ b) (h2 : ∀ q ∈ ys, hq q ≤ b) (hu : hq u ≤ b) (hv : hq v ≤ b) (hb : b ≤ 2000) : t_mixed xs u ys v = .ok (mixR xs u ys v) ∧ ∀ q ∈ mixR xs u ys v, hq q ≤ 4 * b + 1 := by
  have key : ∀ x ∈ xs.zip ys, Then ((rMul x.1 u).nx.bind fun r6 => (rMul x.2 v).nx.bind fun r7 => (rAdd r6 r7).nx.bind fun r8 => .ok r8 : R Rat) (fun z => z = x.1 * u + x.2 * v ∧ hq z ≤ 4 * b + 1) (fun _ => False) := by
    intro x hx
    obtain ⟨a, c⟩ := x
    have := h1 a (List.of_mem_zip hx).1
    have := h2 c (List.of_mem_zip hx).2
    dsimp only
    refine st_times (by omega) fun z1 e1 g1 => ?_
    refine st_times (by omega) fun z2 e2 g2 => ?_
    refine st_add (by omega) fun z3 e3 g3 => ?_
    subst e1 e2
    exact ⟨e3, by omega⟩
  constructor
  · refine eq_of_then ?_
    unfold t_mixed
    exact st_mapF (fun x => x.1 * u + x.2 * v) (by simp; omega) (fun x hx => eq_of_then ((key x hx).imp fun _ h => h.1)) rfl
  · intro q hq
    obtain ⟨x, hx, e⟩ := List.mem_map.mp hq
    have := key x hx
    obtain ⟨a, e1, e2, e3⟩ := of_then this
    rw [← e, ← e2]
    exact e3
theorem mixR_len {xs ys : List Rat} {u v : Rat} : (mixR xs u ys v).length = min xs.length ys.length := by simp [mixR]
noncomputable def partR (r : Row) (n : Nat) : Rat := r.2.1.getD n 0
noncomputable def takR (low high : Row) (n : Nat) : Row := (mixR low.1 (-partR high n) high.1 (partR low n), mixR low.2.1 (-partR high n) high.2.1 (partR low n), low.2.2 * (-partR high n) + high.2.2 * partR low n)
theorem st_part {δ : Type} {P : δ → Prop} {r : Row} {i : Int} {n : Nat} {m f a c : Nat} {k : Rat → R δ} (h : RowG m f a c r) (hi : i = n) (hn : n < f) (hk : hq (partR r n) ≤ a → Then (k (partR r n)) P E) : Then ((tIdx r.2.1 i).bind k) P E := by
  have hl : n < r.2.1.length := by rw [h.lb]; exact hn
  have e : partR r n = r.2.1[n] := by unfold partR; rw [List.getD_eq_getElem?_getD, List.getElem?_eq_getElem hl]; rfl
  refine st_idx n hi hl ?_
  rw [← e]
  exact hk (e ▸ h.sb _ (List.getElem_mem _))
theorem tak_ok {low high : Row} {k : Int} {n : Nat} {m f a c : Nat} (h1 : RowG m f a c low) (h2 : RowG m f a c high) (hk : k = n) (hn : n < f) (hm : m ≤ 1000) (hf : f ≤ 1000) (hb : a ≤ 2000) (hc : c ≤ 2000) : t_taken_together low high k = .ok (takR low high n) ∧ RowG m f (4 * a + 1) (2 * (a + c) + 1) (takR low high n) := by
  have : Then (t_taken_together low high k) (fun z => z = takR low high n ∧ RowG m f (4 * a + 1) (2 * (a + c) + 1) z) (fun _ => False) := by
    unfold t_taken_together
    refine st_part h2 hk hn fun s1 => ?_
    refine st_neg (by omega) fun z2 e2 g2 => ?_
    refine st_part h1 hk hn fun s3 => ?_
    have := h1.sc
    have := h2.sc
    refine st_times (by omega) fun z4 e4 g4 => ?_
    refine st_times (by omega) fun z5 e5 g5 => ?_
    refine st_add (by omega) fun z6 e6 g6 => ?_
    obtain ⟨m1, b1⟩ := mixed_ok (xs := low.1) (ys := high.1) (u := z2) (v := partR low n) (b := a) (by rw [h1.la]; exact hm) h1.sa h2.sa (by omega) s3 hb
    obtain ⟨m2, b2⟩ := mixed_ok (xs := low.2.1) (ys := high.2.1) (u := z2) (v := partR low n) (b := a) (by rw [h1.lb]; exact hf) h1.sb h2.sb (by omega) s3 hb
    refine st_callE m1 ?_
    refine st_callE m2 ?_
    refine ⟨by subst e2 e4 e5 e6; rfl, ⟨?_, ?_, b1, b2, by show hq z6 ≤ _; omega⟩⟩
    · show (mixR _ _ _ _).length = m
      rw [mixR_len, h1.la, h2.la]; simp
    · show (mixR _ _ _ _).length = f
      rw [mixR_len, h1.lb, h2.lb]; simp
  obtain ⟨a, e1, e2, e3⟩ := of_then this
  subst e2
  exact ⟨e1, e3⟩
noncomputable def leftR (lows highs zeros : List Row) (n : Nat) : List Row := lows.foldl (fun s l => highs.foldl (fun s h => putR s (takR l h n)) s) zeros
noncomputable def outR (rows : List Row) (n : Nat) : List Row × List Row × List Row :=
  (rows.filter fun r => decide (0 < partR r n), rows.filter fun r => decide (partR r n < 0), leftR (rows.filter fun r => decide (0 < partR r n)) (rows.filter fun r => decide (partR r n < 0)) (rows.filter fun r => decide (partR r n = 0)) n)
theorem rat_tri (q : Rat) : q < 0 ∨ q = 0 ∨ 0 < q := by grind
theorem three_len {n : Nat} : ∀ {rows : List Row}, (rows.filter fun r => decide (0 < partR r n)).length + (rows.filter fun r => decide (partR r n < 0)).length + (rows.filter fun r => decide (partR r n = 0)).length = rows.length
  | [] => rfl
  | r :: rows => by
    have ih := three_len (n := n) (rows := rows)
    rcases rat_tri (partR r n) with h | h | h
    · have h1 : ¬ 0 < partR r n := by grind
      have h2 : ¬ partR r n = 0 := by grind
      simp [h, h1, h2]; omega
    · simp [h, Rat.lt_irrefl]; omega
    · have h1 : ¬ partR r n < 0 := by grind
      have h2 : ¬ partR r n = 0 := by grind
      simp [h, h1, h2]; omega
def nL (n : Nat) : Nat := n + n * n / 4
theorem nL_le {a b c n : Nat} (h : a + b + c = n) : c + a * b ≤ nL n := by
  unfold nL
  have h1 : 4 * (a * b) ≤ n * n := by
    have h2 : (a + b) * (a + b) ≤ n * n := Nat.mul_le_mul (by omega) (by omega)
    have h3 : 4 * (a * b) ≤ (a + b) * (a + b) := by
      rcases Nat.le_total a b with h | h
      · obtain ⟨d, rfl⟩ := Nat.exists_eq_add_of_le h
        have : (a + (a + d)) * (a + (a + d)) = 4 * (a * (a + d)) + d * d := by grind
        omega
      · obtain ⟨d, rfl⟩ := Nat.exists_eq_add_of_le h
        have : (b + d + b) * (b + d + b) = 4 * ((b + d) * b) + d * d := by grind
        omega
    omega
  omega
theorem nL_mono {a b : Nat} (h : a ≤ b) : nL a ≤ nL b := by
  unfold nL
  have := Nat.mul_le_mul h h
  omega
theorem out_ok {rows : List Row} {k : Int} {n : Nat} {m f a c : Nat} (h : ∀ r ∈ rows, RowG m f a c r) (hk : k = n) (hn : n < f) (hm : m ≤ 1000) (hf : f ≤ 1000) (ha : a ≤ 1900) (hc : c ≤ 2000) (hl : rows.length ≤ 3000) :
    t_taken_out rows k = .ok (outR rows n) ∧ (∀ r ∈ (outR rows n).2.2, RowG m f (4 * a + 1) (2 * (a + c) + 1) r) ∧ (outR rows n).2.2.length ≤ nL rows.length := by
  have tl := three_len (rows := rows) (n := n)
  have key : Then (t_taken_out rows k) (fun z => z = outR rows n ∧ (∀ r ∈ z.2.2, RowG m f (4 * a + 1) (2 * (a + c) + 1) r) ∧ z.2.2.length ≤ nL rows.length) (fun _ => False) := by
    unfold t_taken_out
    refine st_fmF (fun r => decide (0 < partR r n)) (by omega) (fun r hr => eq_of_then (st_part (h r hr) hk hn fun s => st_lt (by rw [hq_zero]; omega) ?_)) ?_
    · by_cases c : 0 < partR r n <;> simp [c]
    refine st_fmF (fun r => decide (partR r n < 0)) (by omega) (fun r hr => eq_of_then (st_part (h r hr) hk hn fun s => st_lt (by rw [hq_zero]; omega) ?_)) ?_
    · by_cases c : partR r n < 0 <;> simp [c]
    refine st_fmF (fun r => decide (partR r n = 0)) (by omega) (fun r hr => eq_of_then (st_part (h r hr) hk hn fun s => ?_)) ?_
    · by_cases c : partR r n = 0 <;> simp [c]
    have sl : ∀ r ∈ rows.filter (fun r => decide (0 < partR r n)), RowG m f a c r := fun r hr => h r (List.mem_filter.mp hr).1
    have sh : ∀ r ∈ rows.filter (fun r => decide (partR r n < 0)), RowG m f a c r := fun r hr => h r (List.mem_filter.mp hr).1
    have sz : ∀ r ∈ rows.filter (fun r => decide (partR r n = 0)), RowG m f (4 * a + 1) (2 * (a + c) + 1) r := fun r hr => (h r (List.mem_filter.mp hr).1).mono (by omega) (by omega)
    unfold outR
    generalize rows.filter (fun r => decide (0 < partR r n)) = lows at *
    generalize rows.filter (fun r => decide (partR r n < 0)) = highs at *
    generalize rows.filter (fun r => decide (partR r n = 0)) = zeros at *
    have nl := nL_le (a := lows.length) (b := highs.length) (c := zeros.length) tl
    have nl2 : nL rows.length ≤ 2300000 := Nat.le_trans (nL_mono hl) (by decide)
    refine And.elim ?_ (fold_okI (f := fun (s14 : List Row) x15 => ((tFold (fun (s16 : List Row) x17 => ((t_taken_together x15 x17 k).nx.bind fun r18 => (t_put_on s16 r18).nx.bind fun r19 => .ok (r19.2) : R (List Row))) highs (s14)).bind fun s20 => .ok (s20) : R (List Row)))
      (g := fun s l => highs.foldl (fun s h => putR s (takR l h n)) s) (xs := lows) (i := 0) (s := zeros)
      (fun i s => (∀ r ∈ s, RowG m f (4 * a + 1) (2 * (a + c) + 1) r) ∧ s.length ≤ zeros.length + i * highs.length) ⟨sz, by omega⟩
      (fun j s l hl1 hj hsl => ?_))
    · intro e1 ⟨h1, h2⟩
      rw [e1]
      refine ⟨rfl, h1, Nat.le_trans h2 ?_⟩
      rw [Nat.zero_add]
      exact nl
    · obtain ⟨hs, ls⟩ := hsl
      have hlo := sl l hl1
      have hj2 : (j + 1) * highs.length ≤ lows.length * highs.length := Nat.mul_le_mul_right _ (by rw [Nat.zero_add] at hj; exact hj)
      have hj3 : (j + 1) * highs.length = j * highs.length + highs.length := Nat.succ_mul ..
      obtain ⟨e2, h3, h4⟩ := fold_okI (f := fun (s16 : List Row) x17 => ((t_taken_together l x17 k).nx.bind fun r18 => (t_put_on s16 r18).nx.bind fun r19 => .ok (r19.2) : R (List Row)))
        (g := fun s h => putR s (takR l h n)) (xs := highs) (i := 0) (s := s) (fun i s' => (∀ r ∈ s', RowG m f (4 * a + 1) (2 * (a + c) + 1) r) ∧ s'.length ≤ s.length + i) ⟨hs, by omega⟩ (fun i t x hx hi ⟨ht, lt⟩ => by
          have hi2 : i < highs.length := by rw [Nat.zero_add] at hi; exact hi
          obtain ⟨e4, r4⟩ := tak_ok hlo (sh x hx) hk hn hm hf (by omega) (by omega)
          have e5 := puton_ok (rows := t) r4 hm hf (by omega) (by omega)
          refine ⟨?_, putR_all ht r4, ?_⟩
          · rw [e4]; show (t_put_on t _).nx.bind _ = _; rw [e5]; rfl
          · have := putR_len (rows := t) (r := takR l x n)
            omega)
      refine ⟨?_, h3, ?_⟩
      · rw [e2]; rfl
      · refine Nat.le_trans h4 ?_
        rw [Nat.zero_add]
        omega
  obtain ⟨a, e1, e2, e3, e4⟩ := of_then key
  subst e2
  exact ⟨e1, e3, e4⟩
/-- a plan: so many sizes, shims and demands, each small -/
structure PlanG (m f a b c : Nat) (p : Plan) : Prop where
  la : p.1.length = m
  lb : p.2.1.length = f
  sa : ∀ x ∈ p.1, hq x.1 ≤ b ∧ hq x.2 ≤ b
  sb : ∀ x ∈ p.2.1, hq x.1 ≤ b ∧ hq x.2 ≤ b
  oa : ∀ x ∈ p.1, x.1 ≤ x.2
  ob : ∀ x ∈ p.2.1, x.1 ≤ x.2
  sd : ∀ r ∈ p.2.2, RowG m f a c r
noncomputable def bndR (p : Plan) (n : Nat) (s c : Rat) : Row := (p.1.map fun _ => 0, (p.2.1.map fun _ => 0).set n s, c)
theorem bound_ok {p : Plan} {k : Int} {n m f a b c b' : Nat} {s d : Rat} (h : PlanG m f a b c p) (hk : k = n) (hn : n < f) (hm : m ≤ 1000) (hf : f ≤ 1000) (hs : hq s ≤ a) (hc : hq d ≤ b') (hb : 1 ≤ a) : t_bound_row p k s d = .ok (bndR p n s d) ∧ RowG m f a b' (bndR p n s d) := by
  constructor
  · refine eq_of_then ?_
    unfold t_bound_row
    refine st_mapF (fun _ => 0) (by rw [h.lb]; omega) (fun _ _ => rfl) ?_
    refine st_set n hk (by simp [h.lb, hn]) ?_
    exact st_mapF (fun _ => 0) (by rw [h.la]; omega) (fun _ _ => rfl) rfl
  · refine ⟨by simp [bndR, h.la], by simp [bndR, h.lb], fun q hq' => ?_, fun q hq' => ?_, hc⟩
    · obtain ⟨_, _, e⟩ := List.mem_map.mp hq'
      subst e; rw [hq_zero]; exact hb
    · rcases List.mem_or_eq_of_mem_set hq' with e | e
      · obtain ⟨_, _, e⟩ := List.mem_map.mp e
        subst e; rw [hq_zero]; exact hb
      · subst e; exact hs
noncomputable def firstR (p : Plan) : List Row := (enumL p.2.1).foldl (fun s x => putR (putR s (bndR p x.1.toNat 1 (-x.2.1))) (bndR p x.1.toNat (-1) x.2.2)) (p.2.2.foldl putR [])
theorem first_ok {p : Plan} {m f a b c : Nat} (h : PlanG m f a b c p) (hm : m ≤ 1000) (hf : f ≤ 1000) (hb : 1 ≤ a) (hbc : b ≤ c) (hc : c ≤ 7000) (hl : p.2.2.length ≤ 10000) : t_first_rows p = .ok (firstR p) ∧ (∀ r ∈ firstR p, RowG m f a c r) ∧ (firstR p).length ≤ p.2.2.length + 2 * f := by
  refine And.elim ?_ (fold_okI (f := fun (s2 : List Row) (x3 : Row) => ((t_put_on s2 (x3.1, x3.2.1, x3.2.2)).nx.bind fun r4 => .ok (r4.2) : R (List Row))) (g := putR) (xs := p.2.2) (i := 0) (s := []) (fun i s => (∀ r ∈ s, RowG m f a c r) ∧ s.length ≤ i) ⟨by simp, by simp⟩ fun j s x hx hj hs => ?_)
  · intro e1 ⟨h1, h2⟩
    rw [Nat.zero_add] at h2
    refine And.elim ?_ (fold_okI (f := fun (s6 : List Row) (x7 : Int × Rat × Rat) => ((rSub (0 : Rat) x7.2.1).nx.bind fun r8 => (t_bound_row p x7.1 (1 : Rat) r8).nx.bind fun r9 => (t_put_on s6 r9).nx.bind fun r10 => (t_bound_row p x7.1 (-1 : Rat) x7.2.2).nx.bind fun r11 => (t_put_on r10.2 r11).nx.bind fun r12 => .ok (r12.2) : R (List Row)))
      (g := fun s x => putR (putR s (bndR p x.1.toNat 1 (-x.2.1))) (bndR p x.1.toNat (-1) x.2.2)) (xs := enumL p.2.1) (i := 0) (s := p.2.2.foldl putR []) (fun i s => (∀ r ∈ s, RowG m f a c r) ∧ s.length ≤ p.2.2.length + 2 * i) ⟨h1, by omega⟩ fun j s x hx hj hs => ?_)
    · intro e2 ⟨h3, h4⟩
      rw [Nat.zero_add, len_enumL, h.lb] at h4
      refine ⟨?_, h3, h4⟩
      unfold t_first_rows
      rw [e1, bind_okS, e2]
      rfl
    · obtain ⟨hs1, hs2⟩ := hs
      rw [len_enumL, h.lb] at hj
      obtain ⟨i, ei, hi, e⟩ := mem_enumL hx
      obtain ⟨b1, b2⟩ := h.sb _ (e ▸ List.getElem_mem hi)
      rw [h.lb] at hi
      have hi' : x.1.toNat < f := by omega
      have hk : x.1 = (x.1.toNat : Int) := by omega
      have o1 := bound_ok (s := 1) (d := -x.2.1) (b' := c) h hk hi' hm hf (by rw [hq_one]; omega) (by rw [hq_neg]; omega) hb
      have o2 := bound_ok (s := -1) (d := x.2.2) (b' := c) h hk hi' hm hf (by rw [hq_lone]; omega) (by omega) hb
      have p1 := putR_len (rows := s) (r := bndR p x.1.toNat 1 (-x.2.1))
      have p2 := putR_len (rows := putR s (bndR p x.1.toNat 1 (-x.2.1))) (r := bndR p x.1.toNat (-1) x.2.2)
      have c1 := puton_ok (rows := s) o1.2 hm hf (by omega) (by omega)
      have c2 := puton_ok (rows := putR s (bndR p x.1.toNat 1 (-x.2.1))) o2.2 hm hf (by omega) (by omega)
      refine ⟨eq_of_then ?_, putR_all (putR_all hs1 o1.2) o2.2, by omega⟩
      refine st_neg (by omega) fun z ez hz => ?_
      subst ez
      refine st_callE o1.1 ?_
      refine st_callE c1 ?_
      refine st_callE o2.1 ?_
      exact st_callE c2 rfl
  · obtain ⟨hs1, hs2⟩ := hs
    have hx' := h.sd x hx
    refine ⟨?_, putR_all hs1 hx', by have := putR_len (rows := s) (r := x); omega⟩
    show (t_put_on s x).nx.bind _ = _
    rw [puton_ok hx' hm hf (by omega) (by omega)]
    rfl
/-- the rows that are left when so many shims are out, and the steps -/
noncomputable def ruleR : Nat → List Row × List (List Row × List Row) → List Row × List (List Row × List Row)
  | 0, s => s
  | n + 1, s => ruleR n ((outR s.1 n).2.2, ((outR s.1 n).1, (outR s.1 n).2.1) :: s.2)
theorem dnI_succ {n : Nat} : dnI (((n + 1 : Nat) : Int) - 1) (-1) = (n : Int) :: dnI ((n : Int) - 1) (-1) := by
  unfold dnI
  rw [show (((n + 1 : Nat) : Int) - 1 - -1).toNat = n + 1 by omega, show ((n : Int) - 1 - -1).toNat = n by omega, List.range_succ_eq_map]
  simp
  intro a _
  omega
def gA : Nat → Nat → Nat
  | 0, a => a
  | n + 1, a => gA n (4 * a + 1)
def gC : Nat → Nat → Nat → Nat
  | 0, _, c => c
  | n + 1, a, c => gC n (4 * a + 1) (2 * (a + c) + 1)
def gL : Nat → Nat → Nat
  | 0, l => l
  | n + 1, l => gL n (nL l)
theorem le_nL {n : Nat} : n ≤ nL n := by unfold nL; omega
theorem le_gA {n a : Nat} : a ≤ gA n a := by
  induction n generalizing a with
  | zero => exact Nat.le_refl _
  | succ n ih => exact Nat.le_trans (by omega) ih
theorem le_gC {n a c : Nat} : c ≤ gC n a c := by
  induction n generalizing a c with
  | zero => exact Nat.le_refl _
  | succ n ih => exact Nat.le_trans (by omega) ih
theorem le_gL {n b : Nat} : b ≤ gL n b := by
  induction n generalizing b with
  | zero => exact Nat.le_refl _
  | succ n ih => exact Nat.le_trans le_nL ih
theorem gL_mono {n : Nat} : ∀ {a b : Nat}, a ≤ b → gL n a ≤ gL n b := by
  induction n with
  | zero => exact id
  | succ n ih => intro a b h; exact ih (nL_mono h)
/-- the steps' rows, from the first shim on: how often the numbers grew -/
def StepsG (m f a c : Nat) : Nat → List (List Row × List Row) → Prop
  | _, [] => True
  | n, s :: ss => (∀ r ∈ s.1, RowG m f (gA n a) (gC n a c) r) ∧ (∀ r ∈ s.2, RowG m f (gA n a) (gC n a c) r) ∧ StepsG m f a c (n - 1) ss
theorem gA_out {n a : Nat} : gA n (4 * a + 1) = 4 * gA n a + 1 := by
  induction n generalizing a with
  | zero => rfl
  | succ n ih => exact ih
theorem gC_out {n a c : Nat} : gC n (4 * a + 1) (2 * (a + c) + 1) = 2 * (gA n a + gC n a c) + 1 := by
  induction n generalizing a c with
  | zero => rfl
  | succ n ih => exact ih
theorem rule_loop {m f : Nat} (hm : m ≤ 1000) (hf : f ≤ 1000) : ∀ (n : Nat) {rows : List Row} {steps : List (List Row × List Row)} {a c L : Nat}, n ≤ f → (∀ r ∈ rows, RowG m f a c r) → rows.length ≤ L → gA n a ≤ 7601 → gC n a c ≤ 4001 → gL n L ≤ 3000000 → L ≤ 3000 → (∀ k, k < n → gL k L ≤ 3000) → steps.length + n ≤ 2000 →
    tFold (fun (s4 : List Row × List (List Row × List Row)) x5 => ((t_taken_out s4.1 x5).nx.bind fun r6 => (tIns s4.2 (0 : Int) (r6.1, r6.2.1)).bind fun steps7 => .ok (r6.2.2, steps7) : R (List Row × List (List Row × List Row)))) (dnI ((n : Int) - 1) (-1)) (rows, steps) = .ok (ruleR n (rows, steps)) ∧ (∀ r ∈ (ruleR n (rows, steps)).1, RowG m f (gA n a) (gC n a c) r) ∧ (ruleR n (rows, steps)).1.length ≤ gL n L
  | 0, rows, steps, a, c, L, _, h, hl, _, _, _, _, _, _ => ⟨rfl, h, hl⟩
  | n + 1, rows, steps, a, c, L, hn, h, hl, h1, h1c, h2, hL, hk, h3 => by
    have lb : 4 * a + 1 ≤ 7601 := Nat.le_trans le_gA h1
    have lc : 2 * (a + c) + 1 ≤ 4001 := Nat.le_trans le_gC h1c
    obtain ⟨o1, o2, o3⟩ := out_ok (k := (n : Int)) (n := n) h rfl (by omega) hm hf (by omega) (by omega) (by omega)
    have o4 : (outR rows n).2.2.length ≤ nL L := Nat.le_trans o3 (nL_mono hl)
    obtain ⟨r1, r2, r3⟩ : tFold (fun (s4 : List Row × List (List Row × List Row)) x5 => ((t_taken_out s4.1 x5).nx.bind fun r6 => (tIns s4.2 (0 : Int) (r6.1, r6.2.1)).bind fun steps7 => .ok (r6.2.2, steps7) : R (List Row × List (List Row × List Row)))) (dnI ((n : Int) - 1) (-1)) ((outR rows n).2.2, ((outR rows n).1, (outR rows n).2.1) :: steps) = .ok (ruleR n ((outR rows n).2.2, ((outR rows n).1, (outR rows n).2.1) :: steps)) ∧ (∀ r ∈ (ruleR n ((outR rows n).2.2, ((outR rows n).1, (outR rows n).2.1) :: steps)).1, RowG m f (gA n (4 * a + 1)) (gC n (4 * a + 1) (2 * (a + c) + 1)) r) ∧ (ruleR n ((outR rows n).2.2, ((outR rows n).1, (outR rows n).2.1) :: steps)).1.length ≤ gL n (nL L) := by
      cases n with
      | zero => exact ⟨rfl, o2, o4⟩
      | succ n => exact rule_loop hm hf (n + 1) (by omega) o2 o4 h1 h1c h2 (hk 1 (by omega)) (fun k hk' => hk (k + 1) (by omega)) (by simp; omega)
    refine ⟨?_, r2, r3⟩
    rw [dnI_succ]
    unfold tFold
    rw [show ((t_taken_out rows n).nx.bind fun r6 => (tIns steps (0 : Int) (r6.1, r6.2.1)).bind fun steps7 => .ok (r6.2.2, steps7) : R (List Row × List (List Row × List Row))) = .ok ((outR rows n).2.2, ((outR rows n).1, (outR rows n).2.1) :: steps) from eq_of_then (st_callE o1 (st_ins0 (by omega) rfl))]
    exact r1
theorem steps_ok {m f : Nat} (hm : m ≤ 1000) (hf : f ≤ 1000) : ∀ (n : Nat) {rows : List Row} {steps : List (List Row × List Row)} {a c a0 c0 d L : Nat}, n ≤ f → (∀ r ∈ rows, RowG m f a c r) → rows.length ≤ L → a = gA d a0 → c = gC d a0 c0 → gA n a ≤ 7601 → gC n a c ≤ 4001 → (∀ k, k < n → gL k L ≤ 3000) → StepsG m f a0 c0 (d - 1) steps → (∀ s ∈ steps, s.1.length ≤ 3000) →
    StepsG m f a0 c0 (d + n - 1) (ruleR n (rows, steps)).2 ∧ ∀ s ∈ (ruleR n (rows, steps)).2, s.1.length ≤ 3000
  | 0, rows, steps, a, c, a0, c0, d, L, _, _, _, _, _, _, _, _, hs, hs2 => ⟨by rw [Nat.add_zero]; exact hs, hs2⟩
  | n + 1, rows, steps, a, c, a0, c0, d, L, hn, h, hl, ea, ec, h1, h1c, hk, hs, hs2 => by
    have lb : 4 * a + 1 ≤ 7601 := Nat.le_trans le_gA h1
    have lc : 2 * (a + c) + 1 ≤ 4001 := Nat.le_trans le_gC h1c
    have hL := hk 0 (by omega)
    have hL : L ≤ 3000 := hL
    obtain ⟨o1, o2, o3⟩ := out_ok (k := (n : Int)) (n := n) h rfl (by omega) hm hf (by omega) (by omega) (by omega)
    have o4 : (outR rows n).2.2.length ≤ nL L := Nat.le_trans o3 (nL_mono hl)
    have := steps_ok hm hf n (rows := (outR rows n).2.2) (steps := ((outR rows n).1, (outR rows n).2.1) :: steps) (a := 4 * a + 1) (c := 2 * (a + c) + 1) (a0 := a0) (c0 := c0) (d := d + 1) (L := nL L) (by omega) o2 o4 (by rw [ea]; exact gA_out.symm) (by rw [ea, ec]; exact gC_out.symm) h1 h1c (fun k hk' => hk (k + 1) (by omega)) ⟨fun r hr => ?_, fun r hr => ?_, ?_⟩ fun s hs' => ?_
    · rw [show d + (n + 1) - 1 = d + 1 + n - 1 by omega]
      exact this
    · rw [show d + 1 - 1 = d by omega, ← ea, ← ec]
      exact h r (List.mem_filter.mp hr).1
    · rw [show d + 1 - 1 = d by omega, ← ea, ← ec]
      exact h r (List.mem_filter.mp hr).1
    · rw [show d + 1 - 1 - 1 = d - 1 by omega]; exact hs
    · rcases List.mem_cons.mp hs' with e | e
      · subst e
        exact Nat.le_trans (List.length_filter_le ..) (by omega)
      · exact hs2 s e
theorem rule_ok {p : Plan} {m f a b c : Nat} (h : PlanG m f a b c p) (hm : m ≤ 1000) (hf : f ≤ 1000) (hb : 1 ≤ a) (hbc : b ≤ c) (hc : c ≤ 7000) (hl : p.2.2.length ≤ 1000) (h1 : gA f a ≤ 7601) (h1c : gC f a c ≤ 4001) (h2 : gL f (p.2.2.length + 2 * f) ≤ 3000000) (h3 : p.2.2.length + 2 * f ≤ 3000) (hk : ∀ k, k < f → gL k (p.2.2.length + 2 * f) ≤ 3000) :
    t_rule_of p = .ok ((ruleR f (firstR p, [])).2, (ruleR f (firstR p, [])).1) ∧ (∀ r ∈ (ruleR f (firstR p, [])).1, RowG m f (gA f a) (gC f a c) r) ∧ StepsG m f a c (f - 1) (ruleR f (firstR p, [])).2 ∧ (∀ s ∈ (ruleR f (firstR p, [])).2, s.1.length ≤ 3000) ∧ (ruleR f (firstR p, [])).1.length ≤ gL f (p.2.2.length + 2 * f) := by
  obtain ⟨e1, r1, l1⟩ := first_ok h hm hf hb hbc hc (by omega)
  obtain ⟨e2, r2, l2⟩ := rule_loop hm hf f (rows := firstR p) (steps := []) (Nat.le_refl _) r1 l1 h1 h1c h2 h3 hk (by simp; omega)
  have s := steps_ok hm hf f (rows := firstR p) (steps := []) (a0 := a) (c0 := c) (d := 0) (Nat.le_refl _) r1 l1 rfl rfl h1 h1c hk trivial (by simp)
  rw [Nat.zero_add] at s
  refine ⟨eq_of_then ?_, r2, s.1, s.2, l2⟩
  unfold t_rule_of
  refine st_callE e1 ?_
  refine st_down (by rw [tLen_eq, h.lb]; omega) (by rw [tLen_eq, h.lb]; omega) (by omega) (by omega) ?_
  rw [tLen_eq, h.lb, e2]
  rfl
noncomputable def dotR (xs ys : List Rat) : Rat := ((xs.zip ys).map fun x => x.1 * x.2).sum
theorem foldl_dot {xs : List (Rat × Rat)} : ∀ {s : Rat}, xs.foldl (fun s x => s + x.1 * x.2) s = s + (xs.map fun x => x.1 * x.2).sum := by
  induction xs with
  | nil => intro s; simp [Rat.add_zero]
  | cons x xs ih => intro s; simp only [List.foldl_cons, ih, List.map_cons, List.sum_cons]; grind
end
end Sr
/-! Q_fm -/
/-! taking shims out: what is left holds just where some worth suits; the least choice -/
namespace Sr
open L4
theorem dotR_nil {ys : List Rat} : dotR [] ys = 0 := by simp [dotR]
theorem dotR_nil2 {xs : List Rat} : dotR xs [] = 0 := by simp [dotR]
theorem dotR_cons {x y : Rat} {xs ys : List Rat} : dotR (x :: xs) (y :: ys) = x * y + dotR xs ys := by simp [dotR]
theorem dotR_app1 : ∀ {xs ys : List Rat} {v : Rat}, dotR xs (ys ++ [v]) = dotR xs ys + xs.getD ys.length 0 * v
  | [], ys, v => by simp [dotR_nil]; grind
  | x :: xs, [], v => by simp [dotR_cons, dotR_nil2]; grind
  | x :: xs, y :: ys, v => by
    have := dotR_app1 (xs := xs) (ys := ys) (v := v)
    simp only [List.cons_append, dotR_cons, List.length_cons, List.getD_cons_succ, this]
    grind
theorem dotR_mix : ∀ {xs ys zs : List Rat} {u v : Rat}, xs.length = ys.length → dotR (mixR xs u ys v) zs = dotR xs zs * u + dotR ys zs * v
  | [], [], zs, u, v, _ => by simp [mixR, dotR_nil]; grind
  | x :: xs, y :: ys, [], u, v, _ => by simp [dotR_nil2]; grind
  | x :: xs, y :: ys, z :: zs, u, v, h => by
    have := dotR_mix (xs := xs) (ys := ys) (zs := zs) (u := u) (v := v) (by simpa using h)
    have e : mixR (x :: xs) u (y :: ys) v = (x * u + y * v) :: mixR xs u ys v := by simp [mixR]
    rw [e, dotR_cons, dotR_cons, dotR_cons, this]
    grind
  | [], _ :: _, _, _, _, h => by simp at h
  | _ :: _, [], _, _, _, h => by simp at h
theorem mix_getD : ∀ {xs ys : List Rat} {u v : Rat} {n : Nat}, xs.length = ys.length → (mixR xs u ys v).getD n 0 = xs.getD n 0 * u + ys.getD n 0 * v
  | [], [], u, v, n, _ => by simp [mixR]; grind
  | x :: xs, y :: ys, u, v, 0, _ => by simp [mixR]
  | x :: xs, y :: ys, u, v, n + 1, h => by
    have := mix_getD (xs := xs) (ys := ys) (u := u) (v := v) (n := n) (by simpa using h)
    have e : mixR (x :: xs) u (y :: ys) v = (x * u + y * v) :: mixR xs u ys v := by simp [mixR]
    rw [e]; simpa using this
  | [], _ :: _, _, _, _, h => by simp at h
  | _ :: _, [], _, _, _, h => by simp at h
theorem dotR_zero : ∀ {xs ys : List Rat}, (∀ q ∈ xs, q = 0) → dotR xs ys = 0
  | [], _, _ => dotR_nil
  | _ :: _, [], _ => dotR_nil2
  | x :: xs, y :: ys, h => by
    rw [dotR_cons, dotR_zero fun q hq => h q (List.mem_cons_of_mem _ hq), h x List.mem_cons_self]
    grind
/-- what a row comes to -/
noncomputable def evR (r : Row) (made ch : List Rat) : Rat := dotR r.1 made + dotR r.2.1 ch + r.2.2
def SatR (rows : List Row) (made ch : List Rat) : Prop := ∀ r ∈ rows, 0 ≤ evR r made ch
/-- as many parts as there are sizes and shims -/
def LenR (m f : Nat) (r : Row) : Prop := r.1.length = m ∧ r.2.1.length = f
theorem RowG.len {m f a c : Nat} {r : Row} (h : RowG m f a c r) : LenR m f r := ⟨h.la, h.lb⟩
theorem ev_app {r : Row} {made c : List Rat} {v : Rat} : evR r made (c ++ [v]) = evR r made c + partR r c.length * v := by
  unfold evR partR
  rw [dotR_app1]; grind
theorem ev_tak {l h : Row} {n m f : Nat} {made c : List Rat} (hl : LenR m f l) (hh : LenR m f h) : evR (takR l h n) made c = evR l made c * (-partR h n) + evR h made c * partR l n := by
  unfold evR takR
  dsimp only
  rw [dotR_mix (hl.1.trans hh.1.symm), dotR_mix (hl.2.trans hh.2.symm)]
  grind
theorem part_tak {l h : Row} {n m f j : Nat} (hl : LenR m f l) (hh : LenR m f h) : partR (takR l h n) j = partR l j * (-partR h n) + partR h j * partR l n := by
  unfold partR takR
  dsimp only
  rw [mix_getD (hl.2.trans hh.2.symm)]
  rfl
theorem len_tak {l h : Row} {n m f : Nat} (hl : LenR m f l) (hh : LenR m f h) : LenR m f (takR l h n) := by
  unfold LenR takR
  dsimp only
  rw [mixR_len, mixR_len, hl.1, hh.1, hl.2, hh.2]
  simp
theorem ev_plain {r : Row} {made c : List Rat} (h : plainR r) : 0 ≤ evR r made c := by
  obtain ⟨h1, h2⟩ := h
  unfold evR
  rw [dotR_zero fun q hq => h1 q (List.mem_append_left _ hq), dotR_zero fun q hq => h1 q (List.mem_append_right _ hq)]
  grind
theorem sat_put {rows : List Row} {r : Row} {made c : List Rat} : SatR (putR rows r) made c ↔ SatR rows made c ∧ 0 ≤ evR r made c := by
  unfold putR
  split
  · rename_i h
    constructor
    · intro k
      refine ⟨k, ?_⟩
      rcases h with h | h
      · exact ev_plain h
      · exact k r h
    · exact fun k => k.1
  · constructor
    · exact fun k => ⟨fun x hx => k x (List.mem_append_left _ hx), k r (List.mem_append_right _ (by simp))⟩
    · rintro ⟨k1, k2⟩ x hx
      rcases List.mem_append.mp hx with e | e
      · exact k1 x e
      · simp at e; subst e; exact k2
theorem sat_puts {g : Row → Row} {made c : List Rat} : ∀ {hs rows : List Row}, SatR (hs.foldl (fun s h => putR s (g h)) rows) made c ↔ SatR rows made c ∧ ∀ h ∈ hs, 0 ≤ evR (g h) made c
  | [], rows => by simp
  | h :: hs, rows => by
    rw [List.foldl_cons, sat_puts, sat_put]
    simp [and_assoc]
theorem sat_left {lows highs zeros : List Row} {n : Nat} {made c : List Rat} : SatR (leftR lows highs zeros n) made c ↔ SatR zeros made c ∧ ∀ l ∈ lows, ∀ h ∈ highs, 0 ≤ evR (takR l h n) made c := by
  unfold leftR
  induction lows generalizing zeros with
  | nil => simp
  | cons l ls ih =>
    rw [List.foldl_cons, ih, sat_puts]
    simp [and_assoc]
/-- the greatest of some -/
noncomputable def maxO (xs : List Rat) : Option Rat := xs.foldl (fun b w => match b with | none => some w | some b => some (if b < w then w else b)) none
theorem maxO_some {xs : List Rat} : ∀ {b : Rat}, ∃ m, xs.foldl (fun b w => match b with | none => some w | some b => some (if b < w then w else b)) (some b) = some m ∧ (m = b ∨ m ∈ xs) ∧ b ≤ m ∧ ∀ x ∈ xs, x ≤ m := by
  induction xs with
  | nil => intro b; exact ⟨b, rfl, .inl rfl, Rat.le_refl, by simp⟩
  | cons x xs ih =>
    intro b
    rw [List.foldl_cons]
    dsimp only
    by_cases h : b < x
    · rw [if_pos h]
      obtain ⟨m, e, h1, h2, h3⟩ := ih (b := x)
      refine ⟨m, e, .inr ?_, by grind, ?_⟩
      · rcases h1 with h1 | h1
        · subst h1; exact List.mem_cons_self
        · exact List.mem_cons_of_mem _ h1
      · intro y hy
        rcases List.mem_cons.mp hy with e | e
        · subst e; exact h2
        · exact h3 y e
    · rw [if_neg h]
      obtain ⟨m, e, h1, h2, h3⟩ := ih (b := b)
      refine ⟨m, e, ?_, h2, ?_⟩
      · rcases h1 with h1 | h1
        · exact .inl h1
        · exact .inr (List.mem_cons_of_mem _ h1)
      · intro y hy
        rcases List.mem_cons.mp hy with e | e
        · subst e; grind
        · exact h3 y e
theorem maxO_ne {xs : List Rat} (h : xs ≠ []) : ∃ m, maxO xs = some m ∧ m ∈ xs ∧ ∀ x ∈ xs, x ≤ m := by
  cases xs with
  | nil => exact (h rfl).elim
  | cons x xs =>
    obtain ⟨m, e, h1, h2, h3⟩ := maxO_some (xs := xs) (b := x)
    refine ⟨m, e, ?_, ?_⟩
    · rcases h1 with h1 | h1
      · subst h1; exact List.mem_cons_self
      · exact List.mem_cons_of_mem _ h1
    · intro y hy
      rcases List.mem_cons.mp hy with e | e
      · subst e; exact h2
      · exact h3 y e
theorem low_iff {e p x : Rat} (hp : 0 < p) : 0 ≤ e + p * x ↔ (0 - e) / p ≤ x := by
  have h : (0 - e) / p * p = 0 - e := by grind
  constructor
  · intro h1
    refine Rat.not_lt.mp fun c => ?_
    have := Rat.mul_lt_mul_of_pos_right c hp
    grind
  · intro h1
    have := Rat.mul_le_mul_of_nonneg_right h1 (Rat.le_of_lt hp)
    grind
theorem high_of {e p q f b : Rat} (hp : 0 < p) (hb : b = (0 - e) / p) (h : 0 ≤ e * (-q) + f * p) : 0 ≤ f + q * b := by
  have h2 : p * (f + q * b) = e * (-q) + f * p := by grind
  refine Rat.not_lt.mp fun c => ?_
  have := Rat.mul_lt_mul_of_pos_left c hp
  grind
/-- what the lows of a shim tell -/
noncomputable def bndsR (made : List Rat) (lows : List Row) (n : Nat) (c : List Rat) : List Rat := lows.map fun r => (0 - evR r made c) / partR r n
/-- one shim is taken out -/
theorem out_step {rows : List Row} {n m f : Nat} {made c : List Rat} (hr : ∀ r ∈ rows, LenR m f r) (hc : c.length = n) (hne : (outR rows n).1 ≠ []) :
    (∀ x, SatR rows made (c ++ [x]) → SatR (outR rows n).2.2 made c ∧ ∀ w ∈ bndsR made (outR rows n).1 n c, w ≤ x) ∧
    (SatR (outR rows n).2.2 made c → ∀ w, w ∈ bndsR made (outR rows n).1 n c → (∀ z ∈ bndsR made (outR rows n).1 n c, z ≤ w) → SatR rows made (c ++ [w])) := by
  have ev : ∀ r x, evR r made (c ++ [x]) = evR r made c + partR r n * x := fun r x => by rw [ev_app, hc]
  unfold outR
  dsimp only
  rw [sat_left]
  constructor
  · intro x hs
    refine ⟨⟨fun r h => ?_, fun l hl h hh => ?_⟩, fun w hw => ?_⟩
    · obtain ⟨h1, h2⟩ := List.mem_filter.mp h
      have := hs r h1
      rw [ev, of_decide_eq_true h2] at this
      grind
    · obtain ⟨l1, l2⟩ := List.mem_filter.mp hl
      obtain ⟨h1, h2⟩ := List.mem_filter.mp hh
      have l2 := of_decide_eq_true l2
      have h2 := of_decide_eq_true h2
      have e1 := hs l l1
      have e2 := hs h h1
      rw [ev] at e1 e2
      rw [ev_tak (hr l l1) (hr h h1)]
      have a1 := Rat.mul_nonneg e1 (show 0 ≤ -partR h n by grind)
      have a2 := Rat.mul_nonneg e2 (Rat.le_of_lt l2)
      grind
    · obtain ⟨r, h1, e⟩ := List.mem_map.mp hw
      obtain ⟨h1, h2⟩ := List.mem_filter.mp h1
      have := hs r h1
      rw [ev] at this
      rw [← e]
      exact (low_iff (of_decide_eq_true h2)).mp this
  · rintro ⟨h0, h1⟩ w hw hm r hr1
    rw [ev]
    rcases rat_tri (partR r n) with h | h | h
    · obtain ⟨l, l1, e⟩ := List.mem_map.mp hw
      obtain ⟨l2, l3⟩ := List.mem_filter.mp l1
      have := h1 l l1 r (List.mem_filter.mpr ⟨hr1, decide_eq_true h⟩)
      rw [ev_tak (hr l l2) (hr r hr1)] at this
      exact high_of (of_decide_eq_true l3) e.symm this
    · have := h0 r (List.mem_filter.mpr ⟨hr1, decide_eq_true h⟩)
      rw [h]; grind
    · refine (low_iff h).mpr (hm _ (List.mem_map.mpr ⟨r, List.mem_filter.mpr ⟨hr1, decide_eq_true h⟩, rfl⟩))
/-- the choice to which the steps come -/
noncomputable def chooseR (made : List Rat) : List (List Row × List Row) → List Rat → List Rat
  | [], c => c
  | s :: ss, c => chooseR made ss (c ++ [(maxO (bndsR made s.1 c.length c)).getD 0])
theorem choose_app {made : List Rat} : ∀ {xs : List (List Row × List Row)} {c : List Rat} {s : List Row × List Row}, chooseR made (xs ++ [s]) c = chooseR made xs c ++ [(maxO (bndsR made s.1 (chooseR made xs c).length (chooseR made xs c))).getD 0]
  | [], c, s => rfl
  | x :: xs, c, s => choose_app (xs := xs)
theorem choose_len {made : List Rat} : ∀ {xs : List (List Row × List Row)} {c : List Rat}, (chooseR made xs c).length = c.length + xs.length
  | [], c => rfl
  | x :: xs, c => by
    unfold chooseR
    rw [choose_len]
    simp; omega
/-- of all that suit, the least at the first shim, then at the second one .. -/
structure LexMin (S : List Rat → Prop) (f : Nat) (c : List Rat) : Prop where
  len : c.length = f
  suits : S c
  least : ∀ c', c'.length = f → S c' → ∀ k, k < f → (∀ j, j < k → c'.getD j 0 = c.getD j 0) → c.getD k 0 ≤ c'.getD k 0
theorem LexMin.uniq {S S' : List Rat → Prop} {f : Nat} {c c' : List Rat} (h : LexMin S f c) (h' : LexMin S' f c') (e : ∀ d, d.length = f → (S d ↔ S' d)) : c = c' := by
  have key : ∀ n, ∀ k, k < n → k < f → c.getD k 0 = c'.getD k 0 := by
    intro n
    induction n with
    | zero => intro k hk; omega
    | succ n ih =>
      intro k hk hf
      have a := h.least c' h'.len ((e _ h'.len).mpr h'.suits) k hf fun j hj => (ih j (by omega) (by omega)).symm
      have b := h'.least c h.len ((e _ h.len).mp h.suits) k hf fun j hj => ih j (by omega) (by omega)
      grind
  refine List.ext_getElem (h.len.trans h'.len.symm) fun i h1 h2 => ?_
  have := key (i + 1) i (by omega) (by rw [← h.len]; exact h1)
  rw [List.getD_eq_getElem?_getD, List.getD_eq_getElem?_getD, List.getElem?_eq_getElem h1, List.getElem?_eq_getElem h2] at this
  exact this
theorem getD_app {xs : List Rat} {v : Rat} {k : Nat} : (xs ++ [v]).getD k 0 = if k < xs.length then xs.getD k 0 else if k = xs.length then v else 0 := by
  rw [List.getD_eq_getElem?_getD, List.getD_eq_getElem?_getD]
  by_cases h : k < xs.length
  · rw [if_pos h, List.getElem?_append_left h]
  · rw [if_neg h, List.getElem?_append_right (by omega)]
    by_cases e : k = xs.length
    · subst e; simp
    · rw [if_neg e, List.getElem?_eq_none (by simp; omega)]; rfl
theorem all_foldl {g : Row → Row} {P : Row → Prop} : ∀ {hs rows : List Row}, (∀ x ∈ rows, P x) → (∀ h ∈ hs, P (g h)) → ∀ x ∈ hs.foldl (fun s h => putR s (g h)) rows, P x
  | [], _, h, _ => h
  | h :: hs, rows, h1, h2 => all_foldl (hs := hs) (putR_all h1 (h2 h List.mem_cons_self)) fun z hz => h2 z (List.mem_cons_of_mem _ hz)
theorem all_left {lows highs : List Row} {n : Nat} {P : Row → Prop} (hp : ∀ l ∈ lows, ∀ h ∈ highs, P (takR l h n)) : ∀ {zeros : List Row}, (∀ x ∈ zeros, P x) → ∀ x ∈ leftR lows highs zeros n, P x := by
  unfold leftR
  induction lows with
  | nil => intro zeros h; exact h
  | cons l ls ih =>
    intro zeros h
    rw [List.foldl_cons]
    exact ih (fun l' hl => hp l' (List.mem_cons_of_mem _ hl)) (all_foldl h fun h' hh => hp l List.mem_cons_self h' hh)
theorem mem_puts {g : Row → Row} {x : Row} : ∀ {hs rows : List Row}, x ∈ rows → x ∈ hs.foldl (fun s h => putR s (g h)) rows
  | [], _, h => h
  | h :: hs, rows, hx => mem_puts (hs := hs) (by
    show x ∈ putR rows (g h)
    unfold putR; split; exact hx; exact List.mem_append_left _ hx)
theorem mem_left {lows highs : List Row} {n : Nat} {x : Row} : ∀ {zeros : List Row}, x ∈ zeros → x ∈ leftR lows highs zeros n := by
  unfold leftR
  induction lows with
  | nil => intro zeros h; exact h
  | cons l ls ih =>
    intro zeros h
    rw [List.foldl_cons]
    exact ih (mem_puts h)
theorem rule_choose {made : List Rat} {m f : Nat} : ∀ (n : Nat) {rows : List Row} {steps : List (List Row × List Row)}, n ≤ f → (∀ r ∈ rows, LenR m f r) → (∀ r ∈ rows, ∀ j, n ≤ j → partR r j = 0) → (∀ j, j < n → ∃ r ∈ rows, 0 < partR r j ∧ ∀ i, i ≠ j → partR r i = 0) →
    ∃ front, (ruleR n (rows, steps)).2 = front ++ steps ∧ front.length = n ∧ (∀ s ∈ front, s.1 ≠ []) ∧ (∀ c, c.length = n → SatR rows made c → SatR (ruleR n (rows, steps)).1 made []) ∧
      (SatR (ruleR n (rows, steps)).1 made [] → LexMin (SatR rows made) n (chooseR made front []))
  | 0, rows, steps, _, _, _, _ => by
    refine ⟨[], rfl, rfl, by simp, fun c hc h => ?_, fun h => ⟨rfl, h, fun c' _ _ k hk => absurd hk (by omega)⟩⟩
    have : c = [] := List.length_eq_zero_iff.mp hc
    subst this
    exact h
  | n + 1, rows, steps, hn, hl, hz, hb => by
    have hl' : ∀ r ∈ (outR rows n).2.2, LenR m f r := all_left (fun l h1 h h2 => len_tak (hl l (List.mem_filter.mp h1).1) (hl h (List.mem_filter.mp h2).1)) fun x hx => hl x (List.mem_filter.mp hx).1
    have hz' : ∀ r ∈ (outR rows n).2.2, ∀ j, n ≤ j → partR r j = 0 := by
      refine all_left (fun l h1 h h2 j hj => ?_) fun x hx j hj => ?_
      · have l1 := (List.mem_filter.mp h1).1
        have l2 := (List.mem_filter.mp h2).1
        rw [part_tak (hl l l1) (hl h l2)]
        rcases Nat.lt_or_ge n j with h | h
        · rw [hz l l1 j h, hz _ l2 j h]; grind
        · have : j = n := by omega
          subst this; grind
      · obtain ⟨h1, h2⟩ := List.mem_filter.mp hx
        rcases Nat.lt_or_ge n j with h | h
        · exact hz x h1 j h
        · have : j = n := by omega
          subst this; exact of_decide_eq_true h2
    have hb' : ∀ j, j < n → ∃ r ∈ (outR rows n).2.2, 0 < partR r j ∧ ∀ i, i ≠ j → partR r i = 0 := fun j hj => by
      obtain ⟨r, h1, h2, h3⟩ := hb j (by omega)
      exact ⟨r, mem_left (List.mem_filter.mpr ⟨h1, decide_eq_true (h3 n (by omega))⟩), h2, h3⟩
    have hne : (outR rows n).1 ≠ [] := by
      obtain ⟨r, h1, h2, h3⟩ := hb n (by omega)
      exact List.ne_nil_of_mem (List.mem_filter.mpr ⟨h1, decide_eq_true h2⟩)
    obtain ⟨front, e1, e2, e3, e4, e5⟩ := rule_choose n (rows := (outR rows n).2.2) (steps := ((outR rows n).1, (outR rows n).2.1) :: steps) (by omega) hl' hz' hb'
    have snoc : ∀ c : List Rat, c.length = n + 1 → ∃ d v, c = d ++ [v] ∧ d.length = n := fun c hc => by
      refine ⟨c.dropLast, c.getLast (by intro e; rw [e] at hc; simp at hc), (List.dropLast_concat_getLast _).symm, by simp [hc]⟩
    refine ⟨front ++ [((outR rows n).1, (outR rows n).2.1)], ?_, by simp [e2], ?_, fun c hc hs => ?_, fun hs => ?_⟩
    · show (ruleR n _).2 = _
      rw [e1]; simp
    · intro s hs
      rcases List.mem_append.mp hs with h | h
      · exact e3 s h
      · simp at h; subst h; exact hne
    · obtain ⟨d, v, rfl, hd⟩ := snoc c hc
      exact e4 d hd ((out_step hl hd hne).1 v hs).1
    · have ih := e5 hs
      rw [choose_app]
      generalize hd : chooseR made front [] = d at ih
      rw [ih.len]
      obtain ⟨w, ew, h1, h2⟩ := maxO_ne (xs := bndsR made (outR rows n).1 n d) (by unfold bndsR; simpa using hne)
      dsimp only
      rw [ew]
      dsimp only [Option.getD]
      refine ⟨by simp [ih.len], (out_step hl ih.len hne).2 ih.suits w h1 h2, fun c' hc' hs' k hk hj => ?_⟩
      obtain ⟨d', v, rfl, hd'⟩ := snoc c' hc'
      obtain ⟨s1, s2⟩ := (out_step hl hd' hne).1 v hs'
      have lo : ∀ j, j < n → (d' ++ [v]).getD j 0 = d'.getD j 0 := fun j hj => by rw [getD_app, if_pos (by omega)]
      have lo2 : ∀ j, j < n → (d ++ [w]).getD j 0 = d.getD j 0 := fun j hj => by rw [getD_app, if_pos (by rw [ih.len]; exact hj)]
      rcases Nat.lt_or_ge k n with h | h
      · rw [lo k h, lo2 k h]
        exact ih.least d' hd' s1 k h fun j hjk => by
          have := hj j hjk
          rwa [lo j (by omega), lo2 j (by omega)] at this
      · have ek : k = n := by omega
        subst ek
        have ed : d' = d := by
          refine List.ext_getElem (hd'.trans ih.len.symm) fun i h3 h4 => ?_
          have := hj i (by omega)
          rw [lo i (by omega), lo2 i (by omega), List.getD_eq_getElem?_getD, List.getD_eq_getElem?_getD, List.getElem?_eq_getElem h3, List.getElem?_eq_getElem h4] at this
          exact this
        subst ed
        rw [getD_app, if_neg (by omega), if_pos hd'.symm, getD_app, if_neg (by omega), if_pos hd'.symm]
        exact s2 w h1
/-! the rows of a plan -/
structure PlanL (m f : Nat) (p : Plan) : Prop where
  la : p.1.length = m
  lb : p.2.1.length = f
  sd : ∀ r ∈ p.2.2, LenR m f r
theorem PlanG.len {m f a b c : Nat} {p : Plan} (h : PlanG m f a b c p) : PlanL m f p := ⟨h.la, h.lb, fun r hr => (h.sd r hr).len⟩
/-- what suits a plan -/
def SolR (p : Plan) (made c : List Rat) : Prop := (∀ d ∈ p.2.2, 0 ≤ evR d made c) ∧ ∀ k (h : k < p.2.1.length), p.2.1[k].1 ≤ c.getD k 0 ∧ c.getD k 0 ≤ p.2.1[k].2
theorem zero_getD {α : Type} {xs : List α} {j : Nat} : (xs.map fun _ => (0 : Rat)).getD j 0 = 0 := by
  rw [List.getD_eq_getElem?_getD, List.getElem?_map]
  cases xs[j]? <;> rfl
theorem part_bnd {p : Plan} {n j : Nat} {s d : Rat} (hn : n < p.2.1.length) : partR (bndR p n s d) j = if j = n then s else 0 := by
  unfold partR bndR
  dsimp only
  by_cases h : j = n
  · subst h
    rw [if_pos rfl, List.getD_eq_getElem?_getD, List.getElem?_set_self (by simpa using hn)]
    rfl
  · rw [if_neg h, List.getD_eq_getElem?_getD, List.getElem?_set_ne (fun e => h e.symm)]
    have := zero_getD (xs := p.2.1) (j := j)
    rwa [List.getD_eq_getElem?_getD] at this
theorem dotR_set0 : ∀ {xs : List Rat} {c : List Rat} {n : Nat} {s : Rat}, (∀ q ∈ xs, q = 0) → n < xs.length → dotR (xs.set n s) c = s * c.getD n 0
  | [], _, _, _, _, h => by simp at h
  | x :: xs, [], n, s, _, _ => by simp [dotR_nil2]
  | x :: xs, y :: ys, 0, s, h, _ => by
    rw [List.set_cons_zero, dotR_cons, dotR_zero fun q hq => h q (List.mem_cons_of_mem _ hq)]
    simp; grind
  | x :: xs, y :: ys, n + 1, s, h, hn => by
    rw [List.set_cons_succ, dotR_cons, dotR_set0 (fun q hq => h q (List.mem_cons_of_mem _ hq)) (by simpa using hn), h x List.mem_cons_self]
    simp; grind
theorem ev_bnd {p : Plan} {n : Nat} {s d : Rat} {made c : List Rat} (hn : n < p.2.1.length) : evR (bndR p n s d) made c = s * c.getD n 0 + d := by
  unfold evR bndR
  dsimp only
  rw [dotR_zero (fun q hq => by obtain ⟨_, _, e⟩ := List.mem_map.mp hq; exact e.symm), dotR_set0 (fun q hq => by obtain ⟨_, _, e⟩ := List.mem_map.mp hq; exact e.symm) (by simpa using hn)]
  grind
theorem len_bnd {p : Plan} {n m f : Nat} {s d : Rat} (h : PlanL m f p) : LenR m f (bndR p n s d) := by
  unfold LenR bndR
  simp [h.la, h.lb]
theorem foldl_all {P : Row → Prop} {xs : List (Int × Rat × Rat)} {g1 g2 : Int × Rat × Rat → Row} : ∀ {s : List Row}, (∀ r ∈ s, P r) → (∀ x ∈ xs, P (g1 x) ∧ P (g2 x)) → ∀ r ∈ xs.foldl (fun s x => putR (putR s (g1 x)) (g2 x)) s, P r := by
  induction xs with
  | nil => intro s h _; exact h
  | cons x xs ih =>
    intro s h k
    rw [List.foldl_cons]
    exact ih (putR_all (putR_all h (k x List.mem_cons_self).1) (k x List.mem_cons_self).2) fun y hy => k y (List.mem_cons_of_mem _ hy)
theorem len_first {p : Plan} {m f : Nat} (h : PlanL m f p) : ∀ r ∈ firstR p, LenR m f r := by
  refine foldl_all (g1 := fun x => bndR p x.1.toNat 1 (-x.2.1)) (g2 := fun x => bndR p x.1.toNat (-1) x.2.2) ?_ fun x _ => ⟨len_bnd h, len_bnd h⟩
  have := all_foldl (g := fun r => r) (P := LenR m f) (hs := p.2.2) (rows := []) (by simp) h.sd
  exact this
theorem sat_foldl {made c : List Rat} {g1 g2 : Int × Rat × Rat → Row} : ∀ {xs : List (Int × Rat × Rat)} {s : List Row}, SatR (xs.foldl (fun s x => putR (putR s (g1 x)) (g2 x)) s) made c ↔ SatR s made c ∧ ∀ x ∈ xs, 0 ≤ evR (g1 x) made c ∧ 0 ≤ evR (g2 x) made c
  | [], s => by simp
  | x :: xs, s => by
    rw [List.foldl_cons, sat_foldl, sat_put, sat_put]
    simp [and_assoc]
theorem mem_enum {xs : List (Rat × Rat)} {k : Nat} (h : k < xs.length) : ((k : Int), xs[k]) ∈ enumL xs := by
  unfold enumL
  refine List.mem_map.mpr ⟨(xs[k], k), ?_, rfl⟩
  rw [List.mem_zipIdx_iff_getElem?]
  simp [h]
theorem sat_first {p : Plan} {made c : List Rat} : SatR (firstR p) made c ↔ SolR p made c := by
  unfold firstR
  rw [sat_foldl, show (p.2.2.foldl putR []) = p.2.2.foldl (fun s h => putR s ((fun r => r) h)) [] from rfl, sat_puts]
  unfold SolR
  constructor
  · rintro ⟨⟨_, h1⟩, h2⟩
    refine ⟨h1, fun k hk => ?_⟩
    have := h2 _ (mem_enum hk)
    dsimp only at this
    rw [show ((k : Int)).toNat = k by omega, ev_bnd hk, ev_bnd hk] at this
    exact ⟨by grind, by grind⟩
  · rintro ⟨h1, h2⟩
    refine ⟨⟨by intro r h; simp at h, h1⟩, fun x hx => ?_⟩
    obtain ⟨i, e1, hi, e2⟩ := mem_enumL hx
    have := h2 i hi
    rw [e2] at this
    rw [e1, show ((i : Int)).toNat = i by omega, ev_bnd hi, ev_bnd hi]
    exact ⟨by grind, by grind⟩
theorem low_first {p : Plan} {m f : Nat} (h : PlanL m f p) : ∀ j, j < f → ∃ r ∈ firstR p, 0 < partR r j ∧ ∀ i, i ≠ j → partR r i = 0 := by
  intro j hj
  rw [← h.lb] at hj
  have key : ∀ {xs : List (Int × Rat × Rat)} {s : List Row} {x : Int × Rat × Rat}, x ∈ xs → x.1.toNat < p.2.1.length → bndR p x.1.toNat 1 (-x.2.1) ∈ xs.foldl (fun s x => putR (putR s (bndR p x.1.toNat 1 (-x.2.1))) (bndR p x.1.toNat (-1) x.2.2)) s := by
    intro xs
    have stay : ∀ {xs : List (Int × Rat × Rat)} {s : List Row} {r : Row}, r ∈ s → r ∈ xs.foldl (fun s x => putR (putR s (bndR p x.1.toNat 1 (-x.2.1))) (bndR p x.1.toNat (-1) x.2.2)) s := by
      intro xs
      induction xs with
      | nil => intro s r h; exact h
      | cons y ys ih =>
        intro s r h
        rw [List.foldl_cons]
        have up : ∀ {s : List Row} {r x : Row}, r ∈ s → r ∈ putR s x := fun h => by
          unfold putR; split
          · exact h
          · exact List.mem_append_left _ h
        exact ih (up (up h))
    induction xs with
    | nil => intro s x h; simp at h
    | cons y ys ih =>
      intro s x h hx
      rw [List.foldl_cons]
      rcases List.mem_cons.mp h with e | e
      · subst e
        refine stay ?_
        have up : ∀ {s : List Row} {r x : Row}, r ∈ s → r ∈ putR s x := fun h => by
          unfold putR; split
          · exact h
          · exact List.mem_append_left _ h
        refine up ?_
        unfold putR
        split
        · rename_i hp
          rcases hp with hp | hp
          · have h1 := part_bnd (p := p) (s := 1) (d := -x.2.1) (j := x.1.toNat) hx
            rw [if_pos rfl] at h1
            have h2 : partR (bndR p x.1.toNat 1 (-x.2.1)) x.1.toNat = 0 := by
              unfold partR
              rw [List.getD_eq_getElem?_getD]
              cases e : (bndR p x.1.toNat 1 (-x.2.1)).2.1[x.1.toNat]? with
              | none => rfl
              | some q => exact hp.1 q (List.mem_append_right _ (List.mem_of_getElem? e))
            rw [h2] at h1
            exact absurd h1 (by decide)
          · exact hp
        · exact List.mem_append_right _ (by simp)
      · exact ih e hx
  refine ⟨_, key (mem_enum hj) (by dsimp only; rw [show ((j : Int)).toNat = j by omega]; exact hj), ?_, fun i hi => ?_⟩
  · dsimp only
    rw [show ((j : Int)).toNat = j by omega, part_bnd hj, if_pos rfl]; decide
  · dsimp only
    rw [show ((j : Int)).toNat = j by omega, part_bnd hj, if_neg hi]
theorem part_ge {r : Row} {m f j : Nat} (h : LenR m f r) (hj : f ≤ j) : partR r j = 0 := by
  unfold partR
  rw [List.getD_eq_getElem?_getD, List.getElem?_eq_none (by rw [h.2]; exact hj)]; rfl
/-- the rule of a plan: a made set has a choice just where no last row is below nought, and then the steps come to the least one -/
theorem rule_spec {p : Plan} {m f : Nat} {made : List Rat} (h : PlanL m f p) :
    (ruleR f (firstR p, [])).2.length = f ∧ (∀ s ∈ (ruleR f (firstR p, [])).2, s.1 ≠ []) ∧ (∀ c, c.length = f → SolR p made c → SatR (ruleR f (firstR p, [])).1 made []) ∧
      (SatR (ruleR f (firstR p, [])).1 made [] → LexMin (SolR p made) f (chooseR made (ruleR f (firstR p, [])).2 [])) := by
  obtain ⟨front, e1, e2, e3, e4, e5⟩ := rule_choose (made := made) f (rows := firstR p) (steps := []) (Nat.le_refl _) (len_first h) (fun r hr j hj => part_ge (len_first h r hr) hj) (low_first h)
  rw [List.append_nil] at e1
  rw [e1]
  refine ⟨e2, e3, fun c hc hs => e4 c hc (sat_first.mpr hs), fun hs => ?_⟩
  have l := e5 hs
  exact ⟨l.len, sat_first.mp l.suits, fun c' h1 h2 => l.least c' h1 (sat_first.mpr h2)⟩
end Sr
/-! Q_cb -/
/-! chosen_by -/
namespace Sr
open PySem PySem.Spec PyProof.Rows L2 L3 L4
def costR (zs : List (Rat × Rat)) : Nat := (zs.map fun x => hq x.1 + hq x.2 + 1).sum
theorem cost_nil : costR [] = 0 := rfl
theorem cost_cons {x : Rat × Rat} {zs : List (Rat × Rat)} : costR (x :: zs) = hq x.1 + hq x.2 + 1 + costR zs := by simp [costR]
theorem cost_app {xs ys : List (Rat × Rat)} : costR (xs ++ ys) = costR xs + costR ys := by simp [costR]
theorem cost_le {xs ys : List Rat} {a b : Nat} (h1 : ∀ q ∈ xs, hq q ≤ a) (h2 : ∀ q ∈ ys, hq q ≤ b) : costR (xs.zip ys) ≤ ys.length * (a + b + 1) := by
  induction xs generalizing ys with
  | nil => simp [costR]
  | cons x xs ih =>
    cases ys with
    | nil => simp [costR]
    | cons y ys =>
      rw [List.zip_cons_cons, cost_cons, List.length_cons, Nat.succ_mul]
      have := ih (fun q hq => h1 q (List.mem_cons_of_mem _ hq)) (ys := ys) fun q hq => h2 q (List.mem_cons_of_mem _ hq)
      have := h1 x List.mem_cons_self
      have := h2 y List.mem_cons_self
      dsimp only
      omega
theorem sumfold_ok {zs : List (Rat × Rat)} : ∀ {s : Rat}, hq s + costR zs ≤ 9000 → tFold (fun (s5 : Rat) (x6 : Rat × Rat) => ((rMul x6.1 x6.2).nx.bind fun r7 => (rAdd s5 r7).nx.bind fun r8 => .ok (r8) : R Rat)) zs s = .ok (s + (zs.map fun x => x.1 * x.2).sum) ∧ hq (s + (zs.map fun x => x.1 * x.2).sum) ≤ hq s + costR zs := by
  induction zs with
  | nil =>
    intro s h
    have e : s + ([] : List Rat).sum = s := by rw [List.sum_nil]; grind
    rw [List.map_nil, e]
    exact ⟨rfl, by rw [cost_nil]; exact Nat.le_refl _⟩
  | cons x zs ih =>
    intro s h
    rw [cost_cons] at h
    have key : Then ((rMul x.1 x.2).nx.bind fun r7 => (rAdd s r7).nx.bind fun r8 => .ok (r8) : R Rat) (fun z => z = s + x.1 * x.2 ∧ hq z ≤ hq s + (hq x.1 + hq x.2 + 1)) (fun _ => False) := by
      refine st_times (by omega) fun z1 e1 g1 => ?_
      refine st_add (by omega) fun z2 e2 g2 => ?_
      subst e1
      exact ⟨e2, by omega⟩
    obtain ⟨z, e1, e2, e3⟩ := of_then key
    subst e2
    obtain ⟨i1, i2⟩ := ih (s := s + x.1 * x.2) (by omega)
    have e : s + x.1 * x.2 + (zs.map fun x => x.1 * x.2).sum = s + ((x :: zs).map fun x => x.1 * x.2).sum := by rw [List.map_cons, List.sum_cons]; grind
    rw [e] at i1 i2
    refine ⟨?_, by rw [cost_cons]; omega⟩
    unfold tFold
    rw [e1]
    exact i1
theorem ev_sum {r : Row} {made c : List Rat} : r.2.2 + ((r.1.zip made ++ r.2.1.zip c).map fun x => x.1 * x.2).sum = evR r made c := by
  unfold evR dotR
  rw [List.map_append, List.sum_append]
  grind
theorem worthof_ok {r : Row} {made c : List Rat} {m f a d : Nat} (h : RowG m f a d r) (hm : m ≤ 1000) (hf : f ≤ 1000) (hc : d + costR (r.1.zip made) + costR (r.2.1.zip c) ≤ 9000) : t_worth_of r made c = .ok (evR r made c) ∧ hq (evR r made c) ≤ d + costR (r.1.zip made) + costR (r.2.1.zip c) := by
  have hsc := h.sc
  obtain ⟨e1, e2⟩ := sumfold_ok (zs := r.1.zip made ++ r.2.1.zip c) (s := r.2.2) (by rw [cost_app]; omega)
  rw [ev_sum] at e1 e2
  rw [cost_app] at e2
  refine ⟨eq_of_then ?_, by omega⟩
  unfold t_worth_of
  refine st_cat (by have := h.la; have := h.lb; simp; omega) ?_
  rw [e1]
  rfl
/-- sizes of the chosen so far -/
def sumB (c : List Rat) : Nat := (c.map fun q => hq q + 1).sum
theorem sumB_app {c : List Rat} {q : Rat} : sumB (c ++ [q]) = sumB c + (hq q + 1) := by simp [sumB]
theorem cost_ch {xs : List Rat} {a : Nat} : ∀ {c : List Rat}, (∀ q ∈ xs, hq q ≤ a) → costR (xs.zip c) ≤ c.length * a + sumB c := by
  induction xs with
  | nil => intro c _; simp [costR]
  | cons x xs ih =>
    intro c h
    cases c with
    | nil => simp [costR]
    | cons y c =>
      have h1 := ih (c := c) fun q hq => h q (List.mem_cons_of_mem _ hq)
      have h2 := h x List.mem_cons_self
      have h3 : sumB (y :: c) = hq y + 1 + sumB c := by simp [sumB]
      rw [List.zip_cons_cons, cost_cons, List.length_cons, Nat.succ_mul, h3]
      dsimp only
      omega
/-- the sizes of the chosen: r more are to be told, n the growth at the next step, k how many are there, T their sizes -/
def bOk (m a c u lim : Nat) : Nat → Nat → Nat → Nat → Bool
  | 0, _, _, _ => true
  | r + 1, n, k, T => decide (gC n a c + m * (gA n a + u + 1) + k * gA n a + T + gA n a ≤ lim) && bOk m a c u lim r (n - 1) (k + 1) (T + (gC n a c + m * (gA n a + u + 1) + k * gA n a + T + gA n a) + 1)
theorem bOk_mono {m a c u lim : Nat} : ∀ {r n k T T' : Nat}, T' ≤ T → bOk m a c u lim r n k T = true → bOk m a c u lim r n k T' = true
  | 0, _, _, _, _, _, _ => rfl
  | r + 1, n, k, T, T', h, e => by
    unfold bOk at e ⊢
    rw [Bool.and_eq_true, decide_eq_true_eq] at e ⊢
    exact ⟨by omega, bOk_mono (by omega) e.2⟩
noncomputable abbrev stepT (made : List Rat) (i : Int) (c : List Rat) : Option Rat → Row → R (Option Rat) := fun (s10 : (Option Rat)) (x11 : Row) => ((show R Rat from (t_worth_of x11 made c).nx.bind fun r12 => .ok r12).bind fun r13 => (rSub (0 : Rat) r13).nx.bind fun r14 => (tIdx x11.2.1 i).bind fun x15 => (rDiv r14 x15).nx.bind fun r16 => (show R Bool from if (Option.isNone s10) = true then .ok true else (tGet s10).bind fun best18 => (rLt best18 r16).nx.bind fun r19 => .ok r19).bind fun b17 => if b17 = true then .ok ((some r16)) else .ok (s10) : R (Option Rat))
abbrev maxF : Option Rat → Rat → Option Rat := fun b w => match b with | none => some w | some b => some (if b < w then w else b)
theorem best_ok {made c : List Rat} {m f a d u B : Nat} {i : Int} (hi : i = (c.length : Nat)) (hcl : c.length < f) (hm : m ≤ 1000) (hf : f ≤ 1000) (hu : made.length ≤ m) (hmade : ∀ q ∈ made, hq q ≤ u) (hB : d + m * (a + u + 1) + c.length * a + sumB c + a ≤ B) (hB2 : B ≤ 8900) :
    ∀ {lows : List Row} (o : Option Rat), (∀ r ∈ lows, RowG m f a d r) → (∀ r ∈ lows, 0 < partR r c.length) → (∀ b, o = some b → hq b ≤ B) →
      tFold (stepT made i c) lows o = .ok ((bndsR made lows c.length c).foldl maxF o) ∧ ∀ b, (bndsR made lows c.length c).foldl maxF o = some b → hq b ≤ B
  | [], o, _, _, ho => ⟨rfl, ho⟩
  | r :: lows, o, h, hp, ho => by
    have hr := h r List.mem_cons_self
    have c1 : costR (r.1.zip made) ≤ m * (a + u + 1) := by
      have := cost_le hr.sa hmade
      exact Nat.le_trans this (Nat.mul_le_mul_right _ hu)
    have c2 := cost_ch (c := c) hr.sb
    obtain ⟨w1, w2⟩ := worthof_ok (made := made) (c := c) hr hm hf (by omega)
    have hpp := hp r List.mem_cons_self
    have key : Then (stepT made i c o r) (fun z => z = maxF o ((0 - evR r made c) / partR r c.length) ∧ ∀ b, z = some b → hq b ≤ B) (fun _ => False) := by
      unfold stepT
      refine st_bind (Q := fun z => z = evR r made c) ?_ fun z ez => ?_
      · exact st_callE w1 rfl
      subst ez
      have hd := dq_hq (evR r made c)
      refine st_negW (by omega) (by omega) fun z1 e1 g1 d1 => ?_
      refine st_part hr hi hcl fun s3 => ?_
      have n3 := hq_num (partR r c.length)
      refine st_over (by omega) (by grind) fun z2 e2 g2 => ?_
      have ez : z2 = (0 - evR r made c) / partR r c.length := by rw [e2, e1]; congr 1; grind
      have gz : hq z2 ≤ B := by omega
      cases o with
      | none => exact ⟨by show some z2 = maxF none _; rw [ez], fun b e => by cases e; exact gz⟩
      | some b0 =>
        have hb0 := ho b0 rfl
        refine st_bind (Q := fun t => t = decide (b0 < z2)) ?_ fun t et => ?_
        · refine st_get rfl ?_
          exact st_lt (by omega) rfl
        subst et
        by_cases hlt : b0 < z2
        · simp only [hlt, decide_true, if_true]
          exact ⟨by show some z2 = maxF (some b0) _; rw [ez] at hlt ⊢; simp [maxF, hlt], fun b e => by cases e; exact gz⟩
        · simp only [hlt, decide_false, Bool.false_eq_true, if_false]
          exact ⟨by show some b0 = maxF (some b0) _; rw [ez] at hlt; simp [maxF, hlt], fun b e => by cases e; exact hb0⟩
    obtain ⟨z, e1, e2, e3⟩ := of_then key
    obtain ⟨i1, i2⟩ := best_ok hi hcl hm hf hu hmade hB hB2 (lows := lows) z (fun x hx => h x (List.mem_cons_of_mem _ hx)) (fun x hx => hp x (List.mem_cons_of_mem _ hx)) e3
    have eb : (bndsR made (r :: lows) c.length c).foldl maxF o = (bndsR made lows c.length c).foldl maxF z := by
      rw [e2]; rfl
    rw [eb]
    refine ⟨?_, i2⟩
    unfold tFold
    rw [e1]
    exact i1
/-- the steps' lows have parts above nought at their shim -/
def LowsOk : Nat → List (List Row × List Row) → Prop
  | _, [] => True
  | k, s :: ss => s.1 ≠ [] ∧ (∀ r ∈ s.1, 0 < partR r k) ∧ LowsOk (k + 1) ss
theorem lows_rule : ∀ {n : Nat} {rows : List Row} {steps : List (List Row × List Row)}, LowsOk n steps → (∀ s ∈ (ruleR n (rows, steps)).2, s.1 ≠ []) → LowsOk 0 (ruleR n (rows, steps)).2
  | 0, _, _, h, _ => h
  | n + 1, rows, steps, h, k => by
    have hm : ∀ {n : Nat} {rows : List Row} {steps : List (List Row × List Row)} {s}, s ∈ steps → s ∈ (ruleR n (rows, steps)).2 := by
      intro n
      induction n with
      | zero => intro rows steps s h; exact h
      | succ n ih => intro rows steps s h; exact ih (List.mem_cons_of_mem _ h)
    refine lows_rule (n := n) (rows := (outR rows n).2.2) ⟨k _ (hm (n := n) List.mem_cons_self), fun r hr => of_decide_eq_true (List.mem_filter.mp hr).2, h⟩ k
noncomputable abbrev chooseT (made : List Rat) : List Rat → Int × List Row × List Row → R (List Rat) := fun (s8 : (List Rat)) (x9 : Int × List Row × List Row) => ((tFold (stepT made x9.1 s8) x9.2.1 (none)).bind fun s20 => (tGet s20).bind fun best21 => (tApp s8 best21).bind fun choice22 => .ok (choice22) : R (List Rat))
theorem choose_ok {made : List Rat} {m f a c u lim : Nat} (hm : m ≤ 1000) (hf : f ≤ 1000) (hu : made.length ≤ m) (hmade : ∀ q ∈ made, hq q ≤ u) (hlim : lim ≤ 8900) :
    ∀ {steps : List (List Row × List Row)} {n : Nat} {ch : List Rat}, StepsG m f a c n steps → LowsOk ch.length steps → bOk m a c u lim steps.length n ch.length (sumB ch) = true → ch.length + steps.length ≤ f → (∀ q ∈ ch, hq q ≤ lim) →
      tFold (chooseT made) (steps.zipIdx ch.length |>.map fun x => ((x.2 : Int), x.1)) ch = .ok (chooseR made steps ch) ∧ ∀ q ∈ chooseR made steps ch, hq q ≤ lim
  | [], n, ch, _, _, _, _, hc => ⟨rfl, hc⟩
  | s :: ss, n, ch, hs, hl, hb, hlen, hc => by
    obtain ⟨g1, g2, g3⟩ := hs
    obtain ⟨l1, l2, l3⟩ := hl
    rw [List.length_cons] at hb hlen
    unfold bOk at hb
    rw [Bool.and_eq_true, decide_eq_true_eq] at hb
    obtain ⟨b1, b2⟩ := hb
    obtain ⟨e1, e2⟩ := best_ok (made := made) (c := ch) (i := (ch.length : Nat)) (B := gC n a c + m * (gA n a + u + 1) + ch.length * gA n a + sumB ch + gA n a) rfl (by omega) hm hf hu hmade (Nat.le_refl _) (by omega) (lows := s.1) none g1 l2 (fun b e => by cases e)
    obtain ⟨w, ew, m1, m2⟩ := maxO_ne (xs := bndsR made s.1 ch.length ch) (by unfold bndsR; simpa using l1)
    have hw := e2 w ew
    have sb : sumB (ch ++ [w]) = sumB ch + (hq w + 1) := sumB_app
    obtain ⟨i1, i2⟩ := choose_ok hm hf hu hmade hlim (steps := ss) (n := n - 1) (ch := ch ++ [w]) g3 (by simpa using l3) (by rw [List.length_append, List.length_singleton]; exact bOk_mono (by rw [sb]; omega) b2) (by simp; omega) (fun q hq' => by
      rcases List.mem_append.mp hq' with e | e
      · exact hc q e
      · simp at e; subst e; omega)
    have ec : chooseR made (s :: ss) ch = chooseR made ss (ch ++ [w]) := by
      conv => lhs; unfold chooseR
      rw [ew]; rfl
    rw [ec]
    refine ⟨?_, i2⟩
    rw [List.zipIdx_cons, List.map_cons]
    unfold tFold
    have h1 : chooseT made ch ((ch.length : Int), s) = .ok (ch ++ [w]) := by
      unfold chooseT
      dsimp only
      rw [e1]
      rw [show List.foldl maxF none (bndsR made s.1 ch.length ch) = some w from ew]
      exact eq_of_then (st_app (by omega) rfl)
    rw [h1]
    rw [List.length_append, List.length_singleton] at i1
    exact i1
theorem loop_unit {α : Type} {f : Unit → α → R Unit} {p : α → Prop} [DecidablePred p] {c : Str} : ∀ {xs : List α}, (∀ x ∈ xs, f () x = if p x then .ok () else .exc c) → tFold f xs () = if ∀ x ∈ xs, p x then .ok () else .exc c
  | [], _ => by simp [tFold]
  | x :: xs, h => by
    unfold tFold
    rw [h x List.mem_cons_self]
    by_cases hp : p x
    · rw [if_pos hp, bind_okS, loop_unit fun y hy => h y (List.mem_cons_of_mem _ hy)]
      simp [hp]
    · rw [if_neg hp, bind_excS]
      simp [hp]
noncomputable instance {rows : List Row} {made c : List Rat} : Decidable (SatR rows made c) := by unfold SatR; exact Classical.propDecidable _
theorem chosen_ok {steps : List (List Row × List Row)} {rows : List Row} {made : List Rat} {m f a c n a' c' u lim : Nat} (hm : m ≤ 1000) (hf : f ≤ 1000) (hu : made.length ≤ m) (hmade : ∀ q ∈ made, hq q ≤ u) (hlim : lim ≤ 8900) (hr : ∀ r ∈ rows, RowG m f a' c' r) (hs : c' + m * (a' + u + 1) ≤ 9000)
    (h1 : StepsG m f a c n steps) (h2 : LowsOk 0 steps) (h3 : bOk m a c u lim steps.length n 0 0 = true) (h4 : steps.length ≤ f) :
    t_chosen_by (steps, rows) made = (if SatR rows made [] then .ok (chooseR made steps []) else .exc "NoChoice") ∧ ∀ q ∈ chooseR made steps [], hq q ≤ lim := by
  obtain ⟨e1, e2⟩ := choose_ok hm hf hu hmade hlim (steps := steps) (n := n) (ch := []) h1 h2 h3 (by simpa using h4) (by simp)
  refine ⟨?_, e2⟩
  have l := loop_unit (f := fun (s3 : Unit) (x4 : Row) => ((t_worth_of x4 made ([] : (List Rat))).nx.bind fun r5 => (rLt r5 (0 : Rat)).nx.bind fun r6 => if r6 = true then .exc "NoChoice" else .ok () : R Unit)) (p := fun r => 0 ≤ evR r made []) (c := "NoChoice") (xs := rows) (fun r hx => by
    have hr' := hr r hx
    have c1 : costR (r.1.zip made) ≤ m * (a' + u + 1) := Nat.le_trans (cost_le hr'.sa hmade) (Nat.mul_le_mul_right _ hu)
    obtain ⟨w1, w2⟩ := worthof_ok (made := made) (c := []) hr' hm hf (by rw [List.zip_nil_right, cost_nil]; omega)
    rw [List.zip_nil_right, cost_nil] at w2
    have h0 := hq_zero
    rw [w1]
    show ((rLt (evR r made []) 0).nx.bind _) = _
    unfold rLt L4.tOp
    rw [decide_eq_true (show hq (evR r made []) + hq 0 ≤ 400000 by omega), guard_t, nx_ok, bind_okS]
    by_cases hp : 0 ≤ evR r made []
    · have hn : ¬ evR r made [] < 0 := by grind
      rw [if_pos hp]; simp [hn]
    · have hn : evR r made [] < 0 := by grind
      rw [if_neg hp]; simp [hn])
  unfold t_chosen_by
  dsimp only
  rw [l]
  by_cases hp : SatR rows made []
  · have hp' : ∀ x ∈ rows, 0 ≤ evR x made [] := hp
    rw [if_pos hp, if_pos hp', bind_okS]
    have : enumL steps = (steps.zipIdx 0).map fun x => ((x.2 : Int), x.1) := rfl
    rw [this]
    show (tFold (chooseT made) _ []).bind _ = _
    rw [List.length_nil] at e1
    rw [e1]; rfl
  · have hp' : ¬ ∀ x ∈ rows, 0 ≤ evR x made [] := hp
    rw [if_neg hp, if_neg hp', bind_excS]
theorem told_ok {steps : List (List Row × List Row)} {rows : List Row} {made d : List Rat} (h : t_chosen_by (steps, rows) made = (if SatR rows made [] then .ok d else .exc "NoChoice")) : t__law_told (steps, rows) made = .ok (if SatR rows made [] then some d else none) := by
  unfold t__law_told tTry
  rw [h]
  by_cases hp : SatR rows made []
  · rw [if_pos hp, if_pos hp]; rfl
  · rw [if_neg hp, if_neg hp]; rfl
end Sr
/-! Q_g19 -/
/-! the drawn plans of laws k19 .. k25 -/
namespace Sr
open PySem PySem.Spec PyProof.Rows L2 L3 L4
abbrev Ps := Int × Bool × Int
section
variable {α : Type} {P : α → Prop} {E : Str → Prop} {p : Ps}
theorem take19_spec {many : Int} (hm : 0 < many) (hb : ib many ≤ 9000) : Then (t__law_take_3 p many) (fun r => 0 ≤ r.1 ∧ r.1 < many) E := by
  obtain ⟨rest, mixed, turn⟩ := p
  have hf : ∀ x : Int, 0 ≤ x.fmod many ∧ x.fmod many < many := fun x => ⟨Int.fmod_nonneg_of_pos x hm, Int.fmod_lt_of_pos x hm⟩
  unfold t__law_take_3
  cases mixed with
  | false =>
    simp only [Bool.not_false, if_true]
    refine st_mod (by omega) ?_
    refine st_fdiv (divOk_ib (by omega) (by omega)) ?_
    exact hf _
  | true =>
    simp only [Bool.not_true, Bool.false_eq_true, if_false]
    refine st_ok ?_
    dsimp only
    refine st_mod (by decide) ?_
    refine st_mul (mulOk_l (by decide)) ?_
    refine st_mod (by decide) ?_
    have b1 := Int.fmod_nonneg_of_pos (rest.fmod 2147483579 + 70001 * (turn + 1)) (b := 2147483579) (by omega)
    have b2 := Int.fmod_lt_of_pos (rest.fmod 2147483579 + 70001 * (turn + 1)) (b := 2147483579) (by omega)
    generalize (rest.fmod 2147483579 + 70001 * (turn + 1)).fmod 2147483579 = y at *
    refine st_mul (mulOk_l (by omega)) ?_
    refine st_mod (by decide) ?_
    have c1 := Int.fmod_nonneg_of_pos (y * y) (b := 2147483563) (by omega)
    have c2 := Int.fmod_lt_of_pos (y * y) (b := 2147483563) (by omega)
    generalize (y * y).fmod 2147483563 = w at *
    refine st_mul (mulOk_l (by omega)) ?_
    refine st_mod (by decide) ?_
    refine st_ok ?_
    refine st_fdiv (divOk_ib (by decide) (by decide)) ?_
    refine st_mod (by omega) ?_
    exact hf _
theorem st_take19 {many : Int} {k : Int × Ps → R α} (hm : 0 < many) (hb : ib many ≤ 9000) (h : ∀ v q, 0 ≤ v → v < many → Then (k (v, q)) P E) : Then ((t__law_take_3 p many).nx.bind k) P E :=
  st_call (take19_spec hm hb) fun ⟨v, q⟩ ⟨a, b⟩ => h v q a b
theorem st_mkP {t b : Int} {k : Rat → R α} (m : Nat) (h0 : 0 < b) (h1 : ib b ≤ m) (h2 : ib t ≤ m) (m1 : 1 ≤ m) (m2 : m ≤ 9000) (h : ∀ z, z = Rat.divInt t b → hq z ≤ m → Then (k z) P E) : Then ((rMkP t b).nx.bind k) P E := st_opN (decide_eq_true ⟨h0, by omega⟩) (h _ rfl (hq_divInt h2 h1 m1))
theorem some19_spec : Then (t__law_some p) (fun r => hq r.1 ≤ 39) E := by
  unfold t__law_some
  refine st_take19 (by decide) (by decide) fun v1 p1 a1 b1 => ?_
  dsimp only
  split
  · refine st_op (by decide) ?_
    refine st_take19 (by decide) (by decide) fun v2 p2 a2 b2 => ?_
    dsimp only
    refine st_op (by decide) ?_
    refine st_mul (by decide) ?_
    refine st_take19 (by decide) (by decide) fun v3 p3 a3 b3 => ?_
    dsimp only
    have e12 : (10 : Int) ^ (12 : Int).toNat = 1000000000000 := by decide
    have e11 : (10 : Int) ^ (11 : Int).toNat = 100000000000 := by decide
    rw [e12] at b2
    rw [e11]
    refine st_mkP 39 (by omega) (ib_le.mpr (by omega)) (ib_le.mpr (by omega)) (by decide) (by decide) fun z ez hz => hz
  · split
    · refine st_take19 (by decide) (by decide) fun v2 p2 a2 b2 => ?_
      exact hq_int (ib_le.mpr (by omega)) (by decide)
    · refine st_take19 (by decide) (by decide) fun v2 p2 a2 b2 => ?_
      dsimp only
      refine st_take19 (by decide) (by decide) fun v3 p3 a3 b3 => ?_
      dsimp only
      refine st_mkP 39 (by omega) (ib_le.mpr (by omega)) (ib_le.mpr (by omega)) (by decide) (by decide) fun z ez hz => hz
theorem wlist_hq {x : Rat} (hx : x ∈ [(0 : Rat), (0 : Rat), (1 : Rat), (-1 : Rat), (1 : Rat), (-1 : Rat), (2 : Rat), (mkRat (-3) 2), (mkRat 1 3), (-2 : Rat)]) : hq x ≤ 5 := by
  simp only [List.mem_cons, List.not_mem_nil, or_false] at hx
  rcases hx with h | h | h | h | h | h | h | h | h | h <;> subst h <;> decide +kernel
theorem weight19_spec : Then (t__law_weight p) (fun r => hq r.1 ≤ 5) E := by
  unfold t__law_weight
  refine st_take19 (by decide) (by decide) fun v1 p1 a1 b1 => ?_
  dsimp only
  split
  · refine st_idxM (by omega) (by simp; omega) fun x hx => wlist_hq hx
  · refine st_take19 (by decide) (by decide) fun v2 p2 a2 b2 => ?_
    dsimp only
    refine st_take19 (by decide) (by decide) fun v3 p3 a3 b3 => ?_
    dsimp only
    refine st_mkP 5 (by omega) (ib_le.mpr (by omega)) (ib_le.mpr (by omega)) (by decide) (by decide) fun z ez hz => hz
theorem divInt_nonneg {t b : Int} (h : 0 ≤ t) (hb : 0 < b) : 0 ≤ Rat.divInt t b := Rat.divInt_nonneg h (by omega)
theorem bounds19_spec : Then (t__law_bounds_3 p) (fun r => hq r.1.1 ≤ 39 ∧ hq r.1.2 ≤ 44 ∧ r.1.1 ≤ r.1.2) E := by
  unfold t__law_bounds_3
  refine st_call some19_spec fun ⟨q1, p1⟩ h1 => ?_
  dsimp only at h1 ⊢
  refine st_take19 (by decide) (by decide) fun v2 p2 a2 b2 => ?_
  dsimp only
  refine st_take19 (by decide) (by decide) fun v3 p3 a3 b3 => ?_
  dsimp only
  refine st_mkP 4 (by omega) (ib_le.mpr (by omega)) (ib_le.mpr (by omega)) (by decide) (by decide) fun z ez hz => ?_
  refine st_add (by omega) fun y ey hy => ?_
  have := divInt_nonneg (t := v2) (b := 1 + v3) a2 (by omega)
  exact ⟨h1, by show hq y ≤ 44; omega, by show q1 ≤ y; grind⟩
theorem cell19_spec {ns : List Int} {k : Int} (h0 : 0 ≤ k) (h1 : k ≤ 1000) : ∃ v, t__law_cell_2 ns k = .ok v := by
  have : Then (t__law_cell_2 ns k) (fun _ => True) (fun _ => False) := by
    unfold t__law_cell_2
    rw [tLen_eq]
    split
    · exact st_idxM h0 (by omega) fun _ _ => trivial
    · refine st_mul (mulOk_l (by decide)) ?_
      refine st_mul (mulOk_r (by omega)) ?_
      refine st_mul (mulOk_l (by decide)) ?_
      trivial
  obtain ⟨v, e, _⟩ := of_then this
  exact ⟨v, e⟩
theorem state19_spec {ns : List Int} {k : Int} (h0 : 0 ≤ k) (h1 : k ≤ 1000) : ∃ s, t__law_state ns k = .ok s := by
  obtain ⟨v, e⟩ := cell19_spec (ns := ns) h0 h1
  obtain ⟨w, e0⟩ := cell19_spec (ns := ns) (k := 0) (by omega) (by omega)
  have : Then (t__law_state ns k) (fun _ => True) (fun _ => False) := by
    unfold t__law_state
    refine st_callE e ?_
    refine st_callE e0 ?_
    refine st_mod (by decide) ?_
    trivial
  obtain ⟨v, e, _⟩ := of_then this
  exact ⟨v, e⟩
/-- how many sizes, shims, demands -/
def Many19 (m f d : Nat) : Prop := (1 ≤ m ∧ m ≤ 3 ∨ m = 6 ∧ f ≤ 2) ∧ (f = 0 ∧ d ≤ 8 ∨ f = 1 ∧ d ≤ 8 ∨ f = 2 ∧ d ≤ 6 ∨ f = 3 ∧ d ≤ 3)
theorem rowlist {S : Rat → Prop} {xs : List Rat} {n : Nat} (_ : xs.length = n) (h : ∀ y ∈ xs, S y) : ∀ q ∈ xs, S q := h
theorem plan19_spec {ns : List Int} : Then (t__law_plan_4 ns) (fun p => ∃ m f : Nat, Many19 m f p.2.2.length ∧ PlanG m f 5 44 39 p) E := by
  obtain ⟨c0, e0⟩ := cell19_spec (ns := ns) (k := 0) (by omega) (by omega)
  unfold t__law_plan_4
  refine st_callE e0 ?_
  refine st_fdiv (divOk_ib (by decide) (by decide)) ?_
  generalize c0.fdiv 2 = first
  refine st_fdiv (divOk_ib (by decide) (by decide)) ?_
  refine st_mod (by decide) ?_
  have r1 := Int.fmod_nonneg_of_pos (first.fdiv 24) (b := 8) (by omega)
  have r2 := Int.fmod_lt_of_pos (first.fdiv 24) (b := 8) (by omega)
  refine st_idxM r1 (by simpa using r2) fun f hf => ?_
  have hf' : f = 0 ∨ f = 1 ∨ f = 2 ∨ f = 3 := by
    simp only [List.mem_cons, List.not_mem_nil, or_false] at hf
    omega
  refine st_mod (by decide) ?_
  have s1 := Int.fmod_nonneg_of_pos first (b := 3) (by omega)
  have s2 := Int.fmod_lt_of_pos first (b := 3) (by omega)
  refine st_bind (Q := fun b => b = true → f < 3) ?_ fun b8 hb8 => ?_
  · refine st_fdiv (divOk_ib (by decide) (by decide)) ?_
    refine st_mod (by decide) ?_
    split
    · exact fun h => of_decide_eq_true h
    · exact fun h => by cases h
  refine st_bind (Q := fun m : Int => 1 ≤ m ∧ m ≤ 3 ∨ m = 6 ∧ f < 3) ?_ fun mi hmi => ?_
  · cases b8 with
    | true => exact (show Then (tIdx [1 + first.fmod 3, 6] (1 : Int)) _ E from .inr ⟨rfl, hb8 rfl⟩)
    | false => exact (show Then (tIdx [1 + first.fmod 3, 6] (0 : Int)) _ E from .inl ⟨by show 1 ≤ 1 + first.fmod 3; omega, by show 1 + first.fmod 3 ≤ 3; omega⟩)
  refine st_bind (Q := fun d : Int => f = 0 ∧ d = 8 ∨ f = 1 ∧ d = 8 ∨ f = 2 ∧ d = 6 ∨ f = 3 ∧ d = 3) ?_ fun di hdi => ?_
  · rcases hf' with h | h | h | h <;> subst h
    · exact (show Then (tIdx [(8 : Int), 8, 6, 3] (0 : Int)) _ E from .inl ⟨rfl, rfl⟩)
    · exact (show Then (tIdx [(8 : Int), 8, 6, 3] (1 : Int)) _ E from .inr (.inl ⟨rfl, rfl⟩))
    · exact (show Then (tIdx [(8 : Int), 8, 6, 3] (2 : Int)) _ E from .inr (.inr (.inl ⟨rfl, rfl⟩)))
    · exact (show Then (tIdx [(8 : Int), 8, 6, 3] (3 : Int)) _ E from .inr (.inr (.inr ⟨rfl, rfl⟩)))
  obtain ⟨m, em⟩ : ∃ m : Nat, mi = m := ⟨mi.toNat, by omega⟩
  obtain ⟨fn, ef⟩ : ∃ n : Nat, f = n := ⟨f.toNat, by omega⟩
  subst em ef
  refine st_range (by omega) (by omega) (by omega) (by omega) ?_
  refine st_map (fun _ y => hq y.1 ≤ 39 ∧ hq y.2 ≤ 44 ∧ y.1 ≤ y.2) (by rw [len_rgI]; omega) (fun x hx => ?_) fun sizes hsz => ?_
  · obtain ⟨x0, x1⟩ := mem_rgI.mp hx
    obtain ⟨s, es⟩ := state19_spec (ns := ns) (k := 1 + x) (by omega) (by omega)
    refine st_callE es ?_
    refine st_call bounds19_spec fun ⟨y, q⟩ hy => ?_
    exact hy
  refine st_range (by omega) (by omega) (by omega) (by omega) ?_
  refine st_map (fun _ y => hq y.1 ≤ 39 ∧ hq y.2 ≤ 44 ∧ y.1 ≤ y.2) (by rw [len_rgI]; omega) (fun x hx => ?_) fun shims hsh => ?_
  · obtain ⟨x0, x1⟩ := mem_rgI.mp hx
    obtain ⟨s, es⟩ := state19_spec (ns := ns) (k := 7 + x) (by omega) (by omega)
    refine st_callE es ?_
    refine st_call bounds19_spec fun ⟨y, q⟩ hy => ?_
    exact hy
  have lsz : sizes.length = m := by have := hsz.len; rw [len_rgI] at this; omega
  have lsh : shims.length = fn := by have := hsh.len; rw [len_rgI] at this; omega
  refine st_fdiv (divOk_ib (by decide) (by decide)) ?_
  refine st_mod (by omega) ?_
  have t1 := Int.fmod_nonneg_of_pos (first.fdiv 192) (b := 1 + di) (by omega)
  have t2 := Int.fmod_lt_of_pos (first.fdiv 192) (b := 1 + di) (by omega)
  refine st_range (by omega) (by omega) (by omega) (by omega) ?_
  refine st_fold (fun i (s : List Row) => s.length = i ∧ ∀ r ∈ s, RowG m fn 5 39 r) ⟨rfl, by simp⟩ (fun j x s hx hs => ?_) fun ds hds => ?_
  · obtain ⟨l1, l2⟩ := hs
    obtain ⟨ex, ex2⟩ := get_rgI hx
    obtain ⟨st, es⟩ := state19_spec (ns := ns) (k := 11 + x) (by omega) (by omega)
    refine st_callE es ?_
    refine st_lc (fun _ _ => True) (fun q => hq q ≤ 5) (by omega) trivial (fun j x s hx hs => ?_) fun a la sa _ => ?_
    · refine st_call weight19_spec fun ⟨q, q2⟩ h => ?_
      exact ⟨⟨q, rfl, h⟩, trivial⟩
    refine st_lc (fun _ _ => True) (fun q => hq q ≤ 5) (by omega) trivial (fun j x s hx hs => ?_) fun b lb sb _ => ?_
    · refine st_call weight19_spec fun ⟨q, q2⟩ h => ?_
      exact ⟨⟨q, rfl, h⟩, trivial⟩
    refine st_call some19_spec fun ⟨q, q2⟩ h => ?_
    refine st_app (by omega) ?_
    refine ⟨by simp [l1], fun r hr => ?_⟩
    rcases List.mem_append.mp hr with e | e
    · exact l2 r e
    · simp at e; subst e
      exact ⟨by rw [la, lsz], by rw [lb, lsh], sa, sb, h⟩
  · obtain ⟨l1, l2⟩ := hds
    rw [len_rgI] at l1
    have bs : ∀ x ∈ sizes, hq x.1 ≤ 39 ∧ hq x.2 ≤ 44 ∧ x.1 ≤ x.2 := hsz.all fun _ _ _ h => h
    have bh : ∀ x ∈ shims, hq x.1 ≤ 39 ∧ hq x.2 ≤ 44 ∧ x.1 ≤ x.2 := hsh.all fun _ _ _ h => h
    refine ⟨m, fn, ⟨by omega, by show fn = 0 ∧ ds.length ≤ 8 ∨ _; rw [l1]; omega⟩, ⟨lsz, lsh, fun x hx => ⟨by have := (bs x hx).1; omega, (bs x hx).2.1⟩, fun x hx => ⟨by have := (bh x hx).1; omega, (bh x hx).2.1⟩, fun x hx => (bs x hx).2.2, fun x hx => (bh x hx).2.2, l2⟩⟩
theorem made19_spec {pl : Plan} {m f a c : Nat} (h : PlanG m f a 44 c pl) (hm : m ≤ 1000) : Then (t__law_made_2 p pl) (fun r => r.1.length = m ∧ ∀ q ∈ r.1, hq q ≤ 180) E := by
  unfold t__law_made_2
  refine st_fold (fun i (s : Ps × List Rat) => s.2.length = i ∧ ∀ q ∈ s.2, hq q ≤ 180) ⟨rfl, by simp⟩ (fun j x s hx hs => ?_) fun s hs => ?_
  · obtain ⟨l1, l2⟩ := hs
    have hj := (List.getElem?_eq_some_iff.mp hx).1
    rw [h.la] at hj
    obtain ⟨b1, b2⟩ := h.sa x (List.mem_of_getElem? hx)
    have nb := hq_neg x.1
    refine st_take19 (by decide) (by decide) fun v2 p2 a2 b2 => ?_
    dsimp only
    refine st_mkP 4 (by omega) (ib_le.mpr (by omega)) (ib_le.mpr (by omega)) (by decide) (by decide) fun z1 e1 h1 => ?_
    refine st_add (by omega) fun z2 e2 h2 => ?_
    refine st_times (by omega) fun z3 e3 h3 => ?_
    refine st_add (by omega) fun z4 e4 h4 => ?_
    refine st_bind (Q := fun z => hq z.2 ≤ 180) ?_ fun z hz => ?_
    · refine st_take19 (by decide) (by decide) fun v5 p5 a5 b5 => ?_
      dsimp only
      split
      · refine st_call some19_spec fun ⟨q, q2⟩ hq' => ?_
        dsimp only at hq' ⊢
        refine st_add (by omega) fun z6 e6 h6 => ?_
        show hq z6 ≤ 180; omega
      · show hq z4 ≤ 180; omega
    · refine st_app (by omega) ?_
      refine ⟨by simp [l1], fun q hq' => ?_⟩
      rcases List.mem_append.mp hq' with e | e
      · exact l2 q e
      · simp at e; subst e; exact hz
  · obtain ⟨l1, l2⟩ := hs
    exact ⟨by rw [l1, h.la], l2⟩
end
end Sr
/-! Q_told -/
/-! a plan's rule, and what a made set is told by it -/
namespace Sr
open PySem PySem.Spec PyProof.Rows L2 L3 L4
/-- the numbers and rows do not grow too far -/
structure NumOk (m f D a c u : Nat) : Prop where
  ga : gA f a ≤ 7601
  gc : gC f a c ≤ 4001
  gl : gL f (D + 2 * f) ≤ 3000000
  g3 : D + 2 * f ≤ 1000
  gk : ∀ k, k < f → gL k (D + 2 * f) ≤ 3000
  bo : bOk m a c u 8900 f (f - 1) 0 0 = true
  la : gC f a c + m * (gA f a + u + 1) ≤ 9000
noncomputable def ruleP (f : Nat) (p : Plan) : List (List Row × List Row) × List Row := ((ruleR f (firstR p, [])).2, (ruleR f (firstR p, [])).1)
noncomputable def toldP (f : Nat) (p : Plan) (made : List Rat) : Option (List Rat) := if SatR (ruleP f p).2 made [] then some (chooseR made (ruleP f p).1 []) else none
def ToldSpec (f : Nat) (p : Plan) (made : List Rat) (o : Option (List Rat)) : Prop := match o with
  | none => ∀ c, c.length = f → ¬ SolR p made c
  | some c => LexMin (SolR p made) f c
theorem told_spec {m f : Nat} {p : Plan} {made : List Rat} (h : PlanL m f p) : ToldSpec f p made (toldP f p made) := by
  obtain ⟨_, _, h1, h2⟩ := rule_spec (made := made) h
  unfold toldP
  by_cases hs : SatR (ruleP f p).2 made []
  · rw [if_pos hs]; exact h2 hs
  · rw [if_neg hs]; exact fun c hc k => hs (h1 c hc k)
theorem ToldSpec.uniq {f : Nat} {p p' : Plan} {made made' : List Rat} {o o' : Option (List Rat)} (h : ToldSpec f p made o) (h' : ToldSpec f p' made' o') (e : ∀ d, d.length = f → (SolR p made d ↔ SolR p' made' d)) : o = o' := by
  cases o with
  | none => cases o' with
    | none => rfl
    | some c => exact (h c h'.len ((e c h'.len).mpr h'.suits)).elim
  | some c => cases o' with
    | none => exact (h' c h.len ((e c h.len).mp h.suits)).elim
    | some c' => rw [LexMin.uniq h h' e]
theorem rule_told {m f a b c u D : Nat} {p : Plan} (h : PlanG m f a b c p) (hm : m ≤ 1000) (hf : f ≤ 1000) (ha : 1 ≤ a) (hbc : b ≤ c) (n : NumOk m f D a c u) (hd : p.2.2.length ≤ D) :
    t_rule_of p = .ok (ruleP f p) ∧ (∀ made, made.length = m → (∀ q ∈ made, hq q ≤ u) → t_chosen_by (ruleP f p) made = (if SatR (ruleP f p).2 made [] then .ok (chooseR made (ruleP f p).1 []) else .exc "NoChoice") ∧ ∀ q ∈ chooseR made (ruleP f p).1 [], hq q ≤ 8900) := by
  have mono : p.2.2.length + 2 * f ≤ D + 2 * f := by omega
  have hc := n.gc
  have hc2 : c ≤ gC f a c := le_gC
  obtain ⟨e1, r1, r2, r3, r4⟩ := rule_ok h hm hf ha hbc (by omega) (by have := n.g3; omega) n.ga n.gc (Nat.le_trans (gL_mono mono) n.gl) (by have := n.g3; omega) fun k hk => Nat.le_trans (gL_mono mono) (n.gk k hk)
  refine ⟨e1, fun made hml hmu => ?_⟩
  obtain ⟨l1, l2, _, _⟩ := rule_spec (made := made) h.len
  have lo := lows_rule (n := f) (rows := firstR p) (steps := []) trivial l2
  have l1' : (ruleR f (firstR p, [])).2.length = f := l1
  exact chosen_ok hm hf (by omega) hmu (Nat.le_refl _) r1 n.la r2 lo (by rw [l1']; exact n.bo) (by rw [l1']; exact Nat.le_refl _)
theorem rule_told2 {m f a b c u D : Nat} {p : Plan} (h : PlanG m f a b c p) (hm : m ≤ 1000) (hf : f ≤ 1000) (ha : 1 ≤ a) (hbc : b ≤ c) (n : NumOk m f D a c u) (hd : p.2.2.length ≤ D) :
    t_rule_of p = .ok (ruleP f p) ∧ (∀ made, made.length = m → (∀ q ∈ made, hq q ≤ u) → t__law_told (ruleP f p) made = .ok (toldP f p made) ∧ (∀ ch, toldP f p made = some ch → ∀ q ∈ ch, hq q ≤ 8900)) := by
  obtain ⟨e1, e2⟩ := rule_told h hm hf ha hbc n hd
  refine ⟨e1, fun made h1 h2 => ?_⟩
  obtain ⟨e3, e4⟩ := e2 made h1 h2
  refine ⟨told_ok e3, fun ch hch => ?_⟩
  unfold toldP at hch
  split at hch
  · cases hch; exact e4
  · cases hch
theorem gC_mono {n a : Nat} : ∀ {c c' : Nat}, c ≤ c' → gC n a c ≤ gC n a c' := by
  induction n generalizing a with
  | zero => exact id
  | succ n ih => intro c c' h; exact ih (by omega)
theorem bOk_mono2 {m a c c' u u' lim : Nat} (hc : c ≤ c') (hu : u ≤ u') : ∀ {r n k T T' : Nat}, T ≤ T' → bOk m a c' u' lim r n k T' = true → bOk m a c u lim r n k T = true
  | 0, _, _, _, _, _, _ => rfl
  | r + 1, n, k, T, T', h, e => by
    unfold bOk at e ⊢
    rw [Bool.and_eq_true, decide_eq_true_eq] at e ⊢
    have h1 := gC_mono (n := n) (a := a) hc
    have h2 : m * (gA n a + u + 1) ≤ m * (gA n a + u' + 1) := Nat.mul_le_mul_left _ (by omega)
    exact ⟨by omega, bOk_mono2 hc hu (by omega) e.2⟩
theorem NumOk.mono {m f D a c c' u u' : Nat} (h : NumOk m f D a c' u') (hc : c ≤ c') (hu : u ≤ u') : NumOk m f D a c u := by
  have h1 := gC_mono (n := f) (a := a) hc
  have h2 : m * (gA f a + u + 1) ≤ m * (gA f a + u' + 1) := Nat.mul_le_mul_left _ (by omega)
  exact ⟨h.ga, by have := h.gc; omega, h.gl, h.g3, h.gk, bOk_mono2 hc hu (Nat.le_refl _) h.bo, by have := h.la; omega⟩
def maxD (f : Nat) : Nat := if f = 3 then 5 else 10
theorem num19' {m f : Nat} (h : (1 ≤ m ∧ m ≤ 3 ∧ f ≤ 3) ∨ m = 6 ∧ f ≤ 2) : NumOk m f (maxD f) 5 (39 + 45 * (m + f)) 220 := by
  rcases h with ⟨h1, h2, h3⟩ | ⟨h1, h2⟩
  · rcases (show m = 1 ∨ m = 2 ∨ m = 3 by omega) with e | e | e <;> rcases (show f = 0 ∨ f = 1 ∨ f = 2 ∨ f = 3 by omega) with e' | e' | e' | e' <;> subst e <;> subst e' <;> exact ⟨by decide, by decide, by decide, by decide, by decide, by decide, by decide⟩
  · subst h1
    rcases (show f = 0 ∨ f = 1 ∨ f = 2 by omega) with e' | e' | e' <;> subst e' <;> exact ⟨by decide, by decide, by decide, by decide, by decide, by decide, by decide⟩
theorem Many19.num {m f d u c : Nat} (h : Many19 m f d) (hu : u ≤ 220) (hc : c ≤ 39 + 45 * (m + f)) : NumOk m f (maxD f) 5 c u := by
  obtain ⟨h1, h2⟩ := h
  exact (num19' (by omega)).mono hc hu
theorem maxD_le {f : Nat} : maxD f ≤ 10 := by unfold maxD; split <;> omega
theorem PlanG.mono {m f a b c c' : Nat} {p : Plan} (h : PlanG m f a b c p) (k : c ≤ c') : PlanG m f a b c' p := ⟨h.la, h.lb, h.sa, h.sb, h.oa, h.ob, fun r hr => (h.sd r hr).mono (Nat.le_refl _) k⟩
theorem Many19.le {m f d : Nat} (h : Many19 m f d) : d ≤ maxD f ∧ m ≤ 6 ∧ 1 ≤ m ∧ f ≤ 3 ∧ m + f ≤ 8 := by
  obtain ⟨h1, h2⟩ := h
  unfold maxD
  split <;> omega
end Sr
/-! P_k25 -/
namespace Sr
open PySem PySem.Spec PyProof.Rows L2 L3 L4
noncomputable def addL (xs ys : List Rat) : List Rat := (xs.zip ys).map fun x => x.1 + x.2
noncomputable def negL (ys : List Rat) : List Rat := ys.map fun y => -y
noncomputable def moveB (xs : List (Rat × Rat)) (by_ : List Rat) : List (Rat × Rat) := (xs.zip by_).map fun x => (x.1.1 + x.2, x.1.2 + x.2)
noncomputable def moveR (mv sh : List Rat) (r : Row) : Row := (r.1, r.2.1, r.2.2 + ((r.1.zip (negL mv) ++ r.2.1.zip (negL sh)).map fun x => x.1 * x.2).sum)
noncomputable def moveP (p : Plan) (mv sh : List Rat) : Plan := (moveB p.1 mv, moveB p.2.1 sh, p.2.2.map (moveR mv sh))
theorem addL_len {xs ys : List Rat} (h : xs.length = ys.length) : (addL xs ys).length = xs.length := by simp [addL, h]
theorem addL_getD : ∀ {xs ys : List Rat} {k : Nat}, xs.length = ys.length → (addL xs ys).getD k 0 = xs.getD k 0 + ys.getD k 0
  | [], [], k, _ => by simp [addL] <;> grind
  | x :: xs, y :: ys, 0, _ => by simp [addL]
  | x :: xs, y :: ys, k + 1, h => by
    have := addL_getD (xs := xs) (ys := ys) (k := k) (by simpa using h)
    have e : addL (x :: xs) (y :: ys) = (x + y) :: addL xs ys := by simp [addL]
    rw [e]; simpa using this
  | [], _ :: _, _, h => by simp at h
  | _ :: _, [], _, h => by simp at h
theorem negL_getD {xs : List Rat} {k : Nat} : (negL xs).getD k 0 = -xs.getD k 0 := by
  unfold negL
  rw [List.getD_eq_getElem?_getD, List.getD_eq_getElem?_getD, List.getElem?_map]
  cases xs[k]? with
  | none => simp <;> grind
  | some x => rfl
theorem dotR_add : ∀ {xs ys zs : List Rat}, ys.length = zs.length → dotR xs (addL ys zs) = dotR xs ys + dotR xs zs
  | [], ys, zs, _ => by simp [dotR_nil]; grind
  | x :: xs, [], [], _ => by simp [addL, dotR_nil2]; grind
  | x :: xs, y :: ys, z :: zs, h => by
    have := dotR_add (xs := xs) (ys := ys) (zs := zs) (by simpa using h)
    have e : addL (y :: ys) (z :: zs) = (y + z) :: addL ys zs := by simp [addL]
    rw [e, dotR_cons, dotR_cons, dotR_cons, this]; grind
  | _ :: _, [], _ :: _, h => by simp at h
  | _ :: _, _ :: _, [], h => by simp at h
theorem dotR_neg : ∀ {xs ys : List Rat}, dotR xs (negL ys) = -dotR xs ys
  | [], ys => by simp [dotR_nil] <;> grind
  | x :: xs, [] => by simp [negL, dotR_nil2] <;> grind
  | x :: xs, y :: ys => by
    have := dotR_neg (xs := xs) (ys := ys)
    have e : negL (y :: ys) = (-y) :: negL ys := by simp [negL]
    rw [e, dotR_cons, dotR_cons, this]; grind
theorem ev_move {r : Row} {mv sh made c : List Rat} (h1 : made.length = mv.length) (h2 : c.length = sh.length) : evR (moveR mv sh r) (addL made mv) (addL c sh) = evR r made c := by
  have e : (moveR mv sh r).2.2 = r.2.2 + (dotR r.1 (negL mv) + dotR r.2.1 (negL sh)) := by
    unfold moveR dotR
    rw [List.map_append, List.sum_append]
  unfold evR
  rw [e]
  show dotR r.1 (addL made mv) + dotR r.2.1 (addL c sh) + _ = _
  rw [dotR_add h1, dotR_add h2, dotR_neg, dotR_neg]
  grind
theorem moveB_len {xs : List (Rat × Rat)} {ys : List Rat} (h : xs.length = ys.length) : (moveB xs ys).length = xs.length := by simp [moveB, h]
theorem moveB_get {xs : List (Rat × Rat)} {ys : List Rat} {k : Nat} (h1 : k < xs.length) (h2 : k < ys.length) (h3 : k < (moveB xs ys).length) : (moveB xs ys)[k] = (xs[k].1 + ys.getD k 0, xs[k].2 + ys.getD k 0) := by
  simp [moveB, List.getD_eq_getElem?_getD, h2]
theorem sol_move {p : Plan} {mv sh made c : List Rat} (h1 : made.length = mv.length) (h2 : c.length = sh.length) (h3 : p.2.1.length = sh.length) : SolR (moveP p mv sh) (addL made mv) (addL c sh) ↔ SolR p made c := by
  unfold SolR
  have hl : (moveP p mv sh).2.1.length = p.2.1.length := moveB_len h3
  have g : ∀ k (hk : k < p.2.1.length) (hk' : k < (moveP p mv sh).2.1.length), (moveP p mv sh).2.1[k] = (p.2.1[k].1 + sh.getD k 0, p.2.1[k].2 + sh.getD k 0) := fun k hk hk' => by
    have hs : k < sh.length := by omega
    exact moveB_get hk hs hk'
  constructor
  · rintro ⟨a, b⟩
    refine ⟨fun d hd => ?_, fun k hk => ?_⟩
    · have := a (moveR mv sh d) (List.mem_map.mpr ⟨d, hd, rfl⟩)
      rwa [ev_move h1 h2] at this
    · have := b k (by omega)
      rw [g k hk (by omega), addL_getD h2] at this
      exact ⟨by grind, by grind⟩
  · rintro ⟨a, b⟩
    refine ⟨fun d hd => ?_, fun k hk => ?_⟩
    · obtain ⟨d', h, e⟩ := List.mem_map.mp hd
      subst e
      rw [ev_move h1 h2]
      exact a d' h
    · have := b k (by omega)
      rw [g k (by omega) hk, addL_getD h2]
      exact ⟨by grind, by grind⟩
theorem add_neg {c sh : List Rat} (h : c.length = sh.length) : addL (addL c (negL sh)) sh = c := by
  have hn : c.length = (negL sh).length := by simp [negL, h]
  refine List.ext_getElem (by rw [addL_len (by rw [addL_len hn]; exact h), addL_len hn]) fun i a b => ?_
  have e : ∀ (xs : List Rat) (hi : i < xs.length), xs[i] = xs.getD i 0 := fun xs hi => by rw [List.getD_eq_getElem?_getD, List.getElem?_eq_getElem hi]; rfl
  rw [e, e, addL_getD (by rw [addL_len hn]; exact h), addL_getD hn, negL_getD]
  grind
theorem told_move {p : Plan} {f : Nat} {mv sh made : List Rat} {o : Option (List Rat)} (h1 : made.length = mv.length) (h2 : sh.length = f) (h3 : p.2.1.length = f) (h : ToldSpec f p made o) : ToldSpec f (moveP p mv sh) (addL made mv) (o.map fun c => addL c sh) := by
  have back : ∀ c', c'.length = f → SolR (moveP p mv sh) (addL made mv) c' → SolR p made (addL c' (negL sh)) := fun c' hc' hs => by
    have e := add_neg (c := c') (sh := sh) (by omega)
    rw [← e] at hs
    exact (sol_move h1 (by rw [addL_len (by simp [negL]; omega)]; omega) (by omega)).mp hs
  cases o with
  | none => exact fun c' hc' hs => h _ (by rw [addL_len (by simp [negL]; omega)]; exact hc') (back c' hc' hs)
  | some c =>
    refine ⟨by rw [addL_len (by rw [h.len, h2]), h.len], (sol_move h1 (by rw [h.len, h2]) (by omega)).mpr h.suits, fun c' hc' hs k hk hj => ?_⟩
    have hn : c'.length = (negL sh).length := by simp [negL]; omega
    have lc := h.len
    have := h.least (addL c' (negL sh)) (by rw [addL_len hn]; exact hc') (back c' hc' hs) k hk fun j hjk => by
      have := hj j hjk
      rw [addL_getD (by omega)] at this
      rw [addL_getD hn, negL_getD, this]
      grind
    rw [addL_getD hn, negL_getD] at this
    rw [addL_getD (by omega)]
    grind
section
variable {E : Str → Prop}
theorem addL_ok {xs ys : List Rat} {a b : Nat} (h1 : ∀ q ∈ xs, hq q ≤ a) (h2 : ∀ q ∈ ys, hq q ≤ b) (hab : a + b ≤ 9000) {α : Type} {P : α → Prop} {k : List Rat → R α} (hl : xs.length ≤ 1000) (h : (∀ q ∈ addL xs ys, hq q ≤ a + b + 1) → Then (k (addL xs ys)) P E) :
    Then ((tMapG (fun x21 : Rat × Rat => ((rAdd x21.1 x21.2).nx.bind fun r22 => .ok r22 : R Rat)) (xs.zip ys)).bind k) P E := by
  refine st_mapF (fun x => x.1 + x.2) (by simp; omega) (fun x hx => ?_) (h fun q hq' => ?_)
  · have g1 := h1 x.1 (List.of_mem_zip hx).1
    have g2 := h2 x.2 (List.of_mem_zip hx).2
    exact eq_of_then (st_add (by omega) fun z ez hz => ez)
  · obtain ⟨x, hx, e⟩ := List.mem_map.mp hq'
    subst e
    have g1 := h1 x.1 (List.of_mem_zip hx).1
    have g2 := h2 x.2 (List.of_mem_zip hx).2
    have := hq_add x.1 x.2
    omega
theorem moveB_ok {xs : List (Rat × Rat)} {ys : List Rat} (h1 : ∀ x ∈ xs, hq x.1 ≤ 44 ∧ hq x.2 ≤ 44) (h2 : ∀ q ∈ ys, hq q ≤ 39) (hl : xs.length ≤ 1000) :
    tMapG (fun x4 : (Rat × Rat) × Rat => ((rAdd x4.1.1 x4.2).nx.bind fun r5 => (rAdd x4.1.2 x4.2).nx.bind fun r6 => .ok (r5, r6) : R (Rat × Rat))) (xs.zip ys) = .ok (moveB xs ys) ∧ ∀ x ∈ moveB xs ys, hq x.1 ≤ 84 ∧ hq x.2 ≤ 84 := by
  constructor
  · refine eq_of_then ?_
    have := st_mapF (E := fun _ => False) (P := fun z => z = moveB xs ys) (f := fun x4 : (Rat × Rat) × Rat => ((rAdd x4.1.1 x4.2).nx.bind fun r5 => (rAdd x4.1.2 x4.2).nx.bind fun r6 => .ok (r5, r6) : R (Rat × Rat))) (xs := xs.zip ys) (k := .ok) (fun x => (x.1.1 + x.2, x.1.2 + x.2)) (by simp; omega) (fun x hx => by
      obtain ⟨a, b⟩ := h1 x.1 (List.of_mem_zip hx).1
      have c := h2 x.2 (List.of_mem_zip hx).2
      refine eq_of_then (st_add (by omega) fun z1 e1 _ => st_add (by omega) fun z2 e2 _ => ?_)
      subst e1 e2; rfl) rfl
    rwa [show ∀ t : R (List (Rat × Rat)), t.bind .ok = t from fun t => by cases t <;> rfl] at this
  · intro x hx
    obtain ⟨y, hy, e⟩ := List.mem_map.mp hx
    subst e
    obtain ⟨a, b⟩ := h1 y.1 (List.of_mem_zip hy).1
    have c := h2 y.2 (List.of_mem_zip hy).2
    have := hq_add y.1.1 y.2
    have := hq_add y.1.2 y.2
    exact ⟨by show hq (y.1.1 + y.2) ≤ 84; omega, by show hq (y.1.2 + y.2) ≤ 84; omega⟩
theorem moveR_ok {r : Row} {mv sh : List Rat} {m f : Nat} (hr : RowG m f 5 39 r) (l1 : mv.length = m) (l2 : sh.length = f) (hm : m ≤ 6) (hf : f ≤ 3) (h1 : ∀ q ∈ mv, hq q ≤ 39) (h2 : ∀ q ∈ sh, hq q ≤ 39) :
    ((tCat (r.1.zip mv) (r.2.1.zip sh)).bind fun v14 => (tFold (fun (s15 : Rat) x16 => ((rMul x16.1 (-x16.2)).nx.bind fun r17 => (rAdd s15 r17).nx.bind fun r18 => .ok (r18) : R Rat)) v14 (r.2.2)).bind fun s19 => .ok s19 : R Rat) = .ok (moveR mv sh r).2.2 ∧ hq (moveR mv sh r).2.2 ≤ 39 + 45 * (m + f) := by
  have n1 : ∀ q ∈ negL mv, hq q ≤ 39 := fun q hq' => by
    obtain ⟨y, hy, e⟩ := List.mem_map.mp hq'
    subst e; rw [hq_neg]; exact h1 y hy
  have n2 : ∀ q ∈ negL sh, hq q ≤ 39 := fun q hq' => by
    obtain ⟨y, hy, e⟩ := List.mem_map.mp hq'
    subst e; rw [hq_neg]; exact h2 y hy
  have c1 := cost_le hr.sa n1
  have c2 := cost_le hr.sb n2
  have e1 : (negL mv).length = m := by simp [negL, l1]
  have e2 : (negL sh).length = f := by simp [negL, l2]
  rw [e1] at c1
  rw [e2] at c2
  have hc := hr.sc
  obtain ⟨f1, f2⟩ := sumfold_ok (zs := r.1.zip (negL mv) ++ r.2.1.zip (negL sh)) (s := r.2.2) (by rw [cost_app]; omega)
  rw [cost_app] at f2
  refine ⟨?_, by show hq (r.2.2 + _) ≤ _; omega⟩
  have ez : r.1.zip (negL mv) ++ r.2.1.zip (negL sh) = (r.1.zip mv ++ r.2.1.zip sh).map fun x => (x.1, -x.2) := by
    unfold negL
    rw [List.map_append, List.zip_map_right, List.zip_map_right]
    rfl
  have fm : ∀ (xs : List (Rat × Rat)) (s : Rat), tFold (fun (s15 : Rat) x16 => ((rMul x16.1 (-x16.2)).nx.bind fun r17 => (rAdd s15 r17).nx.bind fun r18 => .ok (r18) : R Rat)) xs s = tFold (fun (s5 : Rat) (x6 : Rat × Rat) => ((rMul x6.1 x6.2).nx.bind fun r7 => (rAdd s5 r7).nx.bind fun r8 => .ok (r8) : R Rat)) (xs.map fun x => (x.1, -x.2)) s := by
    intro xs
    induction xs with
    | nil => intro s; rfl
    | cons x xs ih =>
      intro s
      rw [List.map_cons]
      unfold tFold
      congr 1
      funext t
      exact ih t
  refine eq_of_then (st_cat (by have := hr.la; have := hr.lb; simp; omega) ?_)
  rw [fm, ← ez, f1]
  rfl
theorem moved_ok {p : Plan} {m f d : Nat} {mv sh : List Rat} (hM : Many19 m f d) (h : PlanG m f 5 44 39 p) (hd : p.2.2.length = d) (l1 : mv.length = m) (l2 : sh.length = f) (h1 : ∀ q ∈ mv, hq q ≤ 39) (h2 : ∀ q ∈ sh, hq q ≤ 39) : t__law_moved_2 p mv sh = .ok (moveP p mv sh) ∧ PlanG m f 5 84 (39 + 45 * (m + f)) (moveP p mv sh) := by
  obtain ⟨g1, g2, g3, g4, g5⟩ := hM.le
  have g6 := maxD_le (f := f)
  obtain ⟨b1, b2⟩ := moveB_ok (xs := p.1) (ys := mv) h.sa h1 (by rw [h.la]; omega)
  obtain ⟨b3, b4⟩ := moveB_ok (xs := p.2.1) (ys := sh) h.sb h2 (by rw [h.lb]; omega)
  have ord : ∀ {xs : List (Rat × Rat)} {ys : List Rat}, (∀ x ∈ xs, x.1 ≤ x.2) → ∀ x ∈ moveB xs ys, x.1 ≤ x.2 := fun ho x hx => by
    obtain ⟨y, hy, e⟩ := List.mem_map.mp hx
    subst e
    have := ho y.1 (List.of_mem_zip hy).1
    show y.1.1 + y.2 ≤ y.1.2 + y.2
    grind
  constructor
  · refine eq_of_then ?_
    unfold t__law_moved_2
    rw [b1, bind_okS, b3, bind_okS]
    refine st_fold (fun i (s : List Row) => s = (p.2.2.take i).map (moveR mv sh)) rfl (fun j x s hx hs => ?_) fun s hs => ?_
    · obtain ⟨hj, ex⟩ := List.getElem?_eq_some_iff.mp hx
      obtain ⟨r1, r2⟩ := moveR_ok (h.sd x (ex ▸ List.getElem_mem hj)) l1 l2 g2 g4 h1 h2
      have : Then ((tCat (x.1.zip mv) (x.2.1.zip sh)).bind fun v14 => (tFold (fun (s15 : Rat) x16 => ((rMul x16.1 (-x16.2)).nx.bind fun r17 => (rAdd s15 r17).nx.bind fun r18 => .ok (r18) : R Rat)) v14 (x.2.2)).bind fun s19 => (tApp s (x.1, x.2.1, s19)).bind fun demands20 => .ok (demands20) : R (List Row)) (fun s => s = (p.2.2.take (j + 1)).map (moveR mv sh)) (fun _ => False) := by
        obtain ⟨v, ev, r1'⟩ : ∃ v, tCat (x.1.zip mv) (x.2.1.zip sh) = .ok v ∧ (tFold (fun (s15 : Rat) x16 => ((rMul x16.1 (-x16.2)).nx.bind fun r17 => (rAdd s15 r17).nx.bind fun r18 => .ok (r18) : R Rat)) v (x.2.2)).bind (fun s19 => .ok s19) = .ok (moveR mv sh x).2.2 := by
          cases hv : tCat (x.1.zip mv) (x.2.1.zip sh) with
          | ok v => rw [hv] at r1; exact ⟨v, rfl, r1⟩
          | exc c => rw [hv] at r1; cases r1
          | bad => rw [hv] at r1; cases r1
        have r1'' : tFold (fun (s15 : Rat) x16 => ((rMul x16.1 (-x16.2)).nx.bind fun r17 => (rAdd s15 r17).nx.bind fun r18 => .ok (r18) : R Rat)) v (x.2.2) = .ok (moveR mv sh x).2.2 := by
          rwa [show ∀ t : R Rat, t.bind (fun s19 => .ok s19) = t from fun t => by cases t <;> rfl] at r1'
        rw [ev, bind_okS, r1'', bind_okS]
        refine st_app (by rw [hs]; simp; omega) ?_
        show _ = _
        rw [hs, List.take_succ_eq_append_getElem hj, List.map_append, ex]
        rfl
      exact (this.imp fun _ h => h).mono (fun _ h => h) (fun _ h => h.elim)
    · show _ = _
      rw [hs, List.take_length]
      rfl
  · refine ⟨by rw [← h.la]; exact moveB_len (by rw [h.la, l1]), by rw [← h.lb]; exact moveB_len (by rw [h.lb, l2]), b2, b4, ord h.oa, ord h.ob, fun r hr => ?_⟩
    obtain ⟨r0, hr0, e⟩ := List.mem_map.mp hr
    subst e
    have g := h.sd r0 hr0
    exact ⟨g.la, g.lb, g.sa, g.sb, (moveR_ok g l1 l2 g2 g4 h1 h2).2⟩
end
theorem law25 (ns : List Int) : Then (t_law_11 ns) (fun b => b = true) (fun _ => False) := by
  unfold t_law_11
  refine st_call plan19_spec fun p ⟨m, f, hM, hp⟩ => ?_
  obtain ⟨g1, g2, g3, g4, g5⟩ := hM.le
  obtain ⟨e1, t1⟩ := rule_told2 (hp.mono (show 39 ≤ 44 by decide)) (by omega) (by omega) (by decide) (Nat.le_refl _) (hM.num (u := 180) (c := 44) (by decide) (by omega)) g1
  refine st_callE e1 ?_
  obtain ⟨s19, es⟩ := state19_spec (ns := ns) (k := 19) (by omega) (by omega)
  refine st_callE es ?_
  refine st_lc (fun _ _ => True) (fun q => hq q ≤ 39) (by rw [hp.la]; omega) trivial (fun j x s hx hs => ?_) fun mv l1 h1 _ => ?_
  · refine st_call some19_spec fun ⟨q, q2⟩ h => ?_
    exact ⟨⟨q, rfl, h⟩, trivial⟩
  refine st_lc (fun _ _ => True) (fun q => hq q ≤ 39) (by rw [hp.lb]; omega) trivial (fun j x s hx hs => ?_) fun sh l2 h2 _ => ?_
  · refine st_call some19_spec fun ⟨q, q2⟩ h => ?_
    exact ⟨⟨q, rfl, h⟩, trivial⟩
  obtain ⟨mv, mv'⟩ := mv
  obtain ⟨sh, sh'⟩ := sh
  dsimp only at l1 h1 l2 h2 ⊢
  rw [hp.la] at l1
  rw [hp.lb] at l2
  obtain ⟨m1, m2⟩ := moved_ok hM hp rfl l1 l2 h1 h2
  refine st_callE m1 ?_
  have ld : (moveP p mv sh).2.2.length ≤ maxD f := by
    show (p.2.2.map _).length ≤ _
    rw [List.length_map]; exact g1
  obtain ⟨e2, t2⟩ := rule_told2 m2 (by omega) (by omega) (by decide) (by omega) (hM.num (u := 220) (Nat.le_refl _) (Nat.le_refl _)) ld
  refine st_callE e2 ?_
  refine st_range (by omega) (by omega) (by simp [tMax, tMin]; split <;> (try split) <;> omega) (by simp [tMax, tMin]; split <;> (try split) <;> omega) ?_
  refine st_loop (fun _ _ => True) (fun _ => True) (fun _ => False) trivial (fun _ _ => trivial) (fun j x s hx hs => ?_) (fun _ _ => rfl) (fun _ h => h.elim)
  have hx1 : 0 ≤ x ∧ x ≤ 1000 := by
    have := mem_rgI.mp (List.mem_of_getElem? hx)
    have hmm : tMax (24 : Int) (tMin (36 : Int) (tLen ns)) ≤ 36 := by simp [tMax, tMin]; split <;> (try split) <;> omega
    omega
  obtain ⟨st, est⟩ := state19_spec (ns := ns) (k := x) hx1.1 hx1.2
  refine st_callE est ?_
  refine st_call (made19_spec hp (by omega)) fun ⟨made, q⟩ ⟨k1, k2⟩ => ?_
  dsimp only at k1 k2 ⊢
  obtain ⟨u1, u2⟩ := t1 made k1 k2
  refine st_callE u1 ?_
  refine addL_ok k2 h1 (by decide) (by omega) fun s1 => ?_
  have la : (addL made mv).length = m := by rw [addL_len (by omega)]; exact k1
  obtain ⟨v1, v2⟩ := t2 (addL made mv) la s1
  refine st_callE v1 ?_
  have key := (told_move (mv := mv) (sh := sh) (by omega) l2 hp.lb (told_spec (made := made) hp.len)).uniq (told_spec (made := addL made mv) m2.len) fun _ _ => Iff.rfl
  rw [← key]
  cases ho : toldP f p made with
  | none => simp
  | some ch =>
    have hch := u2 ch ho
    simp only [Option.isNone_some, Bool.false_eq_true, if_false, Option.map_some]
    refine st_get rfl ?_
    have hl := told_spec (made := made) hp.len
    rw [ho] at hl
    have hl : LexMin (SolR p made) f ch := hl
    refine addL_ok hch h2 (by decide) (by rw [hl.len]; omega) fun _ => ?_
    simp
theorem law_k25_holds (ns : List Int) (h : ns.length ≤ 63) : Then (m_law_11 [scr ns]) (fun r => r.1 = .d (.bool true)) (fun _ => False) := by
  refine (fn_t_law_11.spec (law25 ns)).imp ?_
  rintro _ ⟨b, rfl, rfl⟩
  rfl
end Sr
/-! F_k25 -/
open PySem PySem.W PyProof.Rows
set_option maxRecDepth 100000 in
set_option maxHeartbeats 0 in
theorem PySem.Challenge.cw_shimright_k25_whole_moved_bounds_holds : PySem.Challenge.rw_shimright_k25_whole_moved_bounds.Holds := by
  w_on; o_law; k_head; (case hw => w_witness2)
  k_fill
  refine L2.walk_of (l := PySem.Challenge.rw_shimright_k25_whole_moved_bounds) (n := 63) (k := 8) (x := "script") (CX := fun _ => L2.CX0) (sp := fun w => L3.spT _ false (fun _ => none) 1 [] Sr.m_law_11) rfl (by decide) rfl ⟨rfl, by decide, by decide⟩ (fun w h Y => PySem.W.kIn_of Y) ?F (fun _ _ a ns hl hO hS => L3.law_sp hO hS (Sr.law_k25_holds ns hl)) (fun _ _ _ _ _ h => h)
  case F =>
    intro w mg fa h KX G hmg
    refine' Sr.all_mk KX G hmg ?a0 ?l0 ?c0 ?k0 ?a1 ?l1 ?c1 ?k1 ?a2 ?l2 ?c2 ?k2 ?a3 ?l3 ?c3 ?k3 ?a4 ?l4 ?c4 ?k4 ?a5 ?l5 ?c5 ?k5 ?a6 ?l6 ?c6 ?k6 ?a7 ?l7 ?c7 ?k7 ?a8 ?l8 ?c8 ?k8 ?a9 ?l9 ?c9 ?k9 ?a10 ?l10 ?c10 ?k10 ?a11 ?l11 ?c11 ?k11 ?a12 ?l12 ?c12 ?k12 ?a13 ?l13 ?c13 ?k13 ?a14 ?l14 ?c14 ?k14 ?a15 ?l15 ?c15 ?k15 ?a16 ?l16 ?c16 ?k16 ?a17 ?l17 ?c17 ?k17 ?a18 ?l18 ?c18 ?k18 ?a19 ?l19 ?c19 ?k19 ?a20 ?l20 ?c20 ?k20 ?a21 ?l21 ?c21 ?k21 ?a22 ?l22 ?c22 ?k22 ?a23 ?l23 ?c23 ?k23 ?a24 ?l24 ?c24 ?k24 ?a25 ?l25 ?c25 ?k25 ?a26 ?l26 ?c26 ?k26 ?a27 ?l27 ?c27 ?k27 ?a28 ?l28 ?c28 ?k28 ?a29 ?l29 ?c29 ?k29 ?a30 ?l30 ?c30 ?k30 ?z0 ?z1 ?z2 ?z3 ?z4 ?z5 ?z6 ?z7 ?z8 ?y0 ?r0 ?y1 ?r1 ?y2 ?r2 ?t0 ?t1 ?t2 ?t3 ?t4 ?tx5 ?t7
    (case a0 => k_is)
    (case l0 => k_is)
    (case c0 => k_is)
    (case k0 => k_is)
    (case a1 => k_is)
    (case l1 => k_is)
    (case c1 => k_is)
    (case k1 => k_is)
    (case a2 => k_is)
    (case l2 => k_is)
    (case c2 => k_is)
    (case k2 => k_is)
    (case a3 => k_is)
    (case l3 => k_is)
    (case c3 => k_is)
    (case k3 => k_is)
    (case a4 => k_is)
    (case l4 => k_is)
    (case c4 => k_is)
    (case k4 => k_is)
    (case a5 => k_is)
    (case l5 => k_is)
    (case c5 => k_is)
    (case k5 => k_is)
    (case a6 => k_is)
    (case l6 => k_is)
    (case c6 => k_is)
    (case k6 => k_is)
    (case a7 => k_is)
    (case l7 => k_is)
    (case c7 => k_is)
    (case k7 => k_is)
    (case a8 => k_is)
    (case l8 => k_is)
    (case c8 => k_is)
    (case k8 => k_is)
    (case a9 => k_is)
    (case l9 => k_is)
    (case c9 => k_is)
    (case k9 => k_is)
    (case a10 => k_is)
    (case l10 => k_is)
    (case c10 => k_is)
    (case k10 => k_is)
    (case a11 => k_is)
    (case l11 => k_is)
    (case c11 => k_is)
    (case k11 => k_is)
    (case a12 => k_is)
    (case l12 => k_is)
    (case c12 => k_is)
    (case k12 => k_is)
    (case a13 => k_is)
    (case l13 => k_is)
    (case c13 => k_is)
    (case k13 => k_is)
    (case a14 => k_is)
    (case l14 => k_is)
    (case c14 => k_is)
    (case k14 => k_is)
    (case a15 => k_is)
    (case l15 => k_is)
    (case c15 => k_is)
    (case k15 => k_is)
    (case a16 => k_is)
    (case l16 => k_is)
    (case c16 => k_is)
    (case k16 => k_is)
    (case a17 => k_is)
    (case l17 => k_is)
    (case c17 => k_is)
    (case k17 => k_is)
    (case a18 => k_is)
    (case l18 => k_is)
    (case c18 => k_is)
    (case k18 => k_is)
    (case a19 => k_is)
    (case l19 => k_is)
    (case c19 => k_is)
    (case k19 => k_is)
    (case a20 => k_is)
    (case l20 => k_is)
    (case c20 => k_is)
    (case k20 => k_is)
    (case a21 => k_is)
    (case l21 => k_is)
    (case c21 => k_is)
    (case k21 => k_is)
    (case a22 => k_is)
    (case l22 => k_is)
    (case c22 => k_is)
    (case k22 => k_is)
    (case a23 => k_is)
    (case l23 => k_is)
    (case c23 => k_is)
    (case k23 => k_is)
    (case a24 => k_is)
    (case l24 => k_is)
    (case c24 => k_is)
    (case k24 => k_is)
    (case a25 => k_is)
    (case l25 => k_is)
    (case c25 => k_is)
    (case k25 => k_is)
    (case a26 => k_is)
    (case l26 => k_is)
    (case c26 => k_is)
    (case k26 => k_is)
    (case a27 => k_is)
    (case l27 => k_is)
    (case c27 => k_is)
    (case k27 => k_is)
    (case a28 => k_is)
    (case l28 => k_is)
    (case c28 => k_is)
    (case k28 => k_is)
    (case a29 => k_is)
    (case l29 => k_is)
    (case c29 => k_is)
    (case k29 => k_is)
    (case a30 => k_is)
    (case l30 => k_is)
    (case c30 => k_is)
    (case k30 => k_is)
    (case z0 => k_is)
    (case z1 => k_is)
    (case z2 => k_is)
    (case z3 => k_is)
    (case z4 => k_is)
    (case z5 => k_is)
    (case z6 => k_is)
    (case z7 => k_is)
    (case z8 => k_is)
    (case y0 => k_is)
    (case r0 => k_is)
    (case y1 => k_is)
    (case r1 => k_is)
    (case y2 => k_is)
    (case r2 => k_is)
    (case t0 => k_is)
    (case t1 => k_is)
    (case t2 => k_exc)
    (case t3 => k_is)
    (case t4 => k_is)
    (case tx5 => exact ⟨by k_is, by k_is, by k_is, by k_is, by k_is, by k_is, by k_is, by k_is⟩)
    (case t7 => exact PySem.W.exm_ref (by k_is) (by k_is) (by k_is) (by k_is))
