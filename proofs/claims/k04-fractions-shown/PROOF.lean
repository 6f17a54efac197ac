import PyProof.Rows.All
import Wide.All
import OpenK.AllK
import Wide.FinOn
import HandS.ForMost
import PyProof.Rows.All
import Wide.All
import OpenK.AllK
import Wide.FinOn
import KE.KIsAll
import KE.KTryMore
import HandS.Base
import HandS.Call
import HandS.List
import HandS.Exc
import HandS.ExcOwn
import HandS.ExcValue
import HandS.ExcIs
import HandS.IsInst
import HandS.ForExc
import HandS.Wide
import HandS.Walk
import HandS.Flow
import HandS.Deep
import HandS.Steps
import HandS.Zip
import HandS.Style
import HandS.TryOnly
import KE.KDictList
import KE.KDictZip
import HandS.Dict
import HandS.Iter
import HandS.More
import HandS.Conv
import HandS.RevRange
import HandS.Rev
import PySem.Challenge.RW_shimright_k04_fractions_shown
set_option Elab.async false
set_option linter.all false
set_option maxRecDepth 100000
set_option maxHeartbeats 4000000
set_option autoImplicit false
set_option exponentiation.threshold 10000
namespace L2
open PySem PySem.Spec PyProof.Rows
def ExK (C a : Addr) : HO := .ext fun h => ∃ (oe : Obj) (vs : Array Value), h.get? a = some oe ∧ Zc (.ref C) none oe ∧ oe.data = .fields vs
section
variable {X : Cx} {pins : List (Addr × Obj)} {σ : St} {H : Hp} {s : Shared}
end
end L2
namespace L2
open PySem PySem.Spec PyProof.Rows
section
variable {X : Cx} {x n : Str} {c : Value} {i : Nat} {body suite : List Stmt} {b₀ : Stmt} {np pos pos' : Pos} {tb : WX → TS} {ts : TS}
end
end L2
namespace L2
open PySem PySem.Spec PyProof.Rows
section
variable {X : Cx}
end
end L2
namespace L3
open PySem PySem.Spec PyProof.Rows L2
inductive R (α : Type) : Type where
  | ok (a : α) | exc (c : Str) | bad
def R.bind {α β : Type} (r : R α) (f : α → R β) : R β := match r with | .ok a => f a | .exc c => .exc c | .bad => .bad
def Then {α : Type} (r : R α) (P : α → Prop) (E : Str → Prop) : Prop := match r with | .ok a => P a | .exc c => E c | .bad => False
theorem then_bind {α β : Type} {r : R α} {f : α → R β} {P : β → Prop} {E : Str → Prop} : Then (r.bind f) P E ↔ Then r (fun a => Then (f a) P E) E := by
  cases r <;> exact Iff.rfl
theorem Then.mono {α : Type} {r : R α} {P P' : α → Prop} {E E' : Str → Prop} (h : Then r P E) (hp : ∀ a, P a → P' a) (he : ∀ c, E c → E' c) : Then r P' E' := by
  cases r with
  | ok a => exact hp a h
  | exc c => exact he c h
  | bad => exact h
theorem Then.imp {α : Type} {r : R α} {P P' : α → Prop} {E : Str → Prop} (h : Then r P E) (hp : ∀ a, P a → P' a) : Then r P' E := h.mono hp fun _ x => x
def guard (b : Bool) {α : Type} (r : R α) : R α := if b = true then r else .bad
theorem then_guard {α : Type} {b : Bool} {r : R α} {P : α → Prop} {E : Str → Prop} : Then (guard b r) P E ↔ b = true ∧ Then r P E := by
  unfold guard
  cases b
  · constructor
    · intro h; exact h.elim
    · intro h; exact nomatch h.1
  · exact ⟨fun h => ⟨rfl, h⟩, fun h => h.2⟩
def ofO {α : Type} (o : Option α) : R α := match o with | some a => .ok a | none => .bad
theorem then_ofO {α : Type} {o : Option α} {P : α → Prop} {E : Str → Prop} : Then (ofO o) P E ↔ ∃ a, o = some a ∧ P a := by
  cases o with
  | none => exact ⟨fun h => h.elim, fun ⟨_, h, _⟩ => nomatch h⟩
  | some a => exact ⟨fun h => ⟨a, rfl, h⟩, fun ⟨b, h, q⟩ => by cases h; exact q⟩
abbrev D := PyData
inductive T where
  | d (x : PyData)
  | ol (xs : List T)
  | ot (xs : List T)
  | od (ks : List Key) (xs : List T)
  | fd (a : Addr) (ks : List Key) (xs : List T)
  | fk (a : Addr) (o : Obj) (kvs : List (Key × V))
  | no (v : V)
  | rd (xs : List PyData)
  | ex (x : Str)
  | ob (x : Str) (fs : List Str) (xs : List T)
abbrev Env := List (Option T)
abbrev MEx := Env → R (T × Env)
def clK (K : PySem.W.Frag) (x : Str) : Option Addr := match PySem.W.nsIn K PySem.mainGlobals x with
  | some (some (.ref C)) => some C
  | _ => none
section
variable (K : PySem.W.Frag) (F : Addr → Prop) (H : Hp)
def RdL (a : Addr) (vs : List V) : Prop := (∃ o, H a = some (.frz o (.lst vs))) ∨ ∃ (o : Obj) (its : Array Value) (n : Nat), K.lookup a = some o ∧ o.cls = .type "list" ∧ o.dict = none ∧ o.data = .seq its n ∧ its.size ≤ sizeLine ∧ Vals vs its.toList
mutual
inductive Fz : V → PyData → Prop
  | non : Fz .non .none
  | bl (b : Bool) : Fz (.bl b) (.bool b)
  | int (i : Int) : Fz (.int i) (.int i)
  | str (x : Str) : Fz (.str x) (.str x)
  | lst {a : Addr} {vs : List V} {ds : List PyData} : H a = some (.lst vs) → F a → FzAll vs ds → Fz (.ref a) (.list ds)
  | tup {a : Addr} {vs : List V} {ds : List PyData} : SqT K H a vs → FzAll vs ds → Fz (.ref a) (.tuple ds)
inductive FzAll : List V → List PyData → Prop
  | nil : FzAll [] []
  | cons {v : V} {vs : List V} {d : PyData} {ds : List PyData} : Fz v d → FzAll vs ds → FzAll (v :: vs) (d :: ds)
end
mutual
inductive Rp : V → T → List Addr → Prop
  | d {v : V} {x : PyData} : Fz K F H v x → Rp v (.d x) []
  | ol {a : Addr} {vs : List V} {ts : List T} {A : List Addr} : H a = some (.lst vs) → RpAll vs ts A → Rp (.ref a) (.ol ts) (a :: A)
  | ot {a : Addr} {vs : List V} {ts : List T} {A : List Addr} : H a = some (.tup vs) → RpAll vs ts A → Rp (.ref a) (.ot ts) A
  | od {a : Addr} {kvs : List (Key × V)} {ks : List Key} {ts : List T} {A : List Addr} : H a = some (.dK kvs) → kvs.map Prod.fst = ks → ks.Nodup → RpAll (kvs.map Prod.snd) ts A → Rp (.ref a) (.od ks ts) (a :: A)
  | fd {a : Addr} {o : Obj} {kvs : List (Key × V)} {ks : List Key} {ts : List T} {A : List Addr} : H a = some (.frz o (.dK kvs)) → kvs.map Prod.fst = ks → ks.Nodup → RpAll (kvs.map Prod.snd) ts A → Rp (.ref a) (.fd a ks ts) A
  | fk {a : Addr} {o : Obj} {kvs : List (Key × V)} : H a = some (.frz o (.dK kvs)) → Rp (.ref a) (.fk a o kvs) []
  | no (v : V) : Rp v (.no v) []
  | rd {a : Addr} {vs : List V} {ds : List PyData} : RdL K H a vs → FzAll K F H vs ds → Rp (.ref a) (.rd ds) []
  | ob {a C dx : Addr} {x : Str} {kvs : List (Str × V)} {fs : List Str} {ts : List T} {A : List Addr} : H a = some (.ins C dx kvs) → clK K x = some C → kvs.map Prod.fst = fs → RpAll (kvs.map Prod.snd) ts A → Rp (.ref a) (.ob x fs ts) (a :: A)
  | ex {a C : Addr} {x : Str} : H a = some (ExK C a) → clK K x = some C → ExcC K C → Rp (.ref a) (.ex x) []
inductive RpAll : List V → List T → List Addr → Prop
  | nil : RpAll [] [] []
  | cons {v : V} {vs : List V} {t : T} {ts : List T} {A B : List Addr} : Rp v t A → RpAll vs ts B → RpAll (v :: vs) (t :: ts) (A ++ B)
end
inductive Sl : List (Option V) → Env → List Addr → Prop
  | nil : Sl [] [] []
  | skip {o : Option V} {sl : List (Option V)} {ρ : Env} {A : List Addr} : Sl sl ρ A → Sl (o :: sl) (none :: ρ) A
  | cons {v : V} {t : T} {sl : List (Option V)} {ρ : Env} {A B : List Addr} : Rp K F H v t A → Sl sl ρ B → Sl (some v :: sl) (some t :: ρ) (A ++ B)
end
section
variable {K : PySem.W.Frag} {F F' : Addr → Prop} {H H' : Hp}
theorem RdL.sq {a : Addr} {vs : List V} (h : RdL K H a vs) : SqL K H a vs := by
  rcases h with ⟨o, h⟩ | h
  · exact .inl (.inr ⟨o, h⟩)
  · exact .inr h
def Still : HO → Prop
  | .tup _ => True
  | .frz _ _ => True
  | .ext _ => True
  | _ => False
structure Mono (F F' : Addr → Prop) (H H' : Hp) : Prop where
  lst : ∀ a vs, H a = some (.lst vs) → F a → H' a = some (.lst vs) ∧ F' a
  still : ∀ a u, H a = some u → Still u → H' a = some u
theorem Mono.same (s : Same H H') : Mono F F H H' := ⟨fun _ _ h f => ⟨s _ _ h, f⟩, fun _ _ h _ => s _ _ h⟩
theorem Mono.sub (f : ∀ a, H a ≠ none → F a → F' a) : Mono F F' H H := ⟨fun _ _ h x => ⟨h, f _ (by rw [h]; exact fun z => nomatch z) x⟩, fun _ _ h _ => h⟩
theorem sqT_mono (s : ∀ a u, H a = some u → Still u → H' a = some u) {a : Addr} {vs : List V} (h : SqT K H a vs) : SqT K H' a vs := by
  rcases h with (h | ⟨o, h⟩) | h
  · exact .inl (.inl (s _ _ h trivial))
  · exact .inl (.inr ⟨o, s _ _ h trivial⟩)
  · exact .inr h
theorem RdL.mono (s : ∀ a u, H a = some u → Still u → H' a = some u) {a : Addr} {vs : List V} (h : RdL K H a vs) : RdL K H' a vs := by
  rcases h with ⟨o, h⟩ | h
  · exact .inl ⟨o, s _ _ h trivial⟩
  · exact .inr h
mutual
theorem Fz.mono (m : Mono F F' H H') : ∀ {v : V} {x : PyData}, Fz K F H v x → Fz K F' H' v x
  | _, _, .non => .non
  | _, _, .bl b => .bl b
  | _, _, .int i => .int i
  | _, _, .str x => .str x
  | _, _, .lst h f a => .lst (m.lst _ _ h f).1 (m.lst _ _ h f).2 (FzAll.mono m a)
  | _, _, .tup h a => .tup (sqT_mono m.still h) (FzAll.mono m a)
theorem FzAll.mono (m : Mono F F' H H') : ∀ {vs : List V} {xs : List PyData}, FzAll K F H vs xs → FzAll K F' H' vs xs
  | _, _, .nil => .nil
  | _, _, .cons h a => .cons (Fz.mono m h) (FzAll.mono m a)
end
mutual
theorem Rp.mono (m : Mono F F' H H') : ∀ {v : V} {t : T} {A : List Addr}, Rp K F H v t A → (∀ a ∈ A, H' a = H a) → Rp K F' H' v t A
  | _, _, _, .d h, _ => .d (h.mono m)
  | _, _, _, .ol h r, k => .ol ((k _ List.mem_cons_self).trans h) (RpAll.mono m r fun a ha => k a (List.mem_cons_of_mem _ ha))
  | _, _, _, .ot h r, k => .ot (m.still _ _ h trivial) (RpAll.mono m r k)
  | _, _, _, .od h e d r, k => .od ((k _ List.mem_cons_self).trans h) e d (RpAll.mono m r fun a ha => k a (List.mem_cons_of_mem _ ha))
  | _, _, _, .fk h, _ => .fk (m.still _ _ h trivial)
  | _, _, _, .no v, _ => .no v
  | _, _, _, .fd h e d r, k => .fd (m.still _ _ h trivial) e d (RpAll.mono m r k)
  | _, _, _, .ob h c e r, k => .ob ((k _ List.mem_cons_self).trans h) c e (RpAll.mono m r fun a ha => k a (List.mem_cons_of_mem _ ha))
  | _, _, _, .rd h r, _ => .rd (h.mono m.still) (FzAll.mono m r)
  | _, _, _, .ex h c e, _ => .ex (m.still _ _ h trivial) c e
theorem RpAll.mono (m : Mono F F' H H') : ∀ {vs : List V} {ts : List T} {A : List Addr}, RpAll K F H vs ts A → (∀ a ∈ A, H' a = H a) → RpAll K F' H' vs ts A
  | _, _, _, .nil, _ => .nil
  | _, _, _, .cons h r, k => .cons (Rp.mono m h fun a ha => k a (List.mem_append_left _ ha)) (RpAll.mono m r fun a ha => k a (List.mem_append_right _ ha))
end
theorem Sl.mono (m : Mono F F' H H') : ∀ {sl : List (Option V)} {ρ : Env} {A : List Addr}, Sl K F H sl ρ A → (∀ a ∈ A, H' a = H a) → Sl K F' H' sl ρ A
  | _, _, _, .nil, _ => .nil
  | _, _, _, .skip h, k => .skip (Sl.mono m h k)
  | _, _, _, .cons h r, k => .cons (h.mono m fun a ha => k a (List.mem_append_left _ ha)) (Sl.mono m r fun a ha => k a (List.mem_append_right _ ha))
theorem Sl.len : ∀ {sl : List (Option V)} {ρ : Env} {A : List Addr}, Sl K F H sl ρ A → sl.length = ρ.length
  | _, _, _, .nil => rfl
  | _, _, _, .skip h => by rw [List.length_cons, List.length_cons, h.len]
  | _, _, _, .cons _ h => by rw [List.length_cons, List.length_cons, h.len]
theorem FzAll.len : ∀ {vs : List V} {xs : List PyData}, FzAll K F H vs xs → vs.length = xs.length
  | _, _, .nil => rfl
  | _, _, .cons _ h => by rw [List.length_cons, List.length_cons, h.len]
theorem RpAll.len : ∀ {vs : List V} {ts : List T} {A : List Addr}, RpAll K F H vs ts A → vs.length = ts.length
  | _, _, _, .nil => rfl
  | _, _, _, .cons _ h => by rw [List.length_cons, List.length_cons, h.len]
theorem FzAll.get : ∀ {vs : List V} {xs : List PyData}, FzAll K F H vs xs → ∀ {i : Nat} {x : PyData}, xs[i]? = some x → ∃ v, vs[i]? = some v ∧ Fz K F H v x
  | _, _, .nil, i, x, h => by simp at h
  | _, _, .cons (v := v) a r, 0, x, h => by
    simp at h; subst h
    exact ⟨v, rfl, a⟩
  | _, _, .cons a r, i + 1, x, h => by
    obtain ⟨v, e, q⟩ := r.get (i := i) (x := x) (by simpa using h)
    exact ⟨v, by simpa using e, q⟩
theorem RpAll.get : ∀ {vs : List V} {ts : List T} {A : List Addr}, RpAll K F H vs ts A → ∀ {i : Nat} {t : T}, ts[i]? = some t → ∃ v B, vs[i]? = some v ∧ Rp K F H v t B ∧ ∀ a, B.count a ≤ A.count a
  | _, _, _, .nil, i, x, h => by simp at h
  | _, _, _, .cons (v := v) (A := A1) a r, 0, x, h => by
    simp at h; subst h
    exact ⟨v, A1, rfl, a, fun b => by rw [List.count_append]; omega⟩
  | _, _, _, .cons a r, i + 1, x, h => by
    obtain ⟨v, B, e, q, z⟩ := r.get (i := i) (t := x) (by simpa using h)
    exact ⟨v, B, by simpa using e, q, fun b => by have := z b; rw [List.count_append]; omega⟩
mutual
theorem Rp.own : ∀ {v : V} {t : T} {A : List Addr}, Rp K F H v t A → ∀ a ∈ A, ∃ u, H a = some u ∧ ¬ Still u
  | _, _, _, .d _, a, h => by simp at h
  | _, _, _, .ol (vs := vs) e r, a, h => by
    rcases List.mem_cons.mp h with z | z
    · exact ⟨_, (by rw [z]; exact e), (by intro y; cases y)⟩
    · exact RpAll.own r a z
  | _, _, _, .ot _ r, a, h => RpAll.own r a h
  | _, _, _, .od (kvs := kvs) e _ _ r, a, h => by
    rcases List.mem_cons.mp h with z | z
    · exact ⟨_, (by rw [z]; exact e), (by intro y; cases y)⟩
    · exact RpAll.own r a z
  | _, _, _, .ob e _ _ r, a, h => by
    rcases List.mem_cons.mp h with z | z
    · exact ⟨_, (by rw [z]; exact e), (by intro y; cases y)⟩
    · exact RpAll.own r a z
  | _, _, _, .fd _ _ _ r, a, h => RpAll.own r a h
  | _, _, _, .fk _, a, h => by simp at h
  | _, _, _, .no _, a, h => by simp at h
  | _, _, _, .rd _ _, a, h => by simp at h
  | _, _, _, .ex _ _ _, a, h => by simp at h
theorem RpAll.own : ∀ {vs : List V} {ts : List T} {A : List Addr}, RpAll K F H vs ts A → ∀ a ∈ A, ∃ u, H a = some u ∧ ¬ Still u
  | _, _, _, .nil, a, h => by simp at h
  | _, _, _, .cons x r, a, h => by
    rcases List.mem_append.mp h with z | z
    · exact Rp.own x a z
    · exact RpAll.own r a z
end
theorem Sl.own : ∀ {sl : List (Option V)} {ρ : Env} {A : List Addr}, Sl K F H sl ρ A → ∀ a ∈ A, ∃ u, H a = some u ∧ ¬ Still u
  | _, _, _, .nil, a, h => by simp at h
  | _, _, _, .skip h, a, z => h.own a z
  | _, _, _, .cons x r, a, h => by
    rcases List.mem_append.mp h with z | z
    · exact x.own a z
    · exact r.own a z
end
structure C0 where
  H0 : Hp
  A0 : List Addr
  F0 : Addr → Prop
def Fok (c : C0) (A : List Addr) : Addr → Prop := fun a => (c.F0 a ∨ c.H0 a = none ∨ a ∈ c.A0) ∧ a ∉ A
structure KeepC (c : C0) (H : Hp) : Prop where
  keep : ∀ a o, c.H0 a = some o → a ∉ c.A0 → H a = some o
  there : ∀ a, H a = none → c.H0 a = none
structure StW (K : PySem.W.Frag) (c : C0) (H : Hp) (sl : List (Option V)) (ρ : Env) (A : List Addr) : Prop where
  uniq : ∀ a, A.count a ≤ 1
  slots : Sl K (Fok c A) H sl ρ A
  own : ∀ a ∈ A, a ∈ c.A0 ∨ c.H0 a = none
  keep : KeepC c H
def StR (K : PySem.W.Frag) (c : C0) (H : Hp) (sl : List (Option V)) (ρ : Env) : Prop := ∃ A, StW K c H sl ρ A
section
variable {K : PySem.W.Frag} {c : C0} {H H' : Hp} {sl : List (Option V)} {ρ : Env} {A : List Addr}
theorem StR.keep (h : StR K c H sl ρ) : KeepC c H := let ⟨_, w⟩ := h; w.keep
theorem KeepC.grow (k : KeepC c H) (s : Same H H') : KeepC c H' := ⟨fun a o e n => s _ _ (k.keep a o e n), fun a e => k.there a (s.free e)⟩
theorem StW.grow (w : StW K c H sl ρ A) (s : Same H H') : StW K c H' sl ρ A :=
  ⟨w.uniq, w.slots.mono (.same s) fun a ha => by
    obtain ⟨u, e, _⟩ := w.slots.own a ha
    rw [e, s _ _ e], w.own, w.keep.grow s⟩
theorem StR.grow (h : StR K c H sl ρ) (s : Same H H') : StR K c H' sl ρ := let ⟨A, w⟩ := h; ⟨A, w.grow s⟩
theorem same_upd {p : Addr} {o : HO} (h : H p = none) : Same H (upd H p o) := fun b x e => by rw [upd_ne (ne_of_none e h)]; exact e
theorem Fok.sub {B : List Addr} (h : ∀ a, B.count a ≤ A.count a) : ∀ a, Fok c A a → Fok c B a := fun a ⟨x, y⟩ => ⟨x, fun z => y (by
  have := List.count_pos_iff.mpr z
  have := h a
  exact List.count_pos_iff.mp (by omega))⟩
theorem StW.drop {o : Option V} {t : Option T} (w : StW K c H (o :: sl) (t :: ρ) A) : ∃ B, StW K c H sl ρ B ∧ ∀ a, B.count a ≤ A.count a := by
  obtain ⟨u, s, ow, k⟩ := w
  cases s with
  | skip s => exact ⟨A, ⟨u, s, ow, k⟩, fun _ => Nat.le_refl _⟩
  | cons x r =>
    rename_i A1 B1
    have hb : ∀ a, B1.count a ≤ (A1 ++ B1).count a := fun a => by rw [List.count_append]; omega
    exact ⟨B1, ⟨fun a => Nat.le_trans (hb a) (u a), r.mono (.sub fun a _ => Fok.sub hb a) fun _ _ => rfl, fun a ha => ow a (List.mem_append_right _ ha), k⟩, hb⟩
theorem StR.drop {o : Option V} {t : Option T} (h : StR K c H (o :: sl) (t :: ρ)) : StR K c H sl ρ := let ⟨_, w⟩ := h; let ⟨B, w', _⟩ := w.drop; ⟨B, w'⟩
theorem StR.len (h : StR K c H sl ρ) : sl.length = ρ.length := let ⟨_, w⟩ := h; w.slots.len
theorem StW.pushD {v : V} {x : PyData} (w : StW K c H sl ρ A) (f : Fz K (Fok c A) H v x) : StW K c H (some v :: sl) (some (.d x) :: ρ) A := ⟨w.uniq, .cons (A := []) (.d f) w.slots, w.own, w.keep⟩
theorem StW.top {v : V} {t : T} (w : StW K c H (some v :: sl) (some t :: ρ) A) : ∃ A1 B, A = A1 ++ B ∧ Rp K (Fok c A) H v t A1 ∧ Sl K (Fok c A) H sl ρ B := by
  obtain ⟨u, s, ow, k⟩ := w
  cases s with
  | cons x r => exact ⟨_, _, rfl, x, r⟩
theorem StW.topD {v : V} {x : PyData} (w : StW K c H (some v :: sl) (some (.d x) :: ρ) A) : Fz K (Fok c A) H v x ∧ StW K c H sl ρ A := by
  obtain ⟨u, s, ow, k⟩ := w
  cases s with
  | cons x r =>
    cases x with
    | d f => exact ⟨f, u, r, ow, k⟩
end
section
variable {K : PySem.W.Frag} {F F' : Addr → Prop} {H H' : Hp}
structure Around1 (K : PySem.W.Frag) (F : Addr → Prop) (H : Hp) (i : Nat) (sl : List (Option V)) (ρ : Env) (B : List Addr) : Prop where
  put : ∀ {F' : Addr → Prop} {H' : Hp}, Mono F F' H H' → (∀ a ∈ B, H' a = H a) → ∀ {v' : V} {t' : T} {A2 : List Addr}, Rp K F' H' v' t' A2 →
    ∃ C, Sl K F' H' (sl.set i (some v')) (ρ.set i (some t')) C ∧ ∀ a, C.count a = A2.count a + B.count a
  gone : ∀ o : Option V, ∃ C, Sl K F H (sl.set i o) (ρ.set i none) C ∧ ∀ a, C.count a = B.count a
theorem Sl.around : ∀ {sl : List (Option V)} {ρ : Env} {A : List Addr}, Sl K F H sl ρ A → ∀ {i : Nat}, i < sl.length → ∃ B, (∀ a, B.count a ≤ A.count a) ∧ Around1 K F H i sl ρ B ∧
    ∀ t, ρ[i]? = some (some t) → ∃ v A1, sl[i]? = some (some v) ∧ Rp K F H v t A1 ∧ ∀ a, A.count a = A1.count a + B.count a
  | _, _, _, .nil, i, h => by simp at h
  | _, _, _, .skip (o := o) (sl := sl) (ρ := ρ) (A := A) r, 0, h => by
    refine ⟨A, fun _ => Nat.le_refl _, ⟨fun m k v' t' A2 x => ⟨A2 ++ A, .cons x (r.mono m k), fun a => by rw [List.count_append]⟩, fun o' => ⟨A, .skip r, fun _ => rfl⟩⟩, fun t e => by simp at e⟩
  | _, _, _, .cons (v := v) (t := t) (A := A) (B := B) x r, 0, h => by
    refine ⟨B, fun a => by rw [List.count_append]; omega, ⟨fun m k v' t' A2 y => ⟨A2 ++ B, .cons y (r.mono m k), fun a => by rw [List.count_append]⟩, fun o' => ⟨B, .skip r, fun _ => rfl⟩⟩, fun t' e => ?_⟩
    have e' : t = t' := by simpa using e
    subst e'
    exact ⟨v, A, rfl, x, fun a => by rw [List.count_append]⟩
  | _, _, _, .skip (o := o) (A := A) r, i + 1, h => by
    obtain ⟨B, hb, ar, q⟩ := r.around (i := i) (by simpa using h)
    refine ⟨B, hb, ⟨fun m k v' t' A2 x => ?_, fun o' => ?_⟩, fun t e => ?_⟩
    · obtain ⟨C, s, z⟩ := ar.put m k x
      exact ⟨C, .skip s, z⟩
    · obtain ⟨C, s, z⟩ := ar.gone o'
      exact ⟨C, .skip s, z⟩
    · obtain ⟨v, A1, e1, x, z⟩ := q t (by simpa using e)
      exact ⟨v, A1, by simpa using e1, x, z⟩
  | _, _, _, .cons (v := w) (t := t0) (A := A0) (B := B0) y r, i + 1, h => by
    obtain ⟨B, hb, ar, q⟩ := r.around (i := i) (by simpa using h)
    refine ⟨A0 ++ B, fun a => by rw [List.count_append, List.count_append]; have := hb a; omega, ⟨fun m k v' t' A2 x => ?_, fun o' => ?_⟩, fun t e => ?_⟩
    · obtain ⟨C, s, z⟩ := ar.put m (fun a ha => k a (List.mem_append_right _ ha)) x
      exact ⟨A0 ++ C, .cons (y.mono m fun a ha => k a (List.mem_append_left _ ha)) s, fun a => by rw [List.count_append, List.count_append, z a]; omega⟩
    · obtain ⟨C, s, z⟩ := ar.gone o'
      exact ⟨A0 ++ C, .cons y s, fun a => by rw [List.count_append, List.count_append, z a]⟩
    · obtain ⟨v, A1, e1, x, z⟩ := q t (by simpa using e)
      exact ⟨v, A1, by simpa using e1, x, fun a => by rw [List.count_append, List.count_append, z a]; omega⟩
theorem Sl.raise : ∀ {xs : List (Option V)} {as : Env} {ys : List (Option V)} {bs : Env} {v : V} {t : T} {A : List Addr}, xs.length = as.length → Sl K F H (xs ++ some v :: ys) (as ++ some t :: bs) A →
    ∃ C, Sl K F H (some v :: (xs ++ ys)) (some t :: (as ++ bs)) C ∧ ∀ a, C.count a = A.count a
  | [], [], _, _, _, _, A, _, h => ⟨A, h, fun _ => rfl⟩
  | o :: xs, a :: as, ys, bs, v, t, _, hl, h => by
    have hl' : xs.length = as.length := by simpa using hl
    cases h with
    | skip r =>
      obtain ⟨C, s, z⟩ := r.raise hl'
      cases s with
      | cons x s => exact ⟨_, .cons x (.skip s), z⟩
    | cons y r =>
      rename_i u t0 A1 B1
      obtain ⟨C, s, z⟩ := r.raise hl'
      cases s with
      | cons x s =>
        rename_i A2 B2
        exact ⟨_, .cons x (.cons y s), fun a => by have := z a; simp only [List.count_append] at this ⊢; omega⟩
  | [], _ :: _, _, _, _, _, _, hl, _ => by simp at hl
  | _ :: _, [], _, _, _, _, _, hl, _ => by simp at hl
end
section
variable {K : PySem.W.Frag} {c : C0} {H H' : Hp} {sl : List (Option V)} {ρ : Env} {A : List Addr}
theorem StW.remake {sl' : List (Option V)} {ρ' : Env} {C : List Addr} (w : StW K c H sl ρ A) (hc : ∀ a, C.count a ≤ A.count a) (s : Sl K (Fok c A) H sl' ρ' C) : StW K c H sl' ρ' C :=
  ⟨fun a => Nat.le_trans (hc a) (w.uniq a), s.mono (.sub fun a _ => Fok.sub hc a) fun _ _ => rfl, fun a ha => w.own a (by
    have := List.count_pos_iff.mpr ha
    have := hc a
    exact List.count_pos_iff.mp (by omega)), w.keep⟩
theorem StR.raise {xs : List (Option V)} {as : Env} {ys : List (Option V)} {bs : Env} {v : V} {t : T} (hl : xs.length = as.length) (h : StR K c H (xs ++ some v :: ys) (as ++ some t :: bs)) : StR K c H (some v :: (xs ++ ys)) (some t :: (as ++ bs)) := by
  obtain ⟨A, w⟩ := h
  obtain ⟨C, s, z⟩ := w.slots.raise hl
  exact ⟨C, w.remake (fun a => Nat.le_of_eq (z a)) s⟩
theorem Fok.fresh {p : Addr} (hp : H p = none) : Mono (Fok c A) (Fok c (p :: A)) H H :=
  .sub fun a ha ⟨x, y⟩ => ⟨x, fun z => by
    rcases List.mem_cons.mp z with e | e
    · exact ha (by rw [e]; exact hp)
    · exact y e⟩
theorem StW.not_mem_of_none {p : Addr} (w : StW K c H sl ρ A) (hp : H p = none) : p ∉ A := fun ha => by
  obtain ⟨u, e, _⟩ := w.slots.own p ha
  rw [hp] at e; cases e
end
def SimE (K : PySem.W.Frag) (E : Str → Hp → Prop) (gr : Bool) (te : TE) (m : MEx) : Prop :=
  ∀ (c : C0) (H : Hp) (tv : List (Option V)) (td : Env) (σ : L2.St) (ρ : Env), tv.length = td.length → StR K c H (tv ++ σ) (td ++ ρ) → ∀ Q : VK,
    Then (m ρ) (fun r => ∀ v H', (gr = true → Same H H') → StR K c H' (some v :: (tv ++ σ)) (some r.1 :: (td ++ r.2)) → Q v H') (fun x => ∀ H', KeepC c H' → E x H') → te σ H Q
structure QE (X : Cx) (E : Str → Hp → Prop) (gr : Bool) (e : Expr) (te : TE) (m : MEx) : Prop where
  pe : PE X e te
  sim : SimE X.K E gr te m
end L3
namespace L3
open PySem PySem.Spec PyProof.Rows L2
mutual
def T.fz : T → Option PyData
  | .d x => some x
  | .ol ts => (T.fzAll ts).map PyData.list
  | .ot ts => (T.fzAll ts).map PyData.tuple
  | _ => none
def T.fzAll : List T → Option (List PyData)
  | [] => some []
  | t :: r => (T.fz t).bind fun x => (T.fzAll r).map fun xs => x :: xs
end
mutual
def T.toD : T → Option PyData
  | .d x => some x
  | .ol ts => (T.toDAll ts).map PyData.list
  | .ot ts => (T.toDAll ts).map PyData.tuple
  | .rd ds => some (.list ds)
  | .od _ _ => none
  | .fd _ _ _ => none
  | .fk _ _ _ => none
  | .no _ => none
  | .ex _ => none
  | .ob _ _ _ => none
def T.toDAll : List T → Option (List PyData)
  | [] => some []
  | t :: r => (T.toD t).bind fun x => (T.toDAll r).map fun xs => x :: xs
end
section
variable {K : PySem.W.Frag} {F F' : Addr → Prop} {H H' : Hp}
mutual
theorem Rp.freeze : ∀ {t : T} {v : V} {A : List Addr} {x : PyData}, Rp K F H v t A → (∀ a, H a ≠ none → F a → F' a) → (∀ a ∈ A, F' a) → t.fz = some x → Fz K F' H v x
  | .d y, _, _, x, .d h, f, _, e => by
    have e' : y = x := Option.some.inj (by simpa [T.fz] using e)
    subst e'
    exact h.mono (.sub f)
  | .ol ts, _, _, x, .ol h r, f, k, e => by
    simp only [T.fz, Option.map_eq_some_iff] at e
    obtain ⟨xs, e1, e2⟩ := e
    subst e2
    exact .lst h (k _ List.mem_cons_self) (RpAll.freeze r f (fun a ha => k a (List.mem_cons_of_mem _ ha)) e1)
  | .ot ts, _, _, x, .ot h r, f, k, e => by
    simp only [T.fz, Option.map_eq_some_iff] at e
    obtain ⟨xs, e1, e2⟩ := e
    subst e2
    exact .tup (.of h) (RpAll.freeze r f k e1)
  | .od _ _, _, _, x, _, _, _, e => by simp [T.fz] at e
  | .fd _ _ _, _, _, x, _, _, _, e => by simp [T.fz] at e
  | .fk _ _ _, _, _, x, _, _, _, e => by simp [T.fz] at e
  | .no _, _, _, x, _, _, _, e => by simp [T.fz] at e
  | .ob _ _ _, _, _, x, _, _, _, e => by simp [T.fz] at e
  | .rd _, _, _, x, _, _, _, e => by simp [T.fz] at e
theorem RpAll.freeze : ∀ {ts : List T} {vs : List V} {A : List Addr} {xs : List PyData}, RpAll K F H vs ts A → (∀ a, H a ≠ none → F a → F' a) → (∀ a ∈ A, F' a) → T.fzAll ts = some xs → FzAll K F' H vs xs
  | [], _, _, xs, .nil, _, _, e => by
    have e' : [] = xs := Option.some.inj (by simpa [T.fzAll] using e)
    subst e'
    exact .nil
  | t :: r, _, _, xs, .cons h hr, f, k, e => by
    simp only [T.fzAll, Option.bind_eq_some_iff, Option.map_eq_some_iff] at e
    obtain ⟨y, e1, ys, e2, e3⟩ := e
    subst e3
    exact .cons (Rp.freeze h f (fun a ha => k a (List.mem_append_left _ ha)) e1) (RpAll.freeze hr f (fun a ha => k a (List.mem_append_right _ ha)) e2)
end
mutual
theorem Fz.dp : ∀ {v : V} {x : PyData}, Fz K F H v x → Dp K H v x
  | _, _, .non => .non
  | _, _, .bl b => .bl b
  | _, _, .int i => .int i
  | _, _, .str x => .str x
  | _, _, .lst h _ a => .lst (.of h) (FzAll.dp a)
  | _, _, .tup h a => .tup h (FzAll.dp a)
theorem FzAll.dp : ∀ {vs : List V} {xs : List PyData}, FzAll K F H vs xs → DpAll K H vs xs
  | _, _, .nil => .nil
  | _, _, .cons h a => .cons (Fz.dp h) (FzAll.dp a)
end
mutual
theorem Rp.dp : ∀ {t : T} {v : V} {A : List Addr} {x : PyData}, Rp K F H v t A → t.toD = some x → Dp K H v x
  | .d y, _, _, x, .d h, e => by
    have e' : y = x := Option.some.inj (by simpa [T.toD] using e)
    subst e'
    exact h.dp
  | .ol ts, _, _, x, .ol h r, e => by
    simp only [T.toD, Option.map_eq_some_iff] at e
    obtain ⟨xs, e1, e2⟩ := e
    subst e2
    exact .lst (.of h) (RpAll.dp r e1)
  | .ot ts, _, _, x, .ot h r, e => by
    simp only [T.toD, Option.map_eq_some_iff] at e
    obtain ⟨xs, e1, e2⟩ := e
    subst e2
    exact .tup (.of h) (RpAll.dp r e1)
  | .rd ds, _, _, x, .rd h r, e => by
    have e' : PyData.list ds = x := Option.some.inj (by simpa [T.toD] using e)
    subst e'
    exact .lst h.sq r.dp
  | .od _ _, _, _, x, _, e => by simp [T.toD] at e
  | .fd _ _ _, _, _, x, _, e => by simp [T.toD] at e
  | .fk _ _ _, _, _, x, _, e => by simp [T.toD] at e
  | .no _, _, _, x, _, e => by simp [T.toD] at e
  | .ob _ _ _, _, _, x, _, e => by simp [T.toD] at e
  | .ex _, _, _, x, _, e => by simp [T.toD] at e
theorem RpAll.dp : ∀ {ts : List T} {vs : List V} {A : List Addr} {xs : List PyData}, RpAll K F H vs ts A → T.toDAll ts = some xs → DpAll K H vs xs
  | [], _, _, xs, .nil, e => by
    have e' : [] = xs := Option.some.inj (by simpa [T.toDAll] using e)
    subst e'
    exact .nil
  | t :: r, _, _, xs, .cons h hr, e => by
    simp only [T.toDAll, Option.bind_eq_some_iff, Option.map_eq_some_iff] at e
    obtain ⟨y, e1, ys, e2, e3⟩ := e
    subst e3
    exact .cons (Rp.dp h e1) (RpAll.dp hr e2)
end
end
section
variable {X : Cx} {E : Str → Hp → Prop}
theorem app_at {α : Type} {xs ys : List α} {n i : Nat} (h : xs.length = n) : (xs ++ ys)[n + i]? = ys[i]? := by
  subst h
  rw [List.getElem?_append_right (by omega)]
  congr 1
  omega
theorem app_set {α : Type} {ys : List α} {i : Nat} {y : α} : ∀ {xs : List α} {n : Nat}, xs.length = n → (xs ++ ys).set (n + i) y = xs ++ ys.set i y
  | [], n, h => by subst h; simp
  | x :: xs, n, h => by
    subst h
    have e : (x :: xs).length + i = (xs.length + i) + 1 := by simp; omega
    rw [e]
    show x :: (xs ++ ys).set (xs.length + i) y = _
    rw [app_set rfl]
    rfl
theorem set_self {α : Type} : ∀ {xs : List α} {i : Nat} {a : α}, xs[i]? = some a → xs.set i a = xs
  | [], _, _, h => by simp at h
  | x :: xs, 0, a, h => by simp at h; subst h; rfl
  | x :: xs, i + 1, a, h => by
    show x :: xs.set i a = x :: xs
    rw [set_self (by simpa using h)]
def mC (x : PyData) : MEx := fun ρ => .ok (.d x, ρ)
def mVar (i : Nat) : MEx := fun ρ => match ρ[i]? with
  | some (some (.d x)) => .ok (.d x, ρ)
  | some (some t) => (match t.fz with | some x => .ok (.d x, ρ.set i (some (.d x))) | none => .bad)
  | _ => .bad
def mMove (i : Nat) : MEx := fun ρ => match ρ[i]? with
  | some (some t) => .ok (t, ρ.set i none)
  | _ => .bad
theorem sim_var {K : PySem.W.Frag} (i : Nat) : SimE K E true (tVar i) (mVar i) := by
  intro c H tv td σ ρ hl st Q q
  obtain ⟨A, w⟩ := st
  have hlen := w.slots.len
  unfold mVar at q
  cases e : ρ[i]? with
  | none => rw [e] at q; exact q.elim
  | some o =>
    cases o with
    | none => rw [e] at q; exact q.elim
    | some t =>
      have hi : i < ρ.length := (List.getElem?_eq_some_iff.mp e).1
      have hi2 : tv.length + i < (tv ++ σ).length := by
        rw [hlen, List.length_append]; omega
      have e2 : (td ++ ρ)[tv.length + i]? = some (some t) := by rw [app_at hl.symm, e]
      obtain ⟨B, hb, ar, get⟩ := w.slots.around hi2
      obtain ⟨v, A1, e3, x, hc⟩ := get t e2
      rw [app_at rfl] at e3
      rw [e] at q
      have key : ∀ y : PyData, t.fz = some y → (∀ v H', (true = true → Same H H') → StR K c H' (some v :: (tv ++ σ)) (some (.d y) :: (td ++ ρ.set i (some (.d y)))) → Q v H') → tVar i σ H Q := by
        intro y ey qq
        refine ⟨v, e3, qq v H (fun _ => Same.refl H) ?_⟩
        have hBA : ∀ a, B.count a ≤ A.count a := hb
        have fsub : ∀ a, H a ≠ none → Fok c A a → Fok c B a := fun a _ => Fok.sub hBA a
        have own1 : ∀ a ∈ A1, Fok c B a := fun a ha => by
          have h1 := List.count_pos_iff.mpr ha
          have h2 := hc a
          have h3 := w.uniq a
          refine ⟨?_, fun z => ?_⟩
          · rcases w.own a (List.count_pos_iff.mp (by omega)) with z | z
            · exact .inr (.inr z)
            · exact .inr (.inl z)
          · have := List.count_pos_iff.mpr z
            omega
        have fx : Fz K (Fok c B) H v y := x.freeze fsub own1 ey
        obtain ⟨C, s, z⟩ := ar.put (Mono.sub fsub) (fun _ _ => rfl) (.d fx)
        have hsl : (tv ++ σ).set (tv.length + i) (some v) = tv ++ σ := by
          rw [app_set rfl, set_self e3]
        rw [hsl, app_set hl.symm] at s
        have zc : ∀ a, C.count a = B.count a := fun a => by rw [z a]; simp
        refine ⟨C, ⟨fun a => ?_, ?_, fun a ha => ?_, w.keep⟩⟩
        · rw [zc a]; exact Nat.le_trans (hBA a) (w.uniq a)
        · have m : Mono (Fok c B) (Fok c C) H H := .sub fun a _ => Fok.sub (fun a => Nat.le_of_eq (zc a)) a
          exact .cons (A := []) (.d (fx.mono m)) (s.mono m fun _ _ => rfl)
        · refine w.own a (List.count_pos_iff.mp ?_)
          have := List.count_pos_iff.mpr ha
          have := zc a
          have := hBA a
          omega
      cases t with
      | d y =>
        refine key y (by simp [T.fz]) fun v' H' sm' st' => ?_
        have e4 : ρ.set i (some (.d y)) = ρ := set_self e
        rw [e4] at st'
        exact q v' H' sm' st'
      | ol ts =>
        dsimp only at q
        cases ez : (T.ol ts).fz with
        | none => rw [ez] at q; exact q.elim
        | some y => rw [ez] at q; exact key y ez q
      | ot ts =>
        dsimp only at q
        cases ez : (T.ot ts).fz with
        | none => rw [ez] at q; exact q.elim
        | some y => rw [ez] at q; exact key y ez q
      | od ks ts =>
        dsimp only at q
        cases ez : (T.od ks ts).fz with
        | none => rw [ez] at q; exact q.elim
        | some y => rw [ez] at q; exact key y ez q
      | fd a0 ks ts =>
        dsimp only at q
        cases ez : (T.fd a0 ks ts).fz with
        | none => rw [ez] at q; exact q.elim
        | some y => rw [ez] at q; exact key y ez q
      | fk a0 o0 ks =>
        dsimp only at q
        cases ez : (T.fk a0 o0 ks).fz with
        | none => rw [ez] at q; exact q.elim
        | some y => rw [ez] at q; exact key y ez q
      | no v0 =>
        dsimp only at q
        cases ez : (T.no v0).fz with
        | none => rw [ez] at q; exact q.elim
        | some y => rw [ez] at q; exact key y ez q
      | rd ds =>
        dsimp only at q
        cases ez : (T.rd ds).fz with
        | none => rw [ez] at q; exact q.elim
        | some y => rw [ez] at q; exact key y ez q
      | ex xn =>
        dsimp only at q
        cases ez : (T.ex xn).fz with
        | none => rw [ez] at q; exact q.elim
        | some y => rw [ez] at q; exact key y ez q
      | ob xn fs ts =>
        dsimp only at q
        cases ez : (T.ob xn fs ts).fz with
        | none => rw [ez] at q; exact q.elim
        | some y => rw [ez] at q; exact key y ez q
theorem sim_move {K : PySem.W.Frag} (i : Nat) : SimE K E true (tVar i) (mMove i) := by
  intro c H tv td σ ρ hl st Q q
  obtain ⟨A, w⟩ := st
  have hlen := w.slots.len
  unfold mMove at q
  cases e : ρ[i]? with
  | none => rw [e] at q; exact q.elim
  | some o =>
    cases o with
    | none => rw [e] at q; exact q.elim
    | some t =>
      have hi : i < ρ.length := (List.getElem?_eq_some_iff.mp e).1
      have hi2 : tv.length + i < (tv ++ σ).length := by
        rw [hlen, List.length_append]; omega
      have e2 : (td ++ ρ)[tv.length + i]? = some (some t) := by rw [app_at hl.symm, e]
      obtain ⟨B, hb, ar, get⟩ := w.slots.around hi2
      obtain ⟨v, A1, e3, x, hc⟩ := get t e2
      rw [app_at rfl] at e3
      rw [e] at q
      refine ⟨v, e3, q v H (fun _ => Same.refl H) ?_⟩
      obtain ⟨C, s, z⟩ := ar.gone (some v)
      have hsl : (tv ++ σ).set (tv.length + i) (some v) = tv ++ σ := by
        rw [app_set rfl, set_self e3]
      rw [hsl, app_set hl.symm] at s
      refine ⟨A1 ++ C, w.remake (fun a => ?_) (.cons x s)⟩
      rw [List.count_append, z a, hc a]
      exact Nat.le_refl _
theorem qe_var (i : Nat) {x : Str} {pos : Pos} (hN : X.N[i]? = some x := by rfl) (hv : Vis X.env.scope x := by first | exact Or.inl rfl | exact Or.inr (Or.inl rfl) | exact Or.inr (Or.inr rfl)) (hd : (x == ("__debug__" : Str)) = false := by decide)
    (hcd : (x == ("__classdict__" : Str)) = false := by decide) : QE X E true (.Name x pos) (tVar i) (mVar i) := ⟨pe_var hN hv hd hcd, sim_var i⟩
theorem qe_move (i : Nat) {x : Str} {pos : Pos} (hN : X.N[i]? = some x := by rfl) (hv : Vis X.env.scope x := by first | exact Or.inl rfl | exact Or.inr (Or.inl rfl) | exact Or.inr (Or.inr rfl)) (hd : (x == ("__debug__" : Str)) = false := by decide)
    (hcd : (x == ("__classdict__" : Str)) = false := by decide) : QE X E true (.Name x pos) (tVar i) (mMove i) := ⟨pe_var hN hv hd hcd, sim_move i⟩
end
inductive RV where
  | v (t : T) | nl (ds : List PyData) | nt (ds : List PyData)
def RV.toT : RV → T
  | .v t => t
  | .nl ds => .ol (ds.map T.d)
  | .nt ds => .d (.tuple ds)
section
variable {K : PySem.W.Frag} {F F' : Addr → Prop} {H H' : Hp}
def RVto (K : PySem.W.Frag) (F : Addr → Prop) (H : Hp) (A : List Addr) (Q : VK) : RV → Prop
  | .v t => ∀ w C, Rp K F H w t C → (∀ a, C.count a ≤ A.count a) → Q w H
  | .nl ds => ∀ p ws, H p = none → FzAll K F H ws ds → Q (.ref p) (upd H p (.lst ws))
  | .nt ds => ∀ p ws, H p = none → FzAll K F H ws ds → Q (.ref p) (upd H p (.tup ws))
def OpV (K : PySem.W.Frag) (r : R2) (op : T → T → R RV) : Prop := ∀ (F : Addr → Prop) (H : Hp) (v u : V) (x y : T) (A B : List Addr), Rp K F H v x A → Rp K F H u y B → ∀ Q : VK, Then (op x y) (RVto K F H (A ++ B) Q) (fun _ => False) → r v u H Q
def UnV (K : PySem.W.Frag) (r : V → Hp → VK → Prop) (op : T → R RV) : Prop := ∀ (F : Addr → Prop) (H : Hp) (v : V) (x : T) (A : List Addr), Rp K F H v x A → ∀ Q : VK, Then (op x) (RVto K F H A Q) (fun _ => False) → r v H Q
theorem RpAll.ofFz : ∀ {ws : List V} {ds : List PyData}, FzAll K F H ws ds → RpAll K F H ws (ds.map T.d) []
  | _, _, .nil => .nil
  | _, _, .cons h a => .cons (A := []) (B := []) (.d h) (RpAll.ofFz a)
theorem StW.result {c : C0} {sl : List (Option V)} {ρ : Env} {A A1 B : List Addr} (hc : ∀ a, A1.count a + B.count a ≤ A.count a) (u : ∀ a, A.count a ≤ 1) (ow : ∀ a ∈ A, a ∈ c.A0 ∨ c.H0 a = none) (k : KeepC c H)
    (s : Sl K (Fok c A) H sl ρ B) {Q : VK} {z : RV} (q : ∀ v H', Same H H' → StR K c H' (some v :: sl) (some z.toT :: ρ) → Q v H') : RVto K (Fok c A) H A1 Q z := by
  have mem : ∀ {C : List Addr}, (∀ a, C.count a ≤ A.count a) → ∀ a ∈ C, a ∈ A := fun h a ha => List.count_pos_iff.mp (Nat.lt_of_lt_of_le (List.count_pos_iff.mpr ha) (h a))
  have there : ∀ a ∈ B, H a ≠ none := fun a ha e => by
    obtain ⟨u, z, _⟩ := s.own a ha
    rw [e] at z; cases z
  cases z with
  | v t =>
    intro w C x hC
    have hCB : ∀ a, (C ++ B).count a ≤ A.count a := fun a => by rw [List.count_append]; have := hC a; have := hc a; omega
    exact q w H (Same.refl H) ⟨C ++ B, fun a => Nat.le_trans (hCB a) (u a), (Sl.cons x s).mono (.sub fun a _ => Fok.sub hCB a) fun _ _ => rfl, fun a ha => ow a (mem hCB a ha), k⟩
  | nl ds =>
    intro p ws hp fz
    have hB : ∀ a, B.count a ≤ A.count a := fun a => by have := hc a; omega
    have m0 : Mono (Fok c A) (Fok c (p :: B)) H H := .sub fun a ha ⟨x, y⟩ => ⟨x, fun z => by
      rcases List.mem_cons.mp z with e | e
      · exact ha (by rw [e]; exact hp)
      · exact y (mem hB a e)⟩
    have sm := same_upd (o := .lst ws) hp
    have x1 : Rp K (Fok c (p :: B)) (upd H p (.lst ws)) (.ref p) (.ol (ds.map T.d)) [p] := .ol upd_same (RpAll.ofFz ((fz.mono m0).mono (.same sm)))
    have s1 : Sl K (Fok c (p :: B)) (upd H p (.lst ws)) sl ρ B := (s.mono m0 fun _ _ => rfl).mono (.same sm) fun a ha => by rw [upd_ne (fun e => there a ha (by rw [e]; exact hp))]
    refine q _ _ sm ⟨[p] ++ B, fun a => ?_, .cons x1 s1, fun a ha => ?_, k.grow sm⟩
    · rw [List.count_append, List.count_singleton]
      have h1 := hB a
      have h2 := u a
      by_cases e : p = a
      · subst e
        have : B.count p = 0 := List.count_eq_zero.mpr fun z => there p z hp
        simp [this]
      · have e' : (p == a) = false := by simpa using e
        simp [e']; omega
    · rcases List.mem_append.mp ha with z | z
      · have e : a = p := by simpa using z
        subst e
        exact .inr (k.there _ hp)
      · exact ow a (mem hB a z)
  | nt ds =>
    intro p ws hp fz
    have hB : ∀ a, B.count a ≤ A.count a := fun a => by have := hc a; omega
    have m0 : Mono (Fok c A) (Fok c B) H H := .sub fun a _ => Fok.sub hB a
    have sm := same_upd (o := .tup ws) hp
    have x1 : Rp K (Fok c B) (upd H p (.tup ws)) (.ref p) (.d (.tuple ds)) [] := .d (.tup (.of upd_same) ((fz.mono m0).mono (.same sm)))
    have s1 : Sl K (Fok c B) (upd H p (.tup ws)) sl ρ B := (s.mono m0 fun _ _ => rfl).mono (.same sm) fun a ha => by rw [upd_ne (fun e => there a ha (by rw [e]; exact hp))]
    exact q _ _ sm ⟨[] ++ B, fun a => Nat.le_trans (hB a) (u a), .cons x1 s1, fun a ha => ow a (mem hB a ha), k.grow sm⟩
end
section
variable {X : Cx} {E : Str → Hp → Prop} {a b : Expr} {ta tb : TE} {ma mb : MEx} {pos : Pos}
def mBin (op : T → T → R RV) (ma mb : MEx) : MEx := fun ρ => (ma ρ).bind fun x => (mb x.2).bind fun y => (op x.1 y.1).bind fun z => .ok (z.toT, y.2)
def mUn (op : T → R RV) (ma : MEx) : MEx := fun ρ => (ma ρ).bind fun x => (op x.1).bind fun z => .ok (z.toT, x.2)
theorem noexc {α : Type} {r : R α} {P : α → Prop} {P' : α → Prop} {E' : Str → Prop} (hx : ∀ c, r ≠ .exc c) (h : Then r P E') (hp : ∀ a, P a → P' a) : Then r P' (fun _ => False) := by
  cases r with
  | ok a => exact hp a h
  | exc c => exact (hx c rfl).elim
  | bad => exact h
def NoX (op : T → T → R RV) : Prop := ∀ x y c, op x y ≠ .exc c
theorem sim_bin {K : PySem.W.Frag} {r : R2} {op : T → T → R RV} (ho : OpV K r op) (hx : NoX op) {g1 g2 : Bool} (sa : SimE K E g1 ta ma) (sb : SimE K E g2 tb mb) : SimE K E (g1 && g2) (tOp r ta tb) (mBin op ma mb) := by
  intro c H tv td σ ρ hl st Q q
  unfold mBin at q
  rw [then_bind] at q
  refine sa c H tv td σ ρ hl st _ (q.imp ?_)
  intro x q1 v H1 sm1 st1
  rw [then_bind] at q1
  refine sb c H1 (some v :: tv) (some x.1 :: td) σ x.2 (by simp [hl]) st1 _ (q1.imp ?_)
  intro y q2 u H2 sm2 st2
  rw [then_bind] at q2
  obtain ⟨A, w⟩ := st2
  obtain ⟨A1, B1, rfl, x1, s1⟩ := w.top
  cases s1 with
  | cons x2 s2 =>
    rename_i A2 B2
    refine ho _ H2 v u x.1 y.1 A2 A1 x2 x1 Q (noexc (hx _ _) q2 fun z q3 => ?_)
    refine StW.result (fun a => ?_) w.uniq w.own w.keep s2 fun v' H' sm' => q3 v' H' fun e => ?_
    · simp only [List.count_append]
      omega
    · rw [Bool.and_eq_true] at e
      exact ((sm1 e.1).trans (sm2 e.2)).trans sm'
end
end L3
namespace L3
open PySem PySem.Spec PyProof.Rows L2
def T.allD : List T → Option (List PyData)
  | [] => some []
  | .d x :: r => (T.allD r).map fun xs => x :: xs
  | _ => none
def T.lst? : T → Option (List PyData)
  | .d (.list ds) => some ds
  | .ol ts => T.allD ts
  | _ => none
section
variable {K : PySem.W.Frag} {F F' : Addr → Prop} {H H' : Hp}
theorem allD_map : ∀ ds : List PyData, T.allD (ds.map T.d) = some ds
  | [] => rfl
  | x :: r => by
    show (T.allD (r.map T.d)).map (fun xs => x :: xs) = _
    rw [allD_map r]; rfl
theorem RpAll.data : ∀ {ts : List T} {vs : List V} {A : List Addr} {ds : List PyData}, RpAll K F H vs ts A → T.allD ts = some ds → FzAll K F H vs ds ∧ A = [] ∧ ts = ds.map T.d
  | [], _, _, ds, .nil, e => by
    have e' : [] = ds := Option.some.inj e
    subst e'
    exact ⟨.nil, rfl, rfl⟩
  | .d x :: r, _, _, ds, .cons h hr, e => by
    have e' : (T.allD r).map (fun xs => x :: xs) = some ds := e
    obtain ⟨ys, e1, e2⟩ := Option.map_eq_some_iff.mp e'
    subst e2
    obtain ⟨f, z, zz⟩ := hr.data e1
    cases h with
    | d h => exact ⟨.cons h f, by rw [z]; rfl, by rw [zz]; rfl⟩
  | .ol _ :: _, _, _, _, _, e => by cases e
  | .ot _ :: _, _, _, _, _, e => by cases e
  | .od _ _ :: _, _, _, _, _, e => by cases e
  | .fd _ _ _ :: _, _, _, _, _, e => by cases e
  | .fk _ _ _ :: _, _, _, _, _, e => by cases e
  | .no _ :: _, _, _, _, _, e => by cases e
  | .ob _ _ _ :: _, _, _, _, _, e => by cases e
  | .rd _ :: _, _, _, _, _, e => by cases e
  | .ex _ :: _, _, _, _, _, e => by cases e
theorem Rp.lst? {x : T} {v : V} {A : List Addr} {ds : List PyData} (h : Rp K F H v x A) (e : x.lst? = some ds) : ∃ a vs, v = .ref a ∧ H a = some (.lst vs) ∧ FzAll K F H vs ds := by
  cases h with
  | d h =>
    cases h with
    | lst h1 h2 h3 =>
      have e' := Option.some.inj (by simpa [T.lst?] using e)
      subst e'
      exact ⟨_, _, rfl, h1, h3⟩
    | _ => simp [T.lst?] at e
  | ol h1 h2 => exact ⟨_, _, rfl, h1, (h2.data e).1⟩
  | ot _ _ => simp [T.lst?] at e
  | od _ _ _ _ => simp [T.lst?] at e
  | fd _ _ _ _ => simp [T.lst?] at e
  | fk _ => simp [T.lst?] at e
  | no _ => simp [T.lst?] at e
  | rd _ _ => simp [T.lst?] at e
  | ex _ _ _ => simp [T.lst?] at e
  | ob _ _ _ _ => simp [T.lst?] at e
theorem FzAll.append : ∀ {vs ws : List V} {xs ys : List PyData}, FzAll K F H vs xs → FzAll K F H ws ys → FzAll K F H (vs ++ ws) (xs ++ ys)
  | _, _, _, _, .nil, h => h
  | _, _, _, _, .cons a r, h => .cons a (r.append h)
theorem Rp.i {v : V} {i : Int} {A : List Addr} (h : Rp K F H v (.d (.int i)) A) : v = .int i := by
  cases h with
  | d h => cases h; rfl
theorem Rp.b {v : V} {i : Bool} {A : List Addr} (h : Rp K F H v (.d (.bool i)) A) : v = .bl i := by
  cases h with
  | d h => cases h; rfl
theorem Rp.s {v : V} {i : Str} {A : List Addr} (h : Rp K F H v (.d (.str i)) A) : v = .str i := by
  cases h with
  | d h => cases h; rfl
theorem Rp.n {v : V} {A : List Addr} (h : Rp K F H v (.d .none) A) : v = .non := by
  cases h with
  | d h => cases h; rfl
theorem Rp.t {v : V} {xs : List PyData} {A : List Addr} (h : Rp K F H v (.d (.tuple xs)) A) : ∃ a vs, v = .ref a ∧ SqT K H a vs ∧ FzAll K F H vs xs := by
  cases h with
  | d h => cases h with
    | tup h r => exact ⟨_, _, rfl, h, r⟩
theorem rv_d {Q : VK} {A : List Addr} {v : V} {x : PyData} (q : RVto K F H A Q (.v (.d x))) (f : Fz K F H v x) : Q v H := q v [] (.d f) fun _ => by simp
end
def sLine : Nat := 16777216
theorem sLine_eq : sLine = sizeLine := sizeLine_eq.symm
def opAdd : T → T → R RV
  | .d (.int i), .d (.int j) => .ok (.v (.d (.int (i + j))))
  | .d (.int i), .d (.bool k) => .ok (.v (.d (.int (i + b2i k))))
  | .d (.str x), .d (.str y) => guard (decide (x.length + y.length ≤ sLine)) (.ok (.v (.d (.str (x ++ y)))))
  | .d (.tuple xs), .d (.tuple ys) => guard (!xs.isEmpty && !ys.isEmpty && decide (xs.length + ys.length ≤ sLine)) (.ok (.nt (xs ++ ys)))
  | x, y => match x.lst?, y.lst? with
    | some xs, some ys => guard (decide (xs.length + ys.length ≤ sLine)) (.ok (.nl (xs ++ ys)))
    | _, _ => .bad
abbrev rAddStr : R2 := fun x y H Q => ∃ i j, x = .str i ∧ y = .str j ∧ i.length + j.length ≤ sizeLine ∧ Q (.str (i ++ j)) H
abbrev rAddIB : R2 := fun x y H Q => ∃ i k, x = .int i ∧ y = .bl k ∧ Q (.int (i + b2i k)) H
def rAdd (K : PySem.W.Frag) : R2 := fun x y H Q => rI0 (fun i j => .int (i + j)) x y H Q ∨ (rAddIB x y H Q ∨ (rAddStr x y H Q ∨ (rCatT K x y H Q ∨ rCat x y H Q)))
theorem op_addA {X : Cx} : OpR X (binaryOp .Add) (rAdd X.K) := op_add.or (op_add_ib.or (op_add_str.or (op_catT.or op_cat)))
theorem guard_noexc {α : Type} {b : Bool} {r : R α} (h : ∀ c, r ≠ .exc c) (c : Str) : guard b r ≠ .exc c := by
  unfold guard
  cases b
  · (intro z; cases z)
  · exact h c
theorem opAdd_nox : NoX opAdd := by
  intro x y c
  unfold opAdd
  split
  · (intro z; cases z)
  · (intro z; cases z)
  · exact guard_noexc (by intro _ z; cases z) c
  · exact guard_noexc (by intro _ z; cases z) c
  · split
    · exact guard_noexc (by intro _ z; cases z) c
    · (intro z; cases z)
theorem opAdd_v {K : PySem.W.Frag} : OpV K (rAdd K) opAdd := by
  intro F H v u x y A B hx hy Q q
  unfold opAdd at q
  split at q
  · exact .inl ⟨_, _, hx.i, hy.i, rv_d q (.int _)⟩
  · exact .inr (.inl ⟨_, _, hx.i, hy.b, rv_d q (.int _)⟩)
  · obtain ⟨g, q⟩ := then_guard.mp q
    exact .inr (.inr (.inl ⟨_, _, hx.s, hy.s, by rw [← sLine_eq]; exact of_decide_eq_true g, rv_d q (.str _)⟩))
  · obtain ⟨g, q⟩ := then_guard.mp q
    simp only [Bool.and_eq_true, Bool.not_eq_true', List.isEmpty_eq_false_iff, decide_eq_true_eq] at g
    obtain ⟨a, vs, rfl, h1, f1⟩ := hx.t
    obtain ⟨b, ws, rfl, h2, f2⟩ := hy.t
    have l1 := f1.len
    have l2 := f2.len
    refine .inr (.inr (.inr (.inl ⟨a, b, vs, ws, rfl, rfl, h1, h2, fun e => ?_, by rw [l1, l2, ← sLine_eq]; exact g.2, fun e => ?_, fun _ p hp => q p _ hp (f1.append f2)⟩)))
    · subst e
      cases f1
      exact g.1.1 rfl
    · subst e
      cases f2
      exact (g.1.2 rfl).elim
  · split at q
    · rename_i xs ys e1 e2
      obtain ⟨g, q⟩ := then_guard.mp q
      obtain ⟨a, vs, rfl, h1, f1⟩ := hx.lst? e1
      obtain ⟨b, ws, rfl, h2, f2⟩ := hy.lst? e2
      exact .inr (.inr (.inr (.inr ⟨a, b, vs, ws, rfl, rfl, h1, h2, by rw [f1.len, f2.len, ← sLine_eq]; exact of_decide_eq_true g, fun p hp => q p _ hp (f1.append f2)⟩)))
    · exact q.elim
def opI2 (g : Int → Int → Bool) (f : Int → Int → PyData) : T → T → R RV
  | .d (.int i), .d (.int j) => guard (g i j) (.ok (.v (.d (f i j))))
  | _, _ => .bad
theorem opI2_nox {g : Int → Int → Bool} {f : Int → Int → PyData} : NoX (opI2 g f) := by
  intro x y c
  unfold opI2
  split
  · exact guard_noexc (by intro _ z; cases z) c
  · (intro z; cases z)
theorem opI2_v {K : PySem.W.Frag} {g : Int → Int → Bool} {f : Int → Int → PyData} {C : Int → Int → Prop} {h : Int → Int → V} (hg : ∀ i j, g i j = true → C i j) (hf : ∀ (F : Addr → Prop) (H : Hp) i j, Fz K F H (h i j) (f i j)) : OpV K (rI C h) (opI2 g f) := by
  intro F H v u x y A B hx hy Q q
  unfold opI2 at q
  split at q
  · obtain ⟨e, q⟩ := then_guard.mp q
    exact ⟨_, _, hx.i, hy.i, hg _ _ e, rv_d q (hf _ _ _ _)⟩
  · exact q.elim
def yes2 : Int → Int → Bool := fun _ _ => true
def mulOk (i j : Int) : Bool := !(decide (Builtin.Int.intBits i > shortFactorBits) && decide (Builtin.Int.intBits j > shortFactorBits) && Builtin.Int.intTooBig (Builtin.Int.intBits i + Builtin.Int.intBits j))
def divOk (i j : Int) : Bool := decide (j ≠ 0) && !(Builtin.divisionGoesByPylong i j)
def modOk (_ j : Int) : Bool := decide (j ≠ 0)
def powOk (i j : Int) : Bool := decide (0 ≤ j ∧ j ≤ 1000000 ∧ i.natAbs < 2 ^ 64)
def opSub := opI2 yes2 fun i j => .int (i - j)
def opMulI := opI2 mulOk fun i j => .int (i * j)
def opMod := opI2 modOk fun i j => .int (i.fmod j)
def opFdiv := opI2 divOk fun i j => .int (i.fdiv j)
def opPow := opI2 powOk fun i j => .int (i ^ j.toNat)
def opLt := opI2 yes2 fun i j => .bool (decide (i < j))
def opLe := opI2 yes2 fun i j => .bool (decide (i ≤ j))
def opGt := opI2 yes2 fun i j => .bool (decide (j < i))
def opGe := opI2 yes2 fun i j => .bool (decide (j ≤ i))
theorem rI_of0 {X : Cx} {f : Value → Value → Sem Value} {h : Int → Int → V} (o : OpR X f (rI0 h)) : OpR X f (rI (fun _ _ => True) h) := fun pins s σ H x y v u Q I rx ry ⟨i, j, e1, e2, _, q⟩ => o pins s σ H x y v u Q I rx ry ⟨i, j, e1, e2, q⟩
section
variable {X : Cx}
theorem mulOk_iff {i j : Int} : mulOk i j = true ↔ IntMulOk i j := by
  unfold mulOk IntMulOk
  rw [Bool.not_eq_true', Bool.not_eq_true]
theorem op_subA : OpR X (binaryOp .Sub) (rI (fun _ _ => True) fun i j => .int (i - j)) := rI_of0 op_sub
theorem op_mulA : OpR X (binaryOp .Mult) (rI (fun i j => mulOk i j = true) fun i j => .int (i * j)) := opI fun _ _ _ _ _ _ _ hc q => mul_int q (mulOk_iff.mp hc)
theorem op_modA : OpR X (binaryOp .Mod) (rI (fun i j => modOk i j = true) fun i j => .int (i.fmod j)) := opI fun _ _ _ _ _ _ _ hc q => mod_int' (of_decide_eq_true hc) q
theorem op_fdivA : OpR X (binaryOp .FloorDiv) (rI (fun i j => divOk i j = true) fun i j => .int (i.fdiv j)) := opI fun _ _ _ _ _ _ _ hc q => by
  unfold divOk at hc
  simp only [Bool.and_eq_true, Bool.not_eq_true', decide_eq_true_eq] at hc
  exact floordiv_int hc.1 q (.inl hc.2)
theorem op_powA : OpR X (binaryOp .Pow) (rI (fun i j => powOk i j = true) fun i j => .int (i ^ j.toNat)) := opI fun i j _ _ _ _ _ hc q => by
  obtain ⟨h1, h2, h3⟩ := of_decide_eq_true (show decide (0 ≤ j ∧ j ≤ 1000000 ∧ i.natAbs < 2 ^ 64) = true from hc)
  exact pow_int_small h1 h2 h3 q
theorem op_ltA : OpR X (compareOp .Lt) (rI (fun _ _ => True) fun i j => .bl (decide (i < j))) := rI_of0 op_lt
theorem op_gtA : OpR X (compareOp .Gt) (rI (fun _ _ => True) fun i j => .bl (decide (j < i))) := rI_of0 op_gt
end
def eqS : PyData → PyData → Option Bool
  | .int i, .int j => some (decide (i = j))
  | .bool i, .bool j => some (decide (i = j))
  | .str i, .str j => some (decide (i = j))
  | .none, .none => some true
  | _, _ => none
def eqD (x y : T) : R Bool := match x.toD, y.toD with
  | some a, some b => (match eqS a b with
    | some k => .ok k
    | none => guard (SeqAt.shaped a && SeqAt.shaped b) (.ok (PyData.eqv a b)))
  | _, _ => .bad
def opEq (x y : T) : R RV := (eqD x y).bind fun k => .ok (.v (.d (.bool k)))
def opNe (x y : T) : R RV := (eqD x y).bind fun k => .ok (.v (.d (.bool (!k))))
def rEqA (K : PySem.W.Frag) : R2 := fun x y H Q => rEq x y H Q ∨ rEqD K x y H Q
def rNeA (K : PySem.W.Frag) : R2 := fun x y H Q => rNe x y H Q ∨ rNeD K x y H Q
theorem op_eqA {X : Cx} (hu : X.A.units + 64 < cLine) : OpR X (compareOp .Eq) (rEqA X.K) := op_eq.or (op_eqD hu)
theorem op_neA {X : Cx} (hu : X.A.units + 64 < cLine) : OpR X (compareOp .NotEq) (rNeA X.K) := op_ne.or (op_neD hu)
theorem eqD_noexc {x y : T} (c : Str) : eqD x y ≠ .exc c := by
  unfold eqD
  split
  · split
    · (intro z; cases z)
    · exact guard_noexc (by intro _ z; cases z) c
  · (intro z; cases z)
theorem bind_noexc {α β : Type} {r : R α} {f : α → R β} (h1 : ∀ c, r ≠ .exc c) (h2 : ∀ a c, f a ≠ .exc c) (c : Str) : r.bind f ≠ .exc c := by
  cases r with
  | ok a => exact h2 a c
  | exc d => exact (h1 d rfl).elim
  | bad => (intro z; cases z)
theorem opEq_nox : NoX opEq := fun x y c => bind_noexc (fun _ => eqD_noexc _) (by intro _ _ z; cases z) c
theorem opNe_nox : NoX opNe := fun x y c => bind_noexc (fun _ => eqD_noexc _) (by intro _ _ z; cases z) c
section
variable {K : PySem.W.Frag} {F : Addr → Prop} {H : Hp}
theorem eqD_red {v u : V} {x y : T} {A B : List Addr} (hx : Rp K F H v x A) (hy : Rp K F H u y B) {P : Bool → Prop} (q : Then (eqD x y) P (fun _ => False)) :
    (∃ k, scal v u = true ∧ decide (v = u) = k ∧ P k) ∨ ∃ d e, Dp K H v d ∧ Dp K H u e ∧ SeqAt.shaped d = true ∧ SeqAt.shaped e = true ∧ P (PyData.eqv d e) := by
  unfold eqD at q
  split at q
  · rename_i a b e1 e2
    have d1 := hx.dp e1
    have d2 := hy.dp e2
    split at q
    · rename_i k ek
      refine .inl ⟨k, ?_⟩
      have q' : P k := q
      unfold eqS at ek
      split at ek
      · cases d1; cases d2; cases ek
        exact ⟨rfl, by simp [V.int.injEq], q'⟩
      · cases d1; cases d2; cases ek
        exact ⟨rfl, by simp [V.bl.injEq], q'⟩
      · cases d1; cases d2; cases ek
        exact ⟨rfl, by simp [V.str.injEq], q'⟩
      · cases d1; cases d2; cases ek
        exact ⟨rfl, by simp, q'⟩
      · cases ek
    · obtain ⟨g, q⟩ := then_guard.mp q
      rw [Bool.and_eq_true] at g
      exact .inr ⟨a, b, d1, d2, g.1, g.2, q⟩
  · exact q.elim
end
theorem opEq_v {K : PySem.W.Frag} : OpV K (rEqA K) opEq := by
  intro F H v u x y A B hx hy Q q
  have q' : Then (eqD x y) (fun k => Q (.bl k) H) (fun _ => False) := (then_bind.mp q).imp fun k h => rv_d h (.bl k)
  rcases eqD_red hx hy q' with ⟨k, s, e, q⟩ | ⟨d, e, h1, h2, h3, h4, q⟩
  · exact .inl ⟨s, by rw [e]; exact q⟩
  · exact .inr ⟨d, e, h1, h2, h3, h4, q⟩
theorem opNe_v {K : PySem.W.Frag} : OpV K (rNeA K) opNe := by
  intro F H v u x y A B hx hy Q q
  have q' : Then (eqD x y) (fun k => Q (.bl (!k)) H) (fun _ => False) := (then_bind.mp q).imp fun k h => rv_d h (.bl (!k))
  rcases eqD_red hx hy q' with ⟨k, s, e, q⟩ | ⟨d, e, h1, h2, h3, h4, q⟩
  · exact .inl ⟨s, by rw [e]; exact q⟩
  · exact .inr ⟨d, e, h1, h2, h3, h4, q⟩
def T.isNone : T → Bool
  | .d .none => true
  | .no .non => true
  | _ => false
def opIsN (x y : T) : R RV := guard y.isNone (.ok (.v (.d (.bool x.isNone))))
def opNotN (x y : T) : R RV := guard y.isNone (.ok (.v (.d (.bool (!x.isNone)))))
def opIdx : T → T → R RV
  | .d (.list ds), .d (.int i) => (ofO (atI ds i)).bind fun x => .ok (.v (.d x))
  | .d (.tuple ds), .d (.int i) => (ofO (atI ds i)).bind fun x => .ok (.v (.d x))
  | .d (.str z), .d (.int i) => guard (decide (z.length ≤ sLine)) ((ofO (atI z.cps.toList i)).bind fun c => .ok (.v (.d (.str ⟨#[c]⟩))))
  | .ol ts, .d (.int i) => (ofO (atI ts i)).bind fun x => .ok (.v x)
  | .ot ts, .d (.int i) => (ofO (atI ts i)).bind fun x => .ok (.v x)
  | .rd ds, .d (.int i) => (ofO (atI ds i)).bind fun x => .ok (.v (.d x))
  | _, _ => .bad
theorem ofO_noexc {α : Type} {o : Option α} (c : Str) : ofO o ≠ .exc c := by
  cases o <;> (intro z; cases z)
theorem opIdx_nox : NoX opIdx := by
  intro x y c
  unfold opIdx
  split
  · exact bind_noexc (fun _ => ofO_noexc _) (by intro _ _ z; cases z) c
  · exact bind_noexc (fun _ => ofO_noexc _) (by intro _ _ z; cases z) c
  · exact guard_noexc (bind_noexc (fun _ => ofO_noexc _) (by intro _ _ z; cases z)) c
  · exact bind_noexc (fun _ => ofO_noexc _) (by intro _ _ z; cases z) c
  · exact bind_noexc (fun _ => ofO_noexc _) (by intro _ _ z; cases z) c
  · exact bind_noexc (fun _ => ofO_noexc _) (by intro _ _ z; cases z) c
  · (intro z; cases z)
section
variable {K : PySem.W.Frag} {F : Addr → Prop} {H : Hp}
theorem atI_rel {α β : Type} {xs : List α} {ys : List β} (hl : ys.length = xs.length) {P : α → β → Prop} (g : ∀ (j : Nat) (x : α), xs[j]? = some x → ∃ y, ys[j]? = some y ∧ P x y) {i : Int} {x : α} (h : atI xs i = some x) : ∃ y, atI ys i = some y ∧ P x y := by
  unfold atI at h ⊢
  rw [hl]
  obtain ⟨j, e1, e2⟩ := Option.bind_eq_some_iff.mp h
  obtain ⟨y, e3, p⟩ := g j x e2
  exact ⟨y, by rw [e1]; exact e3, p⟩
end
theorem opIdx_v {K : PySem.W.Frag} : OpV K (rIx K) opIdx := by
  intro F H v u x y A B hx hy Q q
  unfold opIdx at q
  split at q
  · obtain ⟨z, e, q⟩ := then_ofO.mp (then_bind.mp q)
    obtain ⟨a, vs, rfl, h1, f1⟩ := hx.lst? (ds := _) rfl
    obtain ⟨w, e2, p⟩ := atI_rel f1.len (fun j x hx => f1.get hx) e
    exact .inl ⟨a, vs, _, w, rfl, hy.i, .of h1, e2, rv_d q p⟩
  · obtain ⟨z, e, q⟩ := then_ofO.mp (then_bind.mp q)
    obtain ⟨a, vs, rfl, h1, f1⟩ := hx.t
    obtain ⟨w, e2, p⟩ := atI_rel f1.len (fun j x hx => f1.get hx) e
    exact .inr (.inl ⟨a, vs, _, w, rfl, hy.i, h1, e2, rv_d q p⟩)
  · obtain ⟨g, q⟩ := then_guard.mp q
    obtain ⟨z, e, q⟩ := then_ofO.mp (then_bind.mp q)
    exact .inr (.inr ⟨_, _, z, hx.s, hy.i, by rw [← sLine_eq]; exact of_decide_eq_true g, e, rv_d q (.str _)⟩)
  · obtain ⟨z, e, q⟩ := then_ofO.mp (then_bind.mp q)
    cases hx with
    | ol h1 r =>
      obtain ⟨w, e2, C, p, hc⟩ := atI_rel (P := fun t w => ∃ C, Rp K F H w t C ∧ ∀ a, C.count a ≤ _) r.len (fun j x hx => by
        obtain ⟨w, C, e, p, hc⟩ := r.get hx
        exact ⟨w, e, C, p, hc⟩) e
      exact .inl ⟨_, _, _, w, rfl, hy.i, .of h1, e2, q w C p fun b => by have := hc b; rw [List.count_append, List.count_cons]; omega⟩
  · obtain ⟨z, e, q⟩ := then_ofO.mp (then_bind.mp q)
    cases hx with
    | ot h1 r =>
      obtain ⟨w, e2, C, p, hc⟩ := atI_rel (P := fun t w => ∃ C, Rp K F H w t C ∧ ∀ a, C.count a ≤ _) r.len (fun j x hx => by
        obtain ⟨w, C, e, p, hc⟩ := r.get hx
        exact ⟨w, e, C, p, hc⟩) e
      exact .inr (.inl ⟨_, _, _, w, rfl, hy.i, .of h1, e2, q w C p fun b => by have := hc b; rw [List.count_append]; omega⟩)
  · obtain ⟨z, e, q⟩ := then_ofO.mp (then_bind.mp q)
    cases hx with
    | rd h1 f1 =>
      obtain ⟨w, e2, p⟩ := atI_rel f1.len (fun j x hx => f1.get hx) e
      exact .inl ⟨_, _, _, w, rfl, hy.i, h1.sq, e2, rv_d q p⟩
  · exact q.elim
end L3
namespace L3
open PySem PySem.Spec PyProof.Rows L2
abbrev MP := Env → Option T
def SimP (K : PySem.W.Frag) (te : TE) (m : MP) : Prop :=
  ∀ (c : C0) (H : Hp) (tv : List (Option V)) (td : Env) (σ : L2.St) (ρ : Env) (A : List Addr) (t : T), tv.length = td.length → StW K c H (tv ++ σ) (td ++ ρ) A → m ρ = some t → ∀ Q : VK,
    (∀ v A1, Rp K (Fok c A) H v t A1 → (∀ a ∈ A1, a ∈ A) → Q v H) → te σ H Q
structure QP (X : Cx) (e : Expr) (te : TE) (m : MP) : Prop where
  pe : PE X e te
  sim : SimP X.K te m
def mLift (m : MP) : MEx := fun ρ => match m ρ with | some (.d x) => .ok (.d x, ρ) | _ => .bad
def okV : R RV → Option T
  | .ok (.v t) => some t
  | _ => none
def pVar (i : Nat) : MP := fun ρ => match ρ[i]? with | some (some t) => some t | _ => none
def pC (x : PyData) : MP := fun _ => some (.d x)
def pBin (op : T → T → R RV) (ma mb : MP) : MP := fun ρ => (ma ρ).bind fun x => (mb ρ).bind fun y => okV (op x y)
def pUn (op : T → R RV) (ma : MP) : MP := fun ρ => (ma ρ).bind fun x => okV (op x)
section
variable {X : Cx} {E : Str → Hp → Prop} {e a b : Expr} {te ta tb : TE} {m ma mb : MP} {pos : Pos}
theorem QP.lift (h : QP X e te m) : QE X E true e te (mLift m) := by
  refine ⟨h.pe, fun c H tv td σ ρ hl st Q q => ?_⟩
  obtain ⟨A, w⟩ := st
  unfold mLift at q
  cases e1 : m ρ with
  | none => rw [e1] at q; exact q.elim
  | some t =>
    rw [e1] at q
    cases t with
    | d x =>
      refine h.sim c H tv td σ ρ A _ hl w e1 Q fun v A1 r _ => ?_
      cases r with
      | d f => exact q v H (fun _ => Same.refl H) ⟨A, w.pushD f⟩
    | _ => exact q.elim
theorem qp_int {i : Int} {j : Nat} {pos : Pos} : QP X (.Constant (.int i) j pos) (tC (.int i)) (pC (.int i)) := ⟨pe_int, fun c H tv td σ ρ A t _ _ e Q q => by cases e; exact q _ [] (.d (.int i)) fun _ z => by simp at z⟩
theorem qp_bl {i : Bool} {j : Nat} {pos : Pos} : QP X (.Constant (.bool i) j pos) (tC (.bl i)) (pC (.bool i)) := ⟨pe_bl, fun c H tv td σ ρ A t _ _ e Q q => by cases e; exact q _ [] (.d (.bl i)) fun _ z => by simp at z⟩
theorem qp_str {i : Str} {j : Nat} {pos : Pos} : QP X (.Constant (.str i) j pos) (tC (.str i)) (pC (.str i)) := ⟨pe_str, fun c H tv td σ ρ A t _ _ e Q q => by cases e; exact q _ [] (.d (.str i)) fun _ z => by simp at z⟩
theorem StW.see {K : PySem.W.Frag} {c : C0} {H : Hp} {tv : List (Option V)} {td : Env} {σ : L2.St} {ρ : Env} {A : List Addr} (hl : tv.length = td.length) (w : StW K c H (tv ++ σ) (td ++ ρ) A) {i : Nat} {t : T} (e : ρ[i]? = some (some t)) :
    ∃ v A1, σ[i]? = some (some v) ∧ Rp K (Fok c A) H v t A1 ∧ ∀ a ∈ A1, a ∈ A := by
  have hlen := w.slots.len
  have hi : i < ρ.length := (List.getElem?_eq_some_iff.mp e).1
  have hi2 : tv.length + i < (tv ++ σ).length := by
    rw [hlen, List.length_append]; omega
  obtain ⟨B, hb, ar, get⟩ := w.slots.around hi2
  obtain ⟨v, A1, e3, x, hc⟩ := get t (by rw [app_at hl.symm, e])
  rw [app_at rfl] at e3
  exact ⟨v, A1, e3, x, fun a ha => List.count_pos_iff.mp (by have := hc a; have := List.count_pos_iff.mpr ha; omega)⟩
theorem sim_pvar {K : PySem.W.Frag} (i : Nat) : SimP K (tVar i) (pVar i) := by
  intro c H tv td σ ρ A t hl w e Q q
  unfold pVar at e
  split at e
  · rename_i e0
    cases e
    obtain ⟨v, A1, e3, x, hc⟩ := w.see hl e0
    exact ⟨v, e3, q v A1 x hc⟩
  · cases e
theorem qp_var (i : Nat) {x : Str} {pos : Pos} (hN : X.N[i]? = some x := by rfl) (hv : Vis X.env.scope x := by first | exact Or.inl rfl | exact Or.inr (Or.inl rfl) | exact Or.inr (Or.inr rfl)) (hd : (x == ("__debug__" : Str)) = false := by decide)
    (hcd : (x == ("__classdict__" : Str)) = false := by decide) : QP X (.Name x pos) (tVar i) (pVar i) := ⟨pe_var hN hv hd hcd, sim_pvar i⟩
theorem then_okV {z : R RV} {t : T} (e : okV z = some t) {P : RV → Prop} (h : P (.v t)) : Then z P (fun _ => False) := by
  unfold okV at e
  split at e
  · cases e; exact h
  · cases e
theorem sim_pbin {K : PySem.W.Frag} {r : R2} {op : T → T → R RV} (ho : OpV K r op) (sa : SimP K ta ma) (sb : SimP K tb mb) : SimP K (tOp r ta tb) (pBin op ma mb) := by
  intro c H tv td σ ρ A t hl w e Q q
  unfold pBin at e
  obtain ⟨x, e1, e⟩ := Option.bind_eq_some_iff.mp e
  obtain ⟨y, e2, e⟩ := Option.bind_eq_some_iff.mp e
  refine sa c H tv td σ ρ A x hl w e1 _ fun v A1 r1 h1 => ?_
  refine sb c H tv td σ ρ A y hl w e2 _ fun u A2 r2 h2 => ?_
  refine ho _ H v u x y A1 A2 r1 r2 Q (then_okV e ?_)
  intro w' C r3 h3
  refine q w' C r3 fun a ha => ?_
  have z := h3 a
  rw [List.count_append] at z
  have z2 := List.count_pos_iff.mpr ha
  by_cases hA : a ∈ A1
  · exact h1 a hA
  · have := List.count_eq_zero.mpr hA
    exact h2 a (List.count_pos_iff.mp (by omega))
theorem sim_pun {K : PySem.W.Frag} {r : V → Hp → VK → Prop} {op : T → R RV} (ho : UnV K r op) (sa : SimP K ta ma) : SimP K (tUn r ta) (pUn op ma) := by
  intro c H tv td σ ρ A t hl w e Q q
  unfold pUn at e
  obtain ⟨x, e1, e⟩ := Option.bind_eq_some_iff.mp e
  refine sa c H tv td σ ρ A x hl w e1 _ fun v A1 r1 h1 => ?_
  refine ho _ H v x A1 r1 Q (then_okV e ?_)
  intro w' C r3 h3
  exact q w' C r3 fun a ha => h1 a (List.count_pos_iff.mp (Nat.lt_of_lt_of_le (List.count_pos_iff.mpr ha) (h3 a)))
theorem qp_op {op : Operator} {r : R2} {f : T → T → R RV} (ho : OpR X (binaryOp op) r) (hv : OpV X.K r f) (ha : QP X a ta ma) (hb : QP X b tb mb) : QP X (.BinOp a op b pos) (tOp r ta tb) (pBin f ma mb) := ⟨pe_op ho ha.pe hb.pe, sim_pbin hv ha.sim hb.sim⟩
theorem qp_cmp {op : CmpOp} {r : R2} {f : T → T → R RV} (ho : OpR X (compareOp op) r) (hv : OpV X.K r f) (ha : QP X a ta ma) (hb : QP X b tb mb) (hm : behindInMarks op b = false) : QP X (.Compare a [op] [b] pos) (tOp r ta tb) (pBin f ma mb) := ⟨pe_cmpR ho ha.pe hb.pe hm, sim_pbin hv ha.sim hb.sim⟩
theorem qp_ix (ha : QP X a ta ma) (hb : QP X b tb mb) (hs : PlainIx b := by exact fun _ _ => rfl) : QP X (.Subscript a b pos) (tOp (rIx X.K) ta tb) (pBin opIdx ma mb) := ⟨pe_ix ix_seq ha.pe hb.pe hs, sim_pbin opIdx_v ha.sim hb.sim⟩
theorem qe_op {op : Operator} {r : R2} {f : T → T → R RV} {ma mb : MEx} (ho : OpR X (binaryOp op) r) (hv : OpV X.K r f) (hx : NoX f) {g1 g2 : Bool} (ha : QE X E g1 a ta ma) (hb : QE X E g2 b tb mb) : QE X E (g1 && g2) (.BinOp a op b pos) (tOp r ta tb) (mBin f ma mb) := ⟨pe_op ho ha.pe hb.pe, sim_bin hv hx ha.sim hb.sim⟩
theorem qe_cmp {op : CmpOp} {r : R2} {f : T → T → R RV} {ma mb : MEx} (ho : OpR X (compareOp op) r) (hv : OpV X.K r f) (hx : NoX f) {g1 g2 : Bool} (ha : QE X E g1 a ta ma) (hb : QE X E g2 b tb mb) (hm : behindInMarks op b = false) : QE X E (g1 && g2) (.Compare a [op] [b] pos) (tOp r ta tb) (mBin f ma mb) := ⟨pe_cmpR ho ha.pe hb.pe hm, sim_bin hv hx ha.sim hb.sim⟩
theorem qe_ix {ma mb : MEx} {g1 g2 : Bool} (ha : QE X E g1 a ta ma) (hb : QE X E g2 b tb mb) (hs : PlainIx b := by exact fun _ _ => rfl) : QE X E (g1 && g2) (.Subscript a b pos) (tOp (rIx X.K) ta tb) (mBin opIdx ma mb) := ⟨pe_ix ix_seq ha.pe hb.pe hs, sim_bin opIdx_v opIdx_nox ha.sim hb.sim⟩
end
abbrev MA := Env → R (List T × Env)
def SimA (K : PySem.W.Frag) (E : Str → Hp → Prop) (gr : Bool) (ta : TA) (m : MA) : Prop :=
  ∀ (c : C0) (H : Hp) (tv : List (Option V)) (td : Env) (σ : L2.St) (ρ : Env), tv.length = td.length → StR K c H (tv ++ σ) (td ++ ρ) → ∀ Q : List V → Hp → Prop,
    Then (m ρ) (fun r => ∀ vs H', (gr = true → Same H H') → vs.length = r.1.length → StR K c H' (vs.map some ++ (tv ++ σ)) (r.1.map some ++ (td ++ r.2)) → Q vs H') (fun x => ∀ H', KeepC c H' → E x H') → ta σ H Q
structure QA (X : Cx) (E : Str → Hp → Prop) (gr : Bool) (es : List Expr) (ta : TA) (m : MA) : Prop where
  pa : PA X es ta
  sim : SimA X.K E gr ta m
  len : ∀ ρ r, m ρ = .ok r → r.1.length = es.length
def mNil : MA := fun ρ => .ok ([], ρ)
def mCons (m : MEx) (r : MA) : MA := fun ρ => (m ρ).bind fun x => (r x.2).bind fun y => .ok (x.1 :: y.1, y.2)
abbrev MPA := Env → Option (List T)
def SimPA (K : PySem.W.Frag) (ta : TA) (m : MPA) : Prop :=
  ∀ (c : C0) (H : Hp) (tv : List (Option V)) (td : Env) (σ : L2.St) (ρ : Env) (A : List Addr) (ts : List T), tv.length = td.length → StW K c H (tv ++ σ) (td ++ ρ) A → m ρ = some ts → ∀ Q : List V → Hp → Prop,
    (∀ vs A1, RpAll K (Fok c A) H vs ts A1 → (∀ a ∈ A1, a ∈ A) → Q vs H) → ta σ H Q
structure QPA (X : Cx) (es : List Expr) (ta : TA) (m : MPA) : Prop where
  pa : PA X es ta
  sim : SimPA X.K ta m
def pNil : MPA := fun _ => some []
def pCons (m : MP) (r : MPA) : MPA := fun ρ => (m ρ).bind fun x => (r ρ).bind fun y => some (x :: y)
section
variable {X : Cx} {E : Str → Hp → Prop} {e a b : Expr} {es : List Expr} {te ta tb : TE} {t : TA} {m ma mb : MEx} {r : MA} {pos : Pos}
theorem qa_nil : QA X E true [] tNil mNil := ⟨pa_nil, fun c H tv td σ ρ hl st Q q => q [] H (fun _ => Same.refl H) rfl st, fun ρ r e => by cases e; rfl⟩
theorem qa_cons {g1 g2 : Bool} (h : QE X E g1 e te m) (hr : QA X E g2 es t r) (hs : starEach (e :: es) X.env = (false, eval e X.env) :: starEach es X.env := by rfl) : QA X E (g1 && g2) (e :: es) (tCons te t) (mCons m r) := by
  refine ⟨pa_cons h.pe hr.pa hs, fun c H tv td σ ρ hl st Q q => ?_, fun ρ z ez => ?_⟩
  · unfold mCons at q
    rw [then_bind] at q
    refine h.sim c H tv td σ ρ hl st _ (q.imp ?_)
    intro x q1 v H1 sm1 st1
    rw [then_bind] at q1
    refine hr.sim c H1 (some v :: tv) (some x.1 :: td) σ x.2 (by simp [hl]) st1 _ (q1.imp ?_)
    intro y q2 vs H2 sm2 hvs st2
    refine q2 (v :: vs) H2 (fun e => by rw [Bool.and_eq_true] at e; exact (sm1 e.1).trans (sm2 e.2)) (by simp [hvs]) ?_
    exact StR.raise (xs := vs.map some) (as := y.1.map some) (by simp [hvs]) st2
  · unfold mCons at ez
    cases e1 : m ρ with
    | ok x =>
      rw [e1] at ez
      cases e2 : r x.2 with
      | ok y =>
        have ez' : (R.ok (x.1 :: y.1, y.2) : R (List T × Env)) = .ok z := by rw [← ez]; show _ = (r x.2).bind _; rw [e2]; rfl
        cases ez'
        simp [hr.len _ _ e2]
      | exc _ => have ez' : (r x.2).bind (fun y => R.ok (x.1 :: y.1, y.2)) = R.ok z := ez; rw [e2] at ez'; cases ez'
      | bad => have ez' : (r x.2).bind (fun y => R.ok (x.1 :: y.1, y.2)) = R.ok z := ez; rw [e2] at ez'; cases ez'
    | exc _ => rw [e1] at ez; cases ez
    | bad => rw [e1] at ez; cases ez
theorem qpa_nil : QPA X [] tNil pNil := ⟨pa_nil, fun c H tv td σ ρ A ts _ _ e Q q => by cases e; exact q [] [] .nil fun _ z => by simp at z⟩
theorem qpa_cons {m : MP} {r : MPA} (h : QP X e te m) (hr : QPA X es t r) (hs : starEach (e :: es) X.env = (false, eval e X.env) :: starEach es X.env := by rfl) : QPA X (e :: es) (tCons te t) (pCons m r) := by
  refine ⟨pa_cons h.pe hr.pa hs, fun c H tv td σ ρ A ts hl w e Q q => ?_⟩
  unfold pCons at e
  obtain ⟨x, e1, e⟩ := Option.bind_eq_some_iff.mp e
  obtain ⟨y, e2, e⟩ := Option.bind_eq_some_iff.mp e
  cases e
  refine h.sim c H tv td σ ρ A x hl w e1 _ fun v A1 r1 h1 => ?_
  refine hr.sim c H tv td σ ρ A y hl w e2 _ fun vs A2 r2 h2 => ?_
  exact q (v :: vs) (A1 ++ A2) (.cons r1 r2) fun a ha => (List.mem_append.mp ha).elim (h1 a) (h2 a)
section
variable {K : PySem.W.Frag} {F : Addr → Prop} {H : Hp}
theorem Sl.front : ∀ {vs : List V} {ts : List T} {sl : List (Option V)} {ρ : Env} {A : List Addr}, vs.length = ts.length → Sl K F H (vs.map some ++ sl) (ts.map some ++ ρ) A → ∃ A1 B, A = A1 ++ B ∧ RpAll K F H vs ts A1 ∧ Sl K F H sl ρ B
  | [], [], _, _, A, _, h => ⟨[], A, rfl, .nil, h⟩
  | v :: vs, t :: ts, _, _, _, hl, h => by
    cases h with
    | cons x r =>
      obtain ⟨A1, B, e, ra, s⟩ := r.front (by simpa using hl)
      exact ⟨_, B, by rw [e, ← List.append_assoc], .cons x ra, s⟩
  | [], _ :: _, _, _, _, hl, _ => by simp at hl
  | _ :: _, [], _, _, _, hl, _ => by simp at hl
end
def mkTup (ts : List T) : T := match T.allD ts with | some ds => .d (.tuple ds) | none => .ot ts
def mTup (m : MA) : MEx := fun ρ => (m ρ).bind fun r => .ok (mkTup r.1, r.2)
def mLst (m : MA) : MEx := fun ρ => (m ρ).bind fun r => .ok (.ol r.1, r.2)
theorem sz1000 {n : Nat} (h : n ≤ 1000) : n ≤ sizeLine := Nat.le_trans h (by decide)
theorem qe_tup {k : Nat} {ma : MA} {g1 : Bool} (h : QA X E g1 es t ma) (hz : es.length ≤ 1000 := by decide) : QE X E g1 (.Tuple es k pos) (tTup t) (mTup ma) := by
  refine ⟨pe_tup h.pa, fun c H tv td σ ρ hl st Q q => ?_⟩
  unfold mTup at q
  rw [then_bind] at q
  refine h.sim c H tv td σ ρ hl st _ ?_
  have hlen := h.len ρ
  cases e : ma ρ with
  | bad => rw [e] at q; exact q.elim
  | exc x => rw [e] at q; exact q
  | ok r =>
    rw [e] at q
    intro vs H1 sm1 hvs st1
    have hn := hlen r e
    refine ⟨sz1000 (by omega), fun p hp => q _ _ (fun e => (sm1 e).trans (same_upd hp)) ?_⟩
    obtain ⟨A, w⟩ := st1
    obtain ⟨A1, B, eA, ra, s⟩ := w.slots.front hvs
    have sm := same_upd (o := .tup vs) hp
    have w2 := w.grow sm
    have eq1 : ∀ a ∈ A, (upd H1 p (.tup vs)) a = H1 a := fun a ha => upd_ne (fun z => w.not_mem_of_none hp (by rw [← z]; exact ha))
    have ra2 := ra.mono (.same sm) fun a ha => eq1 a (by rw [eA]; exact List.mem_append_left _ ha)
    have s2 := s.mono (.same sm) fun a ha => eq1 a (by rw [eA]; exact List.mem_append_right _ ha)
    refine ⟨A1 ++ B, w2.remake (fun a => by rw [eA]; exact Nat.le_refl _) (.cons ?_ s2)⟩
    show Rp X.K (Fok c A) (upd H1 p (.tup vs)) (.ref p) (mkTup r.1) A1
    unfold mkTup
    cases ed : T.allD r.1 with
    | none => exact .ot upd_same ra2
    | some ds =>
      obtain ⟨f, z, _⟩ := ra2.data ed
      subst z
      exact .d (.tup (.of upd_same) f)
theorem qe_lst {ma : MA} {g1 : Bool} (h : QA X E g1 es t ma) (hz : es.length ≤ 1000 := by decide) : QE X E g1 (.List es pos) (tLst t) (mLst ma) := by
  refine ⟨pe_lst h.pa, fun c H tv td σ ρ hl st Q q => ?_⟩
  unfold mLst at q
  rw [then_bind] at q
  refine h.sim c H tv td σ ρ hl st _ ?_
  have hlen := h.len ρ
  cases e : ma ρ with
  | bad => rw [e] at q; exact q.elim
  | exc x => rw [e] at q; exact q
  | ok r =>
    rw [e] at q
    intro vs H1 sm1 hvs st1
    have hn := hlen r e
    refine ⟨sz1000 (by omega), fun p hp => q _ _ (fun e => (sm1 e).trans (same_upd hp)) ?_⟩
    obtain ⟨A, w⟩ := st1
    obtain ⟨A1, B, eA, ra, s⟩ := w.slots.front hvs
    have sm := same_upd (o := .lst vs) hp
    have m0 : Mono (Fok c A) (Fok c (p :: A)) H1 H1 := Fok.fresh hp
    have eq1 : ∀ a ∈ A, (upd H1 p (.lst vs)) a = H1 a := fun a ha => upd_ne (fun z => w.not_mem_of_none hp (by rw [← z]; exact ha))
    have ra2 := (ra.mono m0 fun _ _ => rfl).mono (.same sm) fun a ha => eq1 a (by rw [eA]; exact List.mem_append_left _ ha)
    have s2 := (s.mono m0 fun _ _ => rfl).mono (.same sm) fun a ha => eq1 a (by rw [eA]; exact List.mem_append_right _ ha)
    have ec : (p :: A1) ++ B = p :: A := by rw [eA]; rfl
    have cc : Sl X.K (Fok c (p :: A)) (upd H1 p (.lst vs)) (some (.ref p) :: (tv ++ σ)) (some (.ol r.1) :: (td ++ r.2)) ((p :: A1) ++ B) := .cons (.ol upd_same ra2) s2
    rw [ec] at cc
    refine ⟨p :: A, fun a => ?_, cc, fun a ha => ?_, w.keep.grow sm⟩
    · rw [List.count_cons]
      have h2 := w.uniq a
      by_cases e : p = a
      · subst e
        have : A.count p = 0 := List.count_eq_zero.mpr (w.not_mem_of_none hp)
        simp [this]
      · have e' : (p == a) = false := by simpa using e
        simp [e']; omega
    · rcases List.mem_cons.mp ha with z | z
      · subst z
        exact .inr (w.keep.there _ hp)
      · exact w.own a z
def CallV (K : PySem.W.Frag) (r : List V → Hp → VK → Prop) (op : List T → R RV) : Prop := ∀ (F : Addr → Prop) (H : Hp) (vs : List V) (ts : List T) (A : List Addr), RpAll K F H vs ts A → ∀ Q : VK, Then (op ts) (RVto K F H A Q) (fun _ => False) → r vs H Q
def NoXL (op : List T → R RV) : Prop := ∀ x c, op x ≠ .exc c
def mCallB (op : List T → R RV) (m : MA) : MEx := fun ρ => (m ρ).bind fun r => (op r.1).bind fun z => .ok (z.toT, r.2)
def pCallB (op : List T → R RV) (m : MPA) : MP := fun ρ => (m ρ).bind fun ts => okV (op ts)
theorem sim_callB {K : PySem.W.Frag} {rr : List V → Hp → VK → Prop} {op : List T → R RV} {ma : MA} (ho : CallV K rr op) (hx : NoXL op) {g1 : Bool} (sa : SimA K E g1 t ma) : SimE K E g1 (tCB rr t) (mCallB op ma) := by
  intro c H tv td σ ρ hl st Q q
  unfold mCallB at q
  rw [then_bind] at q
  refine sa c H tv td σ ρ hl st _ (q.imp ?_)
  intro x q1 vs H1 sm1 hvs st1
  rw [then_bind] at q1
  obtain ⟨A, w⟩ := st1
  obtain ⟨A1, B, eA, ra, s⟩ := w.slots.front hvs
  refine ho _ H1 vs x.1 A1 ra Q (noexc (hx _) q1 fun z q3 => ?_)
  refine StW.result (fun a => ?_) w.uniq w.own w.keep s fun v' H' sm' => q3 v' H' fun e => (sm1 e).trans sm'
  rw [eA, List.count_append]
  omega
theorem sim_pcallB {K : PySem.W.Frag} {rr : List V → Hp → VK → Prop} {op : List T → R RV} {ma : MPA} (ho : CallV K rr op) (sa : SimPA K t ma) : SimP K (tCB rr t) (pCallB op ma) := by
  intro c H tv td σ ρ A tt hl w e Q q
  unfold pCallB at e
  obtain ⟨x, e1, e⟩ := Option.bind_eq_some_iff.mp e
  refine sa c H tv td σ ρ A x hl w e1 _ fun vs A1 r1 h1 => ?_
  refine ho _ H vs x A1 r1 Q (then_okV e ?_)
  intro w' C r3 h3
  exact q w' C r3 fun a ha => h1 a (List.count_pos_iff.mp (Nat.lt_of_lt_of_le (List.count_pos_iff.mpr ha) (h3 a)))
variable {x : Str} {p : Pos} {id TY : String} {rr : List V → Hp → VK → Prop} {op : List T → R RV}
theorem qe_callB {ma : MA} (hc : CallR X (.builtin id) rr) (hv : CallV X.K rr op) (hx : NoXL op) (hm : X.mg x = none) (hb : bootBuiltins x = some (.builtin id)) {g1 : Bool} (ha : QA X E g1 (e :: es) t ma) (hg : Gl X x := by rfl) (hn : x ≠ "__name__" := by decide) (hdb : (x == ("__debug__" : Str)) = false := by decide)
    (he : starEach (e :: es) X.env = (false, eval e X.env) :: starEach es X.env := by rfl) (hpl : (backTo pos (starEach es X.env)).any (·.1) = false := by rfl) : QE X E g1 (.Call (.Name x p) (e :: es) [] pos) (tCB rr t) (mCallB op ma) :=
  ⟨pe_callB hc hg hm hb ha.pa hn hdb he hpl, sim_callB hv hx ha.sim⟩
theorem qp_callB {ma : MPA} (hc : CallR X (.builtin id) rr) (hv : CallV X.K rr op) (hm : X.mg x = none) (hb : bootBuiltins x = some (.builtin id)) (ha : QPA X (e :: es) t ma) (hg : Gl X x := by rfl) (hn : x ≠ "__name__" := by decide) (hdb : (x == ("__debug__" : Str)) = false := by decide)
    (he : starEach (e :: es) X.env = (false, eval e X.env) :: starEach es X.env := by rfl) (hpl : (backTo pos (starEach es X.env)).any (·.1) = false := by rfl) : QP X (.Call (.Name x p) (e :: es) [] pos) (tCB rr t) (pCallB op ma) :=
  ⟨pe_callB hc hg hm hb ha.pa hn hdb he hpl, sim_pcallB hv ha.sim⟩
theorem qe_callTy {ma : MA} (hc : CallR X (.type TY) rr) (hv : CallV X.K rr op) (hx : NoXL op) (hm : X.mg x = none) (hb : bootBuiltins x = some (.type TY)) {g1 : Bool} (ha : QA X E g1 (e :: es) t ma) (hg : Gl X x := by rfl) (hn : x ≠ "__name__" := by decide) (hdb : (x == ("__debug__" : Str)) = false := by decide)
    (he : starEach (e :: es) X.env = (false, eval e X.env) :: starEach es X.env := by rfl) (hpl : (backTo pos (starEach es X.env)).any (·.1) = false := by rfl) : QE X E g1 (.Call (.Name x p) (e :: es) [] pos) (tCB rr t) (mCallB op ma) :=
  ⟨pe_callTy hc hg hm hb ha.pa hn hdb he hpl, sim_callB hv hx ha.sim⟩
theorem qp_callTy {ma : MPA} (hc : CallR X (.type TY) rr) (hv : CallV X.K rr op) (hm : X.mg x = none) (hb : bootBuiltins x = some (.type TY)) (ha : QPA X (e :: es) t ma) (hg : Gl X x := by rfl) (hn : x ≠ "__name__" := by decide) (hdb : (x == ("__debug__" : Str)) = false := by decide)
    (he : starEach (e :: es) X.env = (false, eval e X.env) :: starEach es X.env := by rfl) (hpl : (backTo pos (starEach es X.env)).any (·.1) = false := by rfl) : QP X (.Call (.Name x p) (e :: es) [] pos) (tCB rr t) (pCallB op ma) :=
  ⟨pe_callTy hc hg hm hb ha.pa hn hdb he hpl, sim_pcallB hv ha.sim⟩
end
end L3
namespace L3
open PySem PySem.Spec PyProof.Rows L2
abbrev MT := Env → R (Bool × Env)
def SimT (K : PySem.W.Frag) (E : Str → Hp → Prop) (tt : TT) (m : MT) : Prop :=
  ∀ (c : C0) (H : Hp) (tv : List (Option V)) (td : Env) (σ : L2.St) (ρ : Env), tv.length = td.length → StR K c H (tv ++ σ) (td ++ ρ) → ∀ Q : Bool → Hp → Prop,
    Then (m ρ) (fun r => ∀ H', StR K c H' (tv ++ σ) (td ++ r.2) → Q r.1 H') (fun x => ∀ H', KeepC c H' → E x H') → tt σ H Q
structure QT (X : Cx) (E : Str → Hp → Prop) (e : Expr) (tt : TT) (m : MT) : Prop where
  pt : PT X e tt
  sim : SimT X.K E tt m
structure QW (X : Cx) (E : Str → Hp → Prop) (e : Expr) (tt : TT) (m : MT) : Prop where
  pw : PW X e tt
  sim : SimT X.K E tt m
def mTest (m : MEx) : MT := fun ρ => (m ρ).bind fun r => match r.1 with | .d (.bool b) => .ok (b, r.2) | _ => .bad
def T.truth : T → Option Bool
  | .d .none => some false
  | .d (.bool b) => some b
  | .d (.int i) => some (i != 0)
  | .d (.list ds) => some (!ds.isEmpty)
  | .d (.tuple ds) => some (!ds.isEmpty)
  | .ol ts => some (!ts.isEmpty)
  | _ => none
def mTruth (m : MP) : MT := fun ρ => match (m ρ).bind T.truth with | some b => .ok (b, ρ) | none => .bad
def mNot (m : MT) : MT := fun ρ => (m ρ).bind fun r => .ok (!r.1, r.2)
def mAnd (m n : MT) : MT := fun ρ => (m ρ).bind fun r => if r.1 = true then n r.2 else .ok (false, r.2)
def mOr (m n : MT) : MT := fun ρ => (m ρ).bind fun r => if r.1 = true then .ok (true, r.2) else n r.2
def mIf (m : MT) (a b : MEx) : MEx := fun ρ => (m ρ).bind fun r => if r.1 = true then a r.2 else b r.2
section
variable {X : Cx} {E : Str → Hp → Prop} {e a b c' : Expr} {es : List Expr} {te ta tb : TE} {tt tu : TT} {m ma mb : MEx} {mt mu : MT} {g1 g2 : Bool} {pos : Pos}
theorem sim_test {K : PySem.W.Frag} {g : Bool} (s : SimE K E g te m) : SimT K E (tTest te) (mTest m) := by
  intro c H tv td σ ρ hl st Q q
  unfold mTest at q
  rw [then_bind] at q
  refine s c H tv td σ ρ hl st _ (q.imp ?_)
  rintro ⟨t, ρ1⟩ q1 v H1 _ st1
  dsimp only at q1
  split at q1
  · obtain ⟨A, w⟩ := st1
    obtain ⟨f, w'⟩ := w.topD
    cases f
    exact ⟨_, rfl, q1 H1 ⟨A, w'⟩⟩
  · exact q1.elim
theorem qt_cmp {op : CmpOp} {r : R2} {f : T → T → R RV} (ho : OpR X (compareOp op) r) (hv : OpV X.K r f) (hx : NoX f) (ha : QE X E g1 a ta ma) (hb : QE X E g2 b tb mb) (hm : behindInMarks op b = false) : QT X E (.Compare a [op] [b] pos) (tTest (tOp r ta tb)) (mTest (mBin f ma mb)) :=
  ⟨pt_cmpR ho ha.pe hb.pe hm, sim_test (sim_bin hv hx ha.sim hb.sim)⟩
theorem qt_pcmp {op : CmpOp} {r : R2} {f : T → T → R RV} {ma mb : MP} (ho : OpR X (compareOp op) r) (hv : OpV X.K r f) (ha : QP X a ta ma) (hb : QP X b tb mb) (hm : behindInMarks op b = false) : QT X E (.Compare a [op] [b] pos) (tTest (tOp r ta tb)) (mTest (mLift (pBin f ma mb))) :=
  ⟨pt_cmpR ho ha.pe hb.pe hm, sim_test (qp_cmp (pos := pos) ho hv ha hb hm).lift.sim⟩
theorem qt_val (h : QE X E g1 e te m) (he : ∀ whole, isTrue e X.env whole = (do let v ← whole; standAt e.pos; holding [v] (truthy v)) := by intro _; rfl) : QT X E e (tTest te) (mTest m) := ⟨pt_val h.pe he, sim_test h.sim⟩
theorem sim_tnot {K : PySem.W.Frag} (s : SimT K E tt mt) : SimT K E (tNot tt) (mNot mt) := by
  intro c H tv td σ ρ hl st Q q
  unfold mNot at q
  rw [then_bind] at q
  exact s c H tv td σ ρ hl st _ (q.imp fun r q1 H1 st1 => q1 H1 st1)
theorem qt_not (h : QT X E e tt mt) : QT X E (.UnaryOp .Not e pos) (tNot tt) (mNot mt) := ⟨pt_not h.pt, sim_tnot h.sim⟩
theorem QW.qt (h : QW X E e tt mt) : QT X E e tt mt := ⟨h.pw.pt, h.sim⟩
theorem qw_or1 (h : QT X E a tt mt) : QW X E (.BoolOp .Or [a] pos) tt mt := ⟨pw_or1 h.pt, h.sim⟩
theorem sim_tor {K : PySem.W.Frag} (s : SimT K E tt mt) (s2 : SimT K E tu mu) : SimT K E (tOr tt tu) (mOr mt mu) := by
  intro c H tv td σ ρ hl st Q q
  unfold mOr at q
  rw [then_bind] at q
  refine s c H tv td σ ρ hl st _ (q.imp ?_)
  rintro ⟨k, ρ1⟩ q1 H1 st1
  cases k with
  | true => exact q1 H1 st1
  | false => exact s2 c H1 tv td σ ρ1 hl st1 Q q1
theorem qw_or {rest : List Expr} (h : QT X E a tt mt) (h2 : QW X E (.BoolOp .Or (b :: rest) pos) tu mu) : QW X E (.BoolOp .Or (a :: b :: rest) pos) (tOr tt tu) (mOr mt mu) := ⟨pw_or h.pt h2.pw, sim_tor h.sim h2.sim⟩
def mAndV (m n : MEx) : MEx := fun ρ => (mTest m ρ).bind fun r => if r.1 = true then n r.2 else .ok (.d (.bool false), r.2)
def mOrV (m n : MEx) : MEx := fun ρ => (mTest m ρ).bind fun r => if r.1 = true then .ok (.d (.bool true), r.2) else n r.2
def mNotV (m : MEx) : MEx := fun ρ => (mTest m ρ).bind fun r => .ok (.d (.bool (!r.1)), r.2)
theorem StR.pushC {K : PySem.W.Frag} {c : C0} {H : Hp} {sl : List (Option V)} {ρ : Env} {v : V} {x : PyData} (h : StR K c H sl ρ) (f : ∀ F H, Fz K F H v x) : StR K c H (some v :: sl) (some (.d x) :: ρ) := let ⟨A, w⟩ := h; ⟨A, w.pushD (f _ _)⟩
def mFz (m : MEx) : MEx := fun ρ => (m ρ).bind fun r => match r.1.fz with | some x => .ok (.d x, r.2) | none => .bad
theorem StW.freezeTop {K : PySem.W.Frag} {c : C0} {H : Hp} {sl : List (Option V)} {ρ : Env} {A : List Addr} {v : V} {t : T} {x : PyData} (w : StW K c H (some v :: sl) (some t :: ρ) A) (e : t.fz = some x) : StR K c H (some v :: sl) (some (.d x) :: ρ) := by
  obtain ⟨A1, B, eA, r, s⟩ := w.top
  have hB : ∀ a, B.count a ≤ A.count a := fun a => by rw [eA, List.count_append]; omega
  have own1 : ∀ a ∈ A1, Fok c B a := fun a ha => by
    have h1 := List.count_pos_iff.mpr ha
    have h3 := w.uniq a
    rw [eA, List.count_append] at h3
    refine ⟨?_, fun z => ?_⟩
    · rcases w.own a (by rw [eA]; exact List.mem_append_left _ ha) with z | z
      · exact .inr (.inr z)
      · exact .inr (.inl z)
    · have := List.count_pos_iff.mpr z
      omega
  have f := r.freeze (fun a _ => Fok.sub hB a) own1 e
  have w' : StW K c H sl ρ B := ⟨fun a => Nat.le_trans (hB a) (w.uniq a), s.mono (.sub fun a _ => Fok.sub hB a) fun _ _ => rfl, fun a ha => w.own a (by rw [eA]; exact List.mem_append_right _ ha), w.keep⟩
  exact ⟨B, w'.pushD f⟩
theorem QE.fz (h : QE X E g1 e te m) : QE X E g1 e te (mFz m) := by
  refine ⟨h.pe, fun c H tv td σ ρ hl st Q q => ?_⟩
  unfold mFz at q
  rw [then_bind] at q
  refine h.sim c H tv td σ ρ hl st _ (q.imp ?_)
  rintro ⟨t, ρ1⟩ q1 v H1 sm st1
  dsimp only at q1
  cases e1 : t.fz with
  | none => rw [e1] at q1; exact q1.elim
  | some x =>
    rw [e1] at q1
    obtain ⟨A, w⟩ := st1
    exact q1 v H1 sm (w.freezeTop e1)
end
inductive Out where
  | next (ρ : Env) | ret (t : T) (ρ : Env) | brk (ρ : Env) | cont (ρ : Env)
abbrev MS := Env → R Out
structure SameIo (io : List Nat) (σ σ' : L2.St) : Prop where
  len : σ'.length = σ.length
  same : ∀ i ∈ io, σ'[i]? = σ[i]?
theorem SameIo.refl {io : List Nat} {σ : L2.St} : SameIo io σ σ := ⟨rfl, fun _ _ => rfl⟩
theorem SameIo.trans {io : List Nat} {σ σ1 σ2 : L2.St} (a : SameIo io σ σ1) (b : SameIo io σ1 σ2) : SameIo io σ σ2 := ⟨b.len.trans a.len, fun i h => (b.same i h).trans (a.same i h)⟩
theorem SameIo.set {io : List Nat} {σ : L2.St} {i : Nat} {o : Option V} (h : io.contains i = false) : SameIo io σ (σ.set i o) := ⟨by simp, fun j hj => by
  have e : i ≠ j := fun z => by
    subst z
    rw [List.contains_eq_mem] at h
    simp [hj] at h
  rw [List.getElem?_set_ne e]⟩
def OutTo (K : PySem.W.Frag) (c : C0) (tv : List (Option V)) (td : Env) (io : List Nat) (σ : L2.St) (D : Ends) : Out → Prop
  | .next ρ' => ∀ σ' H', SameIo io σ σ' → StR K c H' (tv ++ σ') (td ++ ρ') → D.nx σ' H'
  | .ret t ρ' => ∀ v σ' H', SameIo io σ σ' → StR K c H' (some v :: (tv ++ σ')) (some t :: (td ++ ρ')) → D.rt v H'
  | .brk ρ' => ∀ σ' H', SameIo io σ σ' → StR K c H' (tv ++ σ') (td ++ ρ') → D.bk σ' H'
  | .cont ρ' => ∀ σ' H', SameIo io σ σ' → StR K c H' (tv ++ σ') (td ++ ρ') → D.ct σ' H'
theorem OutTo.from {K : PySem.W.Frag} {c : C0} {tv : List (Option V)} {td : Env} {io : List Nat} {σ σ1 : L2.St} {D : Ends} {o : Out} (s : SameIo io σ σ1) (h : OutTo K c tv td io σ D o) : OutTo K c tv td io σ1 D o := by
  cases o with
  | next ρ => exact fun σ' H' s' st => h σ' H' (s.trans s') st
  | ret t ρ => exact fun v σ' H' s' st => h v σ' H' (s.trans s') st
  | brk ρ => exact fun σ' H' s' st => h σ' H' (s.trans s') st
  | cont ρ => exact fun σ' H' s' st => h σ' H' (s.trans s') st
def SimS (K : PySem.W.Frag) (E : Str → Hp → Prop) (io : List Nat) (ts : TS) (m : MS) : Prop :=
  ∀ (c : C0) (H : Hp) (tv : List (Option V)) (td : Env) (σ : L2.St) (ρ : Env), tv.length = td.length → StR K c H (tv ++ σ) (td ++ ρ) → ∀ D : Ends,
    Then (m ρ) (OutTo K c tv td io σ D) (fun x => ∀ H', KeepC c H' → E x H') → ts D σ H
structure QS (X : Cx) (E : Str → Hp → Prop) (io : List Nat) (s : Stmt) (ts : TS) (m : MS) : Prop where
  ps : PS X s ts
  sim : SimS X.K E io ts m
structure QSs (X : Cx) (E : Str → Hp → Prop) (io : List Nat) (s : List Stmt) (ts : TS) (m : MS) : Prop where
  ps : PSs X s ts
  sim : SimS X.K E io ts m
def SimS0 (K : PySem.W.Frag) (E : Str → Hp → Prop) (io : List Nat) (ts : TS) (m : MS) : Prop :=
  ∀ (c : C0) (H : Hp) (σ : L2.St) (ρ : Env), StR K c H σ ρ → ∀ D : Ends,
    Then (m ρ) (OutTo K c [] [] io σ D) (fun x => ∀ H', KeepC c H' → E x H') → ts D σ H
theorem SimS.z {K : PySem.W.Frag} {E : Str → Hp → Prop} {io : List Nat} {ts : TS} {m : MS} (h : SimS K E io ts m) : SimS0 K E io ts m := fun c H σ ρ st D q => h c H [] [] σ ρ rfl st D q
structure QSs0 (X : Cx) (E : Str → Hp → Prop) (io : List Nat) (s : List Stmt) (ts : TS) (m : MS) : Prop where
  ps : PSs X s ts
  sim : SimS0 X.K E io ts m
structure QS0 (X : Cx) (E : Str → Hp → Prop) (io : List Nat) (s : Stmt) (ts : TS) (m : MS) : Prop where
  ps : PS X s ts
  sim : SimS0 X.K E io ts m
theorem QSs.z {X : Cx} {E : Str → Hp → Prop} {io : List Nat} {s : List Stmt} {ts : TS} {m : MS} (h : QSs X E io s ts m) : QSs0 X E io s ts m := ⟨h.ps, h.sim.z⟩
theorem QS.z {X : Cx} {E : Str → Hp → Prop} {io : List Nat} {s : Stmt} {ts : TS} {m : MS} (h : QS X E io s ts m) : QS0 X E io s ts m := ⟨h.ps, h.sim.z⟩
def mNext : MS := fun ρ => .ok (.next ρ)
def mSeq (m n : MS) : MS := fun ρ => (m ρ).bind fun o => match o with | .next ρ1 => n ρ1 | o => .ok o
def mRet (m : MEx) : MS := fun ρ => (m ρ).bind fun r => .ok (.ret r.1 r.2)
def mDrop (m : MEx) : MS := fun ρ => (m ρ).bind fun r => .ok (.next r.2)
def mIfS (m : MT) (a b : MS) : MS := fun ρ => (m ρ).bind fun r => if r.1 = true then a r.2 else b r.2
def mBrk : MS := fun ρ => .ok (.brk ρ)
def mCont : MS := fun ρ => .ok (.cont ρ)
section
variable {X : Cx} {E : Str → Hp → Prop} {io : List Nat} {e a b c' : Expr} {st : Stmt} {rest : List Stmt} {te ta tb : TE} {tt tu : TT} {t u : TS} {m ma mb : MEx} {mt mu : MT} {ms mr : MS} {g1 g2 : Bool} {pos : Pos}
theorem sim_next {K : PySem.W.Frag} : SimS K E io tNext mNext := fun c H tv td σ ρ hl st D q => q σ H .refl st
theorem qss_nil : QSs X E io [] tNext mNext := ⟨pss_nil, sim_next⟩
theorem sim_seq {K : PySem.W.Frag} (s1 : SimS K E io t ms) (s2 : SimS K E io u mr) : SimS K E io (tSeq t u) (mSeq ms mr) := by
  intro c H tv td σ ρ hl st D q
  unfold mSeq at q
  rw [then_bind] at q
  refine s1 c H tv td σ ρ hl st { D with nx := u D } (q.imp ?_)
  intro o q1
  cases o with
  | next ρ1 => exact fun σ' H' s' st' => s2 c H' tv td σ' ρ1 hl st' D (q1.imp fun o' z => z.from s')
  | ret t ρ1 => exact q1
  | brk ρ1 => exact q1
  | cont ρ1 => exact q1
theorem qss_cons (h : QS X E io st t ms) (h2 : QSs X E io rest u mr) : QSs X E io (st :: rest) (tSeq t u) (mSeq ms mr) := ⟨pss_cons h.ps h2.ps, sim_seq h.sim h2.sim⟩
theorem qss_one (h : QS X E io st t ms) : QSs X E io [st] t ms := ⟨pss_one h.ps, h.sim⟩
theorem qs_ret (h : QE X E g1 e te m) : QS X E io (.Return (some e) pos) (tRet te) (mRet m) := by
  refine ⟨ps_ret h.pe, fun c H tv td σ ρ hl st D q => ?_⟩
  unfold mRet at q
  rw [then_bind] at q
  exact h.sim c H tv td σ ρ hl st _ (q.imp fun r q1 v H1 _ st1 => q1 v σ H1 .refl st1)
theorem qs_expr (h : QE X E g1 e te m) (hs : swapsWith e none pos.line X.env = pure false := by rfl) : QS X E io (.Expr e pos) (tDrop te) (mDrop m) := by
  refine ⟨ps_expr h.pe hs, fun c H tv td σ ρ hl st D q => ?_⟩
  unfold mDrop at q
  rw [then_bind] at q
  exact h.sim c H tv td σ ρ hl st _ (q.imp fun r q1 v H1 _ st1 => q1 σ H1 .refl st1.drop)
theorem qs_if {p q' : List Stmt} (h : QT X E c' tt mt) (h1 : QSs X E io p t ms) (h2 : QSs X E io q' u mr) : QS X E io (.If c' p q' pos) (tIfS tt t u) (mIfS mt ms mr) := by
  refine ⟨ps_if h.pt h1.ps h2.ps, fun c H tv td σ ρ hl st D q => ?_⟩
  unfold mIfS at q
  rw [then_bind] at q
  refine h.sim c H tv td σ ρ hl st _ (q.imp ?_)
  rintro ⟨k, ρ1⟩ q1 H1 st1
  cases k with
  | true => exact h1.sim c H1 tv td σ ρ1 hl st1 D q1
  | false => exact h2.sim c H1 tv td σ ρ1 hl st1 D q1
def mNever : MS := fun _ => .bad
theorem qs_never : QS X E io st tNever mNever := ⟨ps_never, fun c H tv td σ ρ hl st D q => q.elim⟩
structure SameP (pr : Nat → Bool) (σ σ' : L2.St) : Prop where
  len : σ'.length = σ.length
  same : ∀ i, pr i = true → σ'[i]? = σ[i]?
theorem SameP.refl {pr : Nat → Bool} {σ : L2.St} : SameP pr σ σ := ⟨rfl, fun _ _ => rfl⟩
theorem SameP.trans {pr : Nat → Bool} {σ σ1 σ2 : L2.St} (a : SameP pr σ σ1) (b : SameP pr σ1 σ2) : SameP pr σ σ2 := ⟨b.len.trans a.len, fun i h => (b.same i h).trans (a.same i h)⟩
theorem SameP.set {pr : Nat → Bool} {σ : L2.St} {i : Nat} {o : Option V} (h : pr i = false) : SameP pr σ (σ.set i o) := ⟨by simp, fun j hj => by
  have e : i ≠ j := fun z => by
    subst z
    rw [h] at hj
    cases hj
  rw [List.getElem?_set_ne e]⟩
abbrev inIo (io : List Nat) : Nat → Bool := fun i => io.contains i
theorem SameP.toIo {io : List Nat} {σ σ' : L2.St} (h : SameP (inIo io) σ σ') : SameIo io σ σ' := ⟨h.len, fun i hi => h.same i (by show io.contains i = true; rw [List.contains_eq_mem]; exact decide_eq_true hi)⟩
variable {pr : Nat → Bool}
abbrev MG := T → Env → Option Env
def SimG (K : PySem.W.Frag) (pr : Nat → Bool) (tg : TG) (m : MG) : Prop :=
  ∀ (c : C0) (H : Hp) (tv : List (Option V)) (td : Env) (σ : L2.St) (ρ ρ' : Env) (v : V) (t : T), tv.length = td.length → StR K c H (some v :: (tv ++ σ)) (some t :: (td ++ ρ)) → m t ρ = some ρ' → ∀ Q : L2.St → Hp → Prop,
    (∀ σ' H', SameP pr σ σ' → StR K c H' (tv ++ σ') (td ++ ρ') → Q σ' H') → tg v σ H Q
structure QG (X : Cx) (pr : Nat → Bool) (e : Expr) (tg : TG) (m : MG) : Prop where
  pg : PG X e tg
  sim : SimG X.K pr tg m
def mgName (i : Nat) : MG := fun t ρ => some (ρ.set i (some t))
theorem StR.store {K : PySem.W.Frag} {c : C0} {H : Hp} {tv : List (Option V)} {td : Env} {σ : L2.St} {ρ : Env} {v : V} {t : T} {i : Nat} (hl : tv.length = td.length) (h : StR K c H (some v :: (tv ++ σ)) (some t :: (td ++ ρ))) : StR K c H (tv ++ σ.set i (some v)) (td ++ ρ.set i (some t)) := by
  obtain ⟨A, w⟩ := h
  obtain ⟨A1, B, eA, r, s⟩ := w.top
  have hlen : (tv ++ σ).length = (td ++ ρ).length := s.len
  by_cases hi : i < σ.length
  · obtain ⟨B1, hb, ar, _⟩ := s.around (i := tv.length + i) (by rw [List.length_append]; omega)
    obtain ⟨C, s', z⟩ := ar.put (Mono.sub fun _ _ x => x) (fun _ _ => rfl) r
    rw [app_set rfl, app_set hl.symm] at s'
    refine ⟨C, w.remake (fun a => ?_) s'⟩
    rw [z a, eA, List.count_append]
    have := hb a
    omega
  · have hi2 : ¬ i < ρ.length := by
      rw [List.length_append, List.length_append] at hlen; omega
    rw [List.set_eq_of_length_le (by omega), List.set_eq_of_length_le (by omega)]
    exact ⟨B, w.remake (fun a => by rw [eA, List.count_append]; omega) s⟩
theorem sim_gname {K : PySem.W.Frag} {i : Nat} (hio : pr i = false) : SimG K pr (gName i) (mgName i) := by
  intro c H tv td σ ρ ρ' v t hl st e Q q
  cases e
  exact q _ H (.set hio) (st.store hl)
theorem qg_name {i : Nat} {x : Str} (hN : X.N.Nodup) (hi : X.N[i]? = some x := by rfl) (hx : Loc X.env.scope x := by first | exact Or.inl rfl | exact Or.inr rfl) (hio : pr i = false := by rfl) (hf : X.fn x = true ∨ X.env.scope.names.lookup x = some .local := by first | exact .inl rfl | exact .inr rfl | assumption) : QG X pr (.Name x pos) (gName i) (mgName i) :=
  ⟨pg_name hN hi hx hf, sim_gname hio⟩
def mAsg (m : MEx) (g : MG) : MS := fun ρ => (m ρ).bind fun r => (ofO (g r.1 r.2)).bind fun ρ' => .ok (.next ρ')
theorem sim_asg {K : PySem.W.Frag} {g : TG} {mg : MG} (s : SimE K E g1 te m) (sg : SimG K (inIo io) g mg) : SimS K E io (tAsg te g) (mAsg m mg) := by
  intro c H tv td σ ρ hl st D q
  unfold mAsg at q
  rw [then_bind] at q
  refine s c H tv td σ ρ hl st _ (q.imp ?_)
  intro r q1 v H1 _ st1
  obtain ⟨ρ', e, q2⟩ := then_ofO.mp (then_bind.mp q1)
  exact sg c H1 tv td σ r.2 ρ' v r.1 hl st1 e _ fun σ' H' s st' => q2 σ' H' s.toIo st'
theorem qs_set {i : Nat} {x : Str} {pos' : Pos} (hN : X.N.Nodup) (he : QE X E g1 e te m) (hi : X.N[i]? = some x := by rfl) (hx : Loc X.env.scope x := by first | exact Or.inl rfl | exact Or.inr rfl) (hs : swapsWith e (some (.Name x pos')) pos.line X.env = pure false := by rfl) (hio : inIo io i = false := by rfl)
    (hf : X.fn x = true ∨ X.env.scope.names.lookup x = some .local := by first | exact .inl rfl | exact .inr rfl | assumption) : QS X E io (.Assign [.Name x pos'] e pos) (tAsg te (gName i)) (mAsg m (mgName i)) := ⟨ps_set hN hi hx he.pe hs hf, sim_asg he.sim (sim_gname hio)⟩
theorem qs_asg {tg : Expr} {g : TG} {mg : MG} (he : QE X E g1 e te m) (hg : QG X (inIo io) tg g mg) (hs : swapsWithSole [tg] e pos.line X.env = pure false := by rfl) (hw : swappedStores [tg] e X.env = pure none := by rfl)
    (h1 : (assignEach [tg] X.env).map (·.2) = [assign tg X.env] := by rfl) : QS X E io (.Assign [tg] e pos) (tAsg te g) (mAsg m mg) := ⟨ps_asg he.pe hg.pg hs hw h1, sim_asg he.sim hg.sim⟩
abbrev MGs := List T → Env → Option Env
def SimGs (K : PySem.W.Frag) (pr : Nat → Bool) (tg : TGs) (m : MGs) : Prop :=
  ∀ (c : C0) (H : Hp) (tv : List (Option V)) (td : Env) (σ : L2.St) (ρ ρ' : Env) (vs : List V) (ts : List T), tv.length = td.length → vs.length = ts.length → StR K c H (vs.map some ++ (tv ++ σ)) (ts.map some ++ (td ++ ρ)) → m ts ρ = some ρ' → ∀ Q : L2.St → Hp → Prop,
    (∀ σ' H', SameP pr σ σ' → StR K c H' (tv ++ σ') (td ++ ρ') → Q σ' H') → tg vs σ H Q
structure QGs (X : Cx) (pr : Nat → Bool) (es : List Expr) (tg : TGs) (m : MGs) : Prop where
  pg : PGs X es tg
  sim : SimGs X.K pr tg m
def mgNil : MGs := fun ts ρ => if ts.isEmpty then some ρ else none
def mgCons (g : MG) (r : MGs) : MGs := fun ts ρ => match ts with | t :: ts => (g t ρ).bind fun ρ1 => r ts ρ1 | [] => none
def T.parts : T → Option (List T)
  | .d (.tuple ds) => some (ds.map T.d)
  | .ot ts => some ts
  | _ => none
def mgTup (n : Nat) (r : MGs) : MG := fun t ρ => match t.parts with | some ts => if ts.length = n then r ts ρ else none | none => none
section
variable {K : PySem.W.Frag} {F : Addr → Prop} {H : Hp}
theorem Sl.many : ∀ {vs : List V} {ts : List T} {A B : List Addr} {sl : List (Option V)} {ρ : Env}, RpAll K F H vs ts A → Sl K F H sl ρ B → Sl K F H (vs.map some ++ sl) (ts.map some ++ ρ) (A ++ B)
  | _, _, _, _, _, _, .nil, s => s
  | _, _, _, _, _, _, .cons x r, s => by
    rw [List.append_assoc]
    exact .cons x (Sl.many r s)
theorem Rp.parts {v : V} {t : T} {ts : List T} {A : List Addr} (h : Rp K F H v t A) (e : t.parts = some ts) : ∃ a vs, v = .ref a ∧ SqT K H a vs ∧ RpAll K F H vs ts A := by
  unfold T.parts at e
  split at e
  · cases e
    cases h with
    | d h =>
      cases h with
      | tup h f => exact ⟨_, _, rfl, h, RpAll.ofFz f⟩
  · cases e
    cases h with
    | ot h r => exact ⟨_, _, rfl, .of h, r⟩
  · cases e
end
end
end L3
namespace L3
open PySem PySem.Spec PyProof.Rows L2
section
variable {K : PySem.W.Frag} {F F' : Addr → Prop} {H H' : Hp}
theorem Sl.raiseO : ∀ {xs : List (Option V)} {as : Env} {ys : List (Option V)} {bs : Env} {v : Option V} {t : Option T} {A : List Addr}, xs.length = as.length → Sl K F H (xs ++ v :: ys) (as ++ t :: bs) A →
    ∃ C, Sl K F H (v :: (xs ++ ys)) (t :: (as ++ bs)) C ∧ ∀ a, C.count a = A.count a
  | [], [], _, _, _, _, A, _, h => ⟨A, h, fun _ => rfl⟩
  | o :: xs, a :: as, ys, bs, v, t, _, hl, h => by
    have hl' : xs.length = as.length := by simpa using hl
    cases h with
    | skip r =>
      obtain ⟨C, s, z⟩ := r.raiseO hl'
      cases s with
      | cons x s => exact ⟨_, .cons x (.skip s), z⟩
      | skip s => exact ⟨_, .skip (.skip s), z⟩
    | cons y r =>
      rename_i u t0 A1 B1
      obtain ⟨C, s, z⟩ := r.raiseO hl'
      cases s with
      | cons x s =>
        rename_i A2 B2
        exact ⟨_, .cons x (.cons y s), fun a => by have := z a; simp only [List.count_append] at this ⊢; omega⟩
      | skip s => exact ⟨_, .skip (.cons y s), fun a => by have := z a; simp only [List.count_append] at this ⊢; omega⟩
  | [], _ :: _, _, _, _, _, _, hl, _ => by simp at hl
  | _ :: _, [], _, _, _, _, _, hl, _ => by simp at hl
end
def sel (io : List Nat) (vs : List V) : List V := io.filterMap fun i => vs[i]?
structure KeepF (H H' : Hp) (A : List Addr) : Prop where
  keep : ∀ a o, H a = some o → a ∉ A → H' a = some o
  there : ∀ a, H' a = none → H a = none
def EX (cl : Str → Option Addr) (E : XK) : Str → Hp → Prop := fun x H' => ∀ C, cl x = some C → E (.ref C) none H'
def spT (K : PySem.W.Frag) (rz : Bool) (cl : Str → Option Addr) (n : Nat) (io : List Nat) (m : List T → R (T × List T)) : Sp := fun vs H Q E => ∃ (ts : List T) (F : Addr → Prop) (A : List Addr), vs.length = n ∧ (∀ a, A.count a ≤ 1) ∧ RpAll K (fun a => F a ∧ a ∉ A) H vs ts A ∧
  Then (m ts) (fun r => ∀ v H' A', (∀ a, A'.count a ≤ 1) → (∀ a ∈ A', a ∈ A ∨ H a = none) → KeepF H H' A → (io = [] → A = [] → Same H H') → RpAll K (fun a => (F a ∨ H a = none ∨ a ∈ A) ∧ a ∉ A') H' (v :: sel io vs) (r.1 :: r.2) A' → Q v H') (fun x => rz = true ∧ ∀ H', KeepF H H' A → EX cl E x H')
def outs : List Nat → Env → R (List T)
  | [], _ => .ok []
  | i :: r, ρ => match ρ[i]? with
    | some (some t) => (outs r ρ).bind fun os => .ok (t :: os)
    | _ => .bad
def mFn (io : List Nat) (k : Nat) (ms : MS) : List T → R (T × List T) := fun ts => (ms (ts.map some ++ List.replicate k none)).bind fun o => match o with
  | .ret t ρ => (outs io ρ).bind fun os => .ok (t, os)
  | .next ρ => (outs io ρ).bind fun os => .ok (.d .none, os)
  | _ => .bad
section
variable {K : PySem.W.Frag} {F F' : Addr → Prop} {H H' : Hp}
theorem outs_cons {i : Nat} {r : List Nat} {ρ : Env} {os : List T} (e : outs (i :: r) ρ = .ok os) : ∃ t os', ρ[i]? = some (some t) ∧ outs r ρ = .ok os' ∧ os = t :: os' := by
  unfold outs at e
  split at e
  · rename_i t e0
    cases e1 : outs r ρ with
    | ok os' => rw [e1] at e; cases e; exact ⟨t, os', e0, rfl, rfl⟩
    | exc _ => rw [e1] at e; cases e
    | bad => rw [e1] at e; cases e
  · cases e
theorem outs_gone {i : Nat} : ∀ {r : List Nat} {ρ : Env} {os : List T}, i ∉ r → outs r ρ = .ok os → outs r (ρ.set i none) = .ok os
  | [], _, _, _, e => e
  | j :: r, ρ, os, h, e => by
    obtain ⟨t, os', e1, e2, rfl⟩ := outs_cons e
    have hj : i ≠ j := fun z => h (by rw [z]; exact List.mem_cons_self)
    have e3 := outs_gone (fun z => h (List.mem_cons_of_mem _ z)) e2
    unfold outs
    rw [List.getElem?_set_ne hj, e1]
    dsimp only
    rw [e3]
    rfl
theorem Sl.pick {us : List V} : ∀ {io : List Nat} {sl : List (Option V)} {ρ : Env} {A : List Addr} {os : List T}, io.Nodup → (∀ i ∈ io, ∃ v, us[i]? = some v ∧ sl[i]? = some (some v)) → Sl K F H sl ρ A → outs io ρ = .ok os →
    ∃ A1 B, RpAll K F H (sel io us) os A1 ∧ ∀ a, A1.count a + List.count a B = A.count a
  | [], _, _, A, _, _, _, s, e => by cases e; exact ⟨[], A, .nil, fun a => by simp⟩
  | i :: io, sl, ρ, A, os, nd, hv, s, e => by
    obtain ⟨t, os', e1, e2, rfl⟩ := outs_cons e
    obtain ⟨v, hv1, hv2⟩ := hv i List.mem_cons_self
    have hi : i < sl.length := (List.getElem?_eq_some_iff.mp hv2).1
    obtain ⟨B, hb, ar, get⟩ := s.around hi
    obtain ⟨v', A1, e3, x, hc⟩ := get t e1
    have ev : v' = v := by rw [hv2] at e3; cases e3; rfl
    subst ev
    obtain ⟨C, s', z⟩ := ar.gone (some v')
    have hnd := List.nodup_cons.mp nd
    rw [set_self hv2] at s'
    obtain ⟨A2, B2, ra, hc2⟩ := Sl.pick (us := us) hnd.2 (fun j hj => hv j (List.mem_cons_of_mem _ hj)) s' (outs_gone hnd.1 e2)
    refine ⟨A1 ++ A2, B2, ?_, fun a => ?_⟩
    · have : sel (i :: io) us = v' :: sel io us := by unfold sel; rw [List.filterMap_cons, hv1]
      rw [this]
      exact .cons x ra
    · have h1 := hc a
      have h2 := hc2 a
      have h3 := z a
      rw [List.count_append]
      omega
theorem Sl.nones : ∀ (k : Nat) (sl : List (Option V)), sl.length = k → Sl K F H sl (List.replicate k none) []
  | 0, [], _ => .nil
  | k + 1, o :: sl, h => by
    rw [List.replicate_succ]
    exact .skip (Sl.nones k sl (by simpa using h))
  | 0, _ :: _, h => by simp at h
  | _ + 1, [], h => by simp at h
theorem start_eq (N : List Str) (vs : List V) : start N vs = vs.map some ++ List.replicate (N.length - vs.length) none := rfl
theorem body_run {E : Str → Hp → Prop} {io : List Nat} {tb : TS} {ms : MS} {cl : Str → Option Addr} {N : List Str} {vs : List V} {Q : VK} {Ek : XK} {rz : Bool} {n : Nat} (sm : SimS0 K E io tb ms) (hE : ∀ x H', EX cl Ek x H' → E x H') (hnd : io.Nodup) (hio : ∀ i ∈ io, i < n)
    (h : spT K rz cl n io (mFn io (N.length - n) ms) vs H Q Ek) : tb { nx := fun _ H' => Q .non H', rt := Q } (start N vs) H := by
  obtain ⟨ts, F, A, hn, u, ra, q⟩ := h
  have hts := ra.len
  unfold mFn at q
  rw [then_bind] at q
  have c0 : Sl K (Fok ⟨H, A, F⟩ A) H (start N vs) (ts.map some ++ List.replicate (N.length - n) none) A := by
    rw [start_eq, hn]
    have r2 : RpAll K (Fok ⟨H, A, F⟩ A) H vs ts A := ra.mono (.sub fun a _ ⟨x, y⟩ => ⟨.inl x, y⟩) fun _ _ => rfl
    have := Sl.many r2 (Sl.nones (N.length - n) (List.replicate (N.length - n) none) (by simp))
    rwa [List.append_nil] at this
  have w0 : StW K ⟨H, A, F⟩ H (start N vs) (ts.map some ++ List.replicate (N.length - n) none) A := ⟨u, c0, fun a ha => .inl ha, ⟨fun _ _ e _ => e, fun _ e => e⟩⟩
  refine sm ⟨H, A, F⟩ H (start N vs) _ ⟨A, w0⟩ _ (q.mono ?_ fun x k H' kc => hE _ _ (k.2 H' ⟨kc.keep, kc.there⟩))
  have pickS : ∀ {σ' : L2.St} {H' : Hp} {ρ' : Env} {os : List T} {B : List Addr} {F1 : Addr → Prop}, SameIo io (start N vs) σ' → Sl K F1 H' σ' ρ' B → outs io ρ' = .ok os → ∃ A1 B1, RpAll K F1 H' (sel io vs) os A1 ∧ ∀ a, A1.count a + List.count a B1 = B.count a := by
    intro σ' H' ρ' os B F1 s' sl eo
    refine Sl.pick hnd (fun i hi => ?_) sl eo
    have h1 : i < vs.length := by have := hio i hi; omega
    refine ⟨vs[i], List.getElem?_eq_getElem h1, ?_⟩
    rw [s'.same i hi, start_eq, List.getElem?_append_left (by simpa using h1), List.getElem?_map, List.getElem?_eq_getElem h1]
    rfl
  have fin : ∀ {v : V} {t : T} {σ' : L2.St} {H' : Hp} {ρ' : Env} {os : List T}, SameIo io (start N vs) σ' → StR K ⟨H, A, F⟩ H' (some v :: σ') (some t :: ρ') → outs io ρ' = .ok os →
      (∀ v H' A', (∀ a, A'.count a ≤ 1) → (∀ a ∈ A', a ∈ A ∨ H a = none) → KeepF H H' A → (io = [] → A = [] → Same H H') → RpAll K (fun a => (F a ∨ H a = none ∨ a ∈ A) ∧ a ∉ A') H' (v :: sel io vs) (t :: os) A' → Q v H') → Q v H' := by
    intro v t σ' H' ρ' os s' st eo k
    obtain ⟨A2, w⟩ := st
    obtain ⟨A3, B, eA, x, s⟩ := w.top
    obtain ⟨A4, B4, rr, hc⟩ := pickS s' s eo
    have hle : ∀ a, (A3 ++ A4).count a ≤ A2.count a := fun a => by rw [eA, List.count_append, List.count_append]; have := hc a; omega
    refine k v H' (A3 ++ A4) (fun a => Nat.le_trans (hle a) (w.uniq a)) (fun a ha => ?_) ⟨w.keep.keep, w.keep.there⟩ (fun _ eA0 a o e => w.keep.keep a o e (by rw [eA0]; simp)) ?_
    · exact w.own a (List.count_pos_iff.mp (Nat.lt_of_lt_of_le (List.count_pos_iff.mpr ha) (hle a)))
    · exact (RpAll.cons x rr).mono (.sub fun a _ => Fok.sub hle a) fun _ _ => rfl
  intro o qo
  cases o with
  | ret t ρ' =>
    intro v σ' H' s' st
    cases eo : outs io ρ' with
    | ok os =>
      have qo' : Then ((outs io ρ').bind fun os => R.ok (t, os)) _ _ := qo
      rw [eo] at qo'
      exact fin s' st eo qo'
    | exc _ => have qo' : Then ((outs io ρ').bind fun os => R.ok (t, os)) _ _ := qo; rw [eo] at qo'; exact (outs_noexc eo).elim
    | bad => have qo' : Then ((outs io ρ').bind fun os => R.ok (t, os)) _ _ := qo; rw [eo] at qo'; exact qo'.elim
  | next ρ' =>
    intro σ' H' s' st
    have st2 : StR K ⟨H, A, F⟩ H' (some .non :: σ') (some (.d .none) :: ρ') := st.pushC fun _ _ => .non
    cases eo : outs io ρ' with
    | ok os =>
      have qo' : Then ((outs io ρ').bind fun os => R.ok (T.d .none, os)) _ _ := qo
      rw [eo] at qo'
      exact fin s' st2 eo qo'
    | exc _ => have qo' : Then ((outs io ρ').bind fun os => R.ok (T.d .none, os)) _ _ := qo; rw [eo] at qo'; exact (outs_noexc eo).elim
    | bad => have qo' : Then ((outs io ρ').bind fun os => R.ok (T.d .none, os)) _ _ := qo; rw [eo] at qo'; exact qo'.elim
  | brk ρ' => exact qo.elim
  | cont ρ' => exact qo.elim
where
  outs_noexc {io : List Nat} {ρ : Env} {x : Str} (e : outs io ρ = .exc x) : False := by
    induction io with
    | nil => cases e
    | cons i r ih =>
      unfold outs at e
      split at e
      · cases e1 : outs r ρ with
        | ok os => rw [e1] at e; cases e
        | exc y => rw [e1] at e; cases e; exact ih e1
        | bad => rw [e1] at e; cases e
      · cases e
end
section
variable {P : Program} {w : World} {K : PySem.W.Frag} {mg : Str → Option Value} {base : Heap} {cl : Str → Option Addr}
theorem fnT {x qual : Str} {st : Stmt} {f : Addr} {fd : FuncData} {N ps : List Str} {k : Nat} {io : List Nat} {ms : MS} (Fu : Fun K x qual st f fd) (S : FnScope N ps (defScope st)) (hnd : io.Nodup) (hio : ∀ i ∈ io, i < ps.length)
    (body : ∀ (cdv : Value) (A : Around) (outer : List PySem.Env) (s : Shared) (H : Hp) (E : XK), Room k (A.deeper (envOfC qual (defScope st) s.heap.objs.size f cdv)) →
      ∃ t, QSs ((cxOf CX0 P w K mg base N qual (defScope st) f cdv A outer s H E).nox) (EX cl E0) io (defBody st) t ms) : FnOk P w K mg base CX0 (k + 1) f fd ps (spT K false cl ps.length io (mFn io (N.length - ps.length) ms)) := by
  refine Fu.ok S (fun vs H Q E h => by obtain ⟨_, _, _, h, _⟩ := h; exact h) fun cdv A outer s H vs Q E hr h => ?_
  obtain ⟨t, b⟩ := body cdv A outer s H E hr
  refine ⟨t, b.ps, ?_⟩
  obtain ⟨ts, F, A1, h1, h2, h3, h4⟩ := h
  exact body_run (Ek := E0) (rz := false) b.sim.z (fun _ _ z => z) hnd hio ⟨ts, F, A1, h1, h2, h3, h4.mono (fun _ z => z) fun _ z => by cases z.1⟩
end
abbrev MB := Env → R (List (Option T) × Env)
def SimB (K : PySem.W.Frag) (E : Str → Hp → Prop) (gr : Bool) (ks : List (Option Nat)) (ta : TA) (m : MB) : Prop :=
  ∀ (c : C0) (H : Hp) (tv : List (Option V)) (td : Env) (σ : L2.St) (ρ : Env), tv.length = td.length → StR K c H (tv ++ σ) (td ++ ρ) → ∀ Q : List V → Hp → Prop,
    Then (m ρ) (fun r => ∀ vs H', (gr = true → Same H H') → vs.length = r.1.length → (∀ (j i : Nat), ks[j]? = some (some i) → ∃ v, vs[j]? = some v ∧ σ[i]? = some (some v)) → StR K c H' (vs.map some ++ (tv ++ σ)) (r.1 ++ (td ++ r.2)) → Q vs H') (fun x => ∀ H', KeepC c H' → E x H') → ta σ H Q
structure QB (X : Cx) (E : Str → Hp → Prop) (gr : Bool) (ks : List (Option Nat)) (es : List Expr) (ta : TA) (m : MB) : Prop where
  pa : PA X es ta
  sim : SimB X.K E gr ks ta m
def mbNil : MB := fun ρ => .ok ([], ρ)
def mbCons (m : MEx) (r : MB) : MB := fun ρ => (m ρ).bind fun x => (r x.2).bind fun y => .ok (some x.1 :: y.1, y.2)
def mbIo (i : Nat) (r : MB) : MB := fun ρ => match ρ[i]? with | some (some _) => (r ρ).bind fun y => .ok (none :: y.1, y.2) | _ => .bad
theorem StR.raiseO {K : PySem.W.Frag} {c : C0} {H : Hp} {xs : List (Option V)} {as : Env} {ys : List (Option V)} {bs : Env} {v : Option V} {t : Option T} (hl : xs.length = as.length) (h : StR K c H (xs ++ v :: ys) (as ++ t :: bs)) : StR K c H (v :: (xs ++ ys)) (t :: (as ++ bs)) := by
  obtain ⟨A, w⟩ := h
  obtain ⟨C, s, z⟩ := w.slots.raiseO hl
  exact ⟨C, w.remake (fun a => Nat.le_of_eq (z a)) s⟩
section
variable {X : Cx} {E : Str → Hp → Prop} {e : Expr} {es : List Expr} {te : TE} {t : TA} {m : MEx} {r : MB} {ks : List (Option Nat)} {g1 g2 : Bool} {pos : Pos}
theorem qb_nil : QB X E true [] [] tNil mbNil := ⟨pa_nil, fun c H tv td σ ρ hl st Q q => q [] H (fun _ => Same.refl H) rfl (fun _ _ z => by simp at z) st⟩
theorem qb_cons (h : QE X E g1 e te m) (hr : QB X E g2 ks es t r) (hs : starEach (e :: es) X.env = (false, eval e X.env) :: starEach es X.env := by rfl) : QB X E (g1 && g2) (none :: ks) (e :: es) (tCons te t) (mbCons m r) := by
  refine ⟨pa_cons h.pe hr.pa hs, fun c H tv td σ ρ hl st Q q => ?_⟩
  unfold mbCons at q
  rw [then_bind] at q
  refine h.sim c H tv td σ ρ hl st _ (q.imp ?_)
  intro x q1 v H1 sm1 st1
  rw [then_bind] at q1
  refine hr.sim c H1 (some v :: tv) (some x.1 :: td) σ x.2 (by simp [hl]) st1 _ (q1.imp ?_)
  intro y q2 vs H2 sm2 hvs hk st2
  refine q2 (v :: vs) H2 (fun e => by rw [Bool.and_eq_true] at e; exact (sm1 e.1).trans (sm2 e.2)) (by simp [hvs]) (fun j i z => ?_) ?_
  · cases j with
    | zero => simp at z
    | succ j => exact hk j i (by simpa using z)
  · exact StR.raiseO (xs := vs.map some) (as := y.1) (by simp [hvs]) st2
theorem qb_io (i : Nat) {x : Str} {p : Pos} (hr : QB X E g2 ks es t r) (hN : X.N[i]? = some x := by rfl) (hv : Vis X.env.scope x := by first | exact Or.inl rfl | exact Or.inr (Or.inl rfl) | exact Or.inr (Or.inr rfl)) (hd : (x == ("__debug__" : Str)) = false := by decide)
    (hcd : (x == ("__classdict__" : Str)) = false := by decide) (hs : starEach (.Name x p :: es) X.env = (false, eval (.Name x p) X.env) :: starEach es X.env := by rfl) : QB X E g2 (some i :: ks) (.Name x p :: es) (tCons (tVar i) t) (mbIo i r) := by
  refine ⟨pa_cons (pe_var hN hv hd hcd) hr.pa hs, fun c H tv td σ ρ hl st Q q => ?_⟩
  unfold mbIo at q
  split at q
  · rename_i t0 e0
    rw [then_bind] at q
    obtain ⟨A, w⟩ := st
    obtain ⟨v, A1, e3, _, _⟩ := w.see hl e0
    refine ⟨v, e3, ?_⟩
    have st' : StR X.K c H ((some v :: tv) ++ σ) ((none :: td) ++ ρ) := ⟨A, w.uniq, .skip w.slots, w.own, w.keep⟩
    refine hr.sim c H (some v :: tv) (none :: td) σ ρ (by simp [hl]) st' _ (q.imp ?_)
    intro y q2 vs H2 sm2 hvs hk st2
    refine q2 (v :: vs) H2 sm2 (by simp [hvs]) (fun j i' z => ?_) ?_
    · cases j with
      | zero =>
        have : i = i' := by simpa using z
        subst this
        exact ⟨v, rfl, e3⟩
      | succ j => exact hk j i' (by simpa using z)
    · exact StR.raiseO (xs := vs.map some) (as := y.1) (by simp [hvs]) st2
  · exact q.elim
end
def fillIo : List (Option Nat) → List (Option T) → Env → Option (List T × Env)
  | [], [], ρ => some ([], ρ)
  | none :: ks, some t :: ts, ρ => (fillIo ks ts ρ).map fun r => (t :: r.1, r.2)
  | some i :: ks, none :: ts, ρ => match ρ[i]? with
    | some (some t) => (fillIo ks ts (ρ.set i none)).map fun r => (t :: r.1, r.2)
    | _ => none
  | _, _, _ => none
def putIo : List Nat → List T → Env → Option Env
  | [], [], ρ => some ρ
  | i :: is, t :: ts, ρ => putIo is ts (ρ.set i (some t))
  | _, _, _ => none
def R.nx {α : Type} : R α → R α
  | .exc _ => .bad
  | r => r
section
variable {K : PySem.W.Frag} {F F' : Addr → Prop} {H H' : Hp}
theorem Sl.fill {tv : List (Option V)} {td : Env} {σ : L2.St} (hl : tv.length = td.length) : ∀ {ks : List (Option Nat)} {vs : List V} {os : List (Option T)} {ρ ρ2 : Env} {ts : List T} {A : List Addr}, vs.length = os.length →
    (∀ (j i : Nat), ks[j]? = some (some i) → ∃ v, vs[j]? = some v ∧ σ[i]? = some (some v)) → Sl K F H (vs.map some ++ (tv ++ σ)) (os ++ (td ++ ρ)) A → fillIo ks os ρ = some (ts, ρ2) →
    ∃ A1 B, RpAll K F H vs ts A1 ∧ Sl K F H (tv ++ σ) (td ++ ρ2) B ∧ ∀ a, A1.count a + B.count a = A.count a
  | [], [], [], ρ, ρ2, ts, A, _, _, s, e => by
    cases e
    exact ⟨[], A, .nil, s, fun a => by simp⟩
  | none :: ks, v :: vs, some t :: os, ρ, ρ2, ts, A, hv, hk, s, e => by
    unfold fillIo at e
    obtain ⟨r, e1, e2⟩ := Option.map_eq_some_iff.mp e
    cases e2
    cases s with
    | cons x s =>
      rename_i A0 B0
      obtain ⟨A1, B, ra, s', hc⟩ := Sl.fill hl (by simpa using hv) (fun j i z => hk (j + 1) i (by simpa using z)) s e1
      exact ⟨A0 ++ A1, B, .cons x ra, s', fun a => by have := hc a; rw [List.count_append, List.count_append]; omega⟩
  | some i :: ks, v :: vs, none :: os, ρ, ρ2, ts, A, hv, hk, s, e => by
    unfold fillIo at e
    split at e
    · rename_i t e0
      obtain ⟨r, e1, e2⟩ := Option.map_eq_some_iff.mp e
      cases e2
      obtain ⟨v', h1, h2⟩ := hk 0 i rfl
      have ev : v = v' := by simpa using h1
      subst ev
      cases s with
      | skip s0 =>
        have s : Sl K F H (vs.map some ++ (tv ++ σ)) (os ++ (td ++ ρ)) A := s0
        have hv' : vs.length = os.length := by simpa using hv
        have hlen := s.len
        have hi : i < σ.length := (List.getElem?_eq_some_iff.mp h2).1
        obtain ⟨B0, hb, ar, get⟩ := s.around (i := vs.length + (tv.length + i)) (by simp only [List.length_append, List.length_map]; omega)
        have e3 : (os ++ (td ++ ρ))[vs.length + (tv.length + i)]? = some (some t) := by rw [app_at hv'.symm, app_at hl.symm, e0]
        obtain ⟨v2, A2, e4, x, hc⟩ := get t e3
        have e5 : (vs.map some ++ (tv ++ σ))[vs.length + (tv.length + i)]? = some (some v) := by rw [app_at (by simp), app_at rfl, h2]
        have : v2 = v := by rw [e4] at e5; cases e5; rfl
        subst this
        obtain ⟨C, s', z⟩ := ar.gone (some v2)
        rw [app_set (by simp), app_set rfl, set_self h2, app_set hv'.symm, app_set hl.symm] at s'
        obtain ⟨A1, B, ra, s2, hc2⟩ := Sl.fill hl hv' (fun j i z => hk (j + 1) i (by simpa using z)) s' e1
        exact ⟨A2 ++ A1, B, .cons x ra, s2, fun a => by have := hc a; have := hc2 a; have := z a; rw [List.count_append]; omega⟩
    · cases e
  | [], _ :: _, some _ :: _, _, _, _, _, hv, _, _, e => by cases e
  | [], _ :: _, none :: _, _, _, _, _, hv, _, _, e => by cases e
  | [], _ :: _, [], _, _, _, _, hv, _, _, e => by simp at hv
  | [], [], _ :: _, _, _, _, _, hv, _, _, e => by simp at hv
  | none :: _, [], [], _, _, _, _, _, hk, _, e => by cases e
  | some _ :: _, [], [], _, _, _, _, _, hk, _, e => by cases e
  | _ :: _, [], _ :: _, _, _, _, _, hv, _, _, e => by simp at hv
  | _ :: _, _ :: _, [], _, _, _, _, hv, _, _, e => by simp at hv
  | none :: _, _ :: _, none :: _, _, _, _, _, hv, _, _, e => by cases e
  | some _ :: _, _ :: _, some _ :: _, _, _, _, _, hv, _, _, e => by cases e
theorem Sl.putIo {tv : List (Option V)} {td : Env} {σ : L2.St} (hl : tv.length = td.length) : ∀ {is : List Nat} {us : List V} {os : List T} {ρ ρ2 : Env} {A B : List Addr}, RpAll K F H us os A → (∀ (j i : Nat), is[j]? = some i → ∃ v, us[j]? = some v ∧ σ[i]? = some (some v)) → us.length = is.length →
    Sl K F H (tv ++ σ) (td ++ ρ) B → L3.putIo is os ρ = some ρ2 → ∃ C, Sl K F H (tv ++ σ) (td ++ ρ2) C ∧ ∀ a, C.count a ≤ A.count a + B.count a
  | [], _, [], ρ, ρ2, A, B, ra, _, _, s, e => by
    cases e
    exact ⟨B, s, fun a => by omega⟩
  | i :: is, u :: us, o :: os, ρ, ρ2, _, B, ra, hk, hz, s, e => by
    cases ra with
    | cons x r =>
    rename_i A1 A2
    have e' : L3.putIo is os (ρ.set i (some o)) = some ρ2 := e
    obtain ⟨v, h1, h2⟩ := hk 0 i rfl
    have ev : u = v := by simpa using h1
    subst ev
    have hlen := s.len
    have hi : i < σ.length := (List.getElem?_eq_some_iff.mp h2).1
    obtain ⟨B0, hb, ar, _⟩ := s.around (i := tv.length + i) (by rw [List.length_append]; omega)
    obtain ⟨C, s', z⟩ := ar.put (Mono.sub fun _ _ x => x) (fun _ _ => rfl) x
    rw [app_set rfl, set_self h2, app_set hl.symm] at s'
    obtain ⟨C2, s2, z2⟩ := Sl.putIo hl r (fun j i z => hk (j + 1) i (by simpa using z)) (by simpa using hz) s' e'
    exact ⟨C2, s2, fun a => by have := z2 a; have := z a; have := hb a; rw [List.count_append]; omega⟩
  | _ :: _, [], _, _, _, _, _, _, _, hz, _, _ => by simp at hz
  | _ :: _, _ :: _, [], _, _, _, _, _, _, _, _, e => by cases e
  | [], _, _ :: _, _, _, _, _, _, _, _, _, e => by cases e
end
def posOf : List (Option Nat) → Nat → List Nat
  | [], _ => []
  | some _ :: r, n => n :: posOf r (n + 1)
  | none :: r, n => posOf r (n + 1)
theorem posOf_at {σ : L2.St} {vs0 : List V} : ∀ {ks : List (Option Nat)} {n : Nat}, (∀ (j i : Nat), ks[j]? = some (some i) → ∃ v, vs0[n + j]? = some v ∧ σ[i]? = some (some v)) →
    (sel (posOf ks n) vs0).length = (ks.filterMap id).length ∧ ∀ (j i : Nat), (ks.filterMap id)[j]? = some i → ∃ v, (sel (posOf ks n) vs0)[j]? = some v ∧ σ[i]? = some (some v)
  | [], n, _ => ⟨rfl, fun j i z => by simp at z⟩
  | none :: r, n, h => posOf_at (ks := r) (n := n + 1) fun j i z => by
      have := h (j + 1) i (by simpa using z)
      rwa [show n + (j + 1) = n + 1 + j by omega] at this
  | some i0 :: r, n, h => by
    obtain ⟨v, h1, h2⟩ := h 0 i0 rfl
    obtain ⟨a, b⟩ := posOf_at (ks := r) (n := n + 1) fun j i z => by
      have := h (j + 1) i (by simpa using z)
      rwa [show n + (j + 1) = n + 1 + j by omega] at this
    have e : sel (posOf (some i0 :: r) n) vs0 = v :: sel (posOf r (n + 1)) vs0 := by
      show List.filterMap _ (n :: posOf r (n + 1)) = _
      rw [List.filterMap_cons, show vs0[n]? = some v by simpa using h1]
      rfl
    rw [e]
    refine ⟨by simp [a], fun j i z => ?_⟩
    cases j with
    | zero =>
      have : i0 = i := by simpa using z
      subst this
      exact ⟨v, rfl, h2⟩
    | succ j => exact b j i (by simpa using z)
def allData : List T → Bool
  | [] => true
  | .d _ :: r => allData r
  | _ => false
theorem RpAll.allData {K : PySem.W.Frag} {F : Addr → Prop} {H : Hp} : ∀ {vs : List V} {ts : List T} {A : List Addr}, RpAll K F H vs ts A → L3.allData ts = true → A = []
  | _, _, _, .nil, _ => rfl
  | _, .d _ :: _, _, .cons x r, e => by
    cases x with
    | d _ => exact r.allData e
  | _, .ol _ :: _, _, .cons _ _, e => by cases e
  | _, .ot _ :: _, _, .cons _ _, e => by cases e
  | _, .od _ _ :: _, _, .cons _ _, e => by cases e
  | _, .fd _ _ _ :: _, _, .cons _ _, e => by cases e
  | _, .fk _ _ _ :: _, _, .cons _ _, e => by cases e
  | _, .no _ :: _, _, .cons _ _, e => by cases e
  | _, .ob _ _ _ :: _, _, .cons _ _, e => by cases e
  | _, .rd _ :: _, _, .cons _ _, e => by cases e
theorem nx_red {α : Type} {rz : Bool} {r : R α} {P P' : α → Prop} {E E' : Str → Prop} (h : Then (if rz = true then r else r.nx) P E) (hp : ∀ a, P a → P' a) (he : ∀ x, E x → E' x) : Then r P' (fun x => rz = true ∧ E' x) := by
  cases rz with
  | true =>
    rw [if_pos rfl] at h
    exact h.mono hp fun x z => ⟨rfl, he x z⟩
  | false =>
    rw [if_neg (by decide)] at h
    cases r with
    | ok a => exact hp a h
    | exc x => exact h.elim
    | bad => exact h.elim
section
variable {X : Cx} {CX : CXT} {k : Nat} {f : Addr} {fd : FuncData} {ps : List Str} {Ek : XK} {cl : Str → Option Addr} {x : Str} {p pos : Pos} {e : Expr} {es : List Expr} {t : TA} {mb : MB} {ks : List (Option Nat)} {io : List Nat} {fm : List T → R (T × List T)} {rz g : Bool} {n : Nat}
theorem sim_call {K : PySem.W.Frag} (hio : io = posOf ks 0) (sb : SimB K (EX cl Ek) g ks t mb) {gz : Bool} (hg : gz = true → g = true ∧ io = []) : SimE K (EX cl Ek) gz (tCall (spT K rz cl n io fm) [] Ek t) (fun ρ => (mb ρ).bind fun r => (ofO (fillIo ks r.1 r.2)).bind fun s =>
    guard (!gz || allData s.1) ((if decide (s.1.length = n) then (if rz = true then fm s.1 else (fm s.1).nx) else .bad).bind fun z => (ofO (putIo (ks.filterMap id) z.2 s.2)).bind fun ρ' => .ok (z.1, ρ'))) := by
  intro c H tv td σ ρ hl st Q q
  rw [then_bind] at q
  refine sb c H tv td σ ρ hl st _ (q.imp ?_)
  intro r q1 vs H1 sm1 hvs hk st1
  rw [then_bind] at q1
  obtain ⟨s, es, q1⟩ := then_ofO.mp q1
  obtain ⟨gd, q1⟩ := then_guard.mp q1
  rw [then_bind] at q1
  have hn : s.1.length = n := by
    by_cases h : s.1.length = n
    · exact h
    · rw [if_neg (by simp [h])] at q1; exact q1.elim
  rw [if_pos (by simp [hn])] at q1
  obtain ⟨A, w⟩ := st1
  obtain ⟨A1, B, ra, sl, hc⟩ := w.slots.fill hl hvs hk es
  have hA1 : ∀ a, A1.count a ≤ A.count a := fun a => by have := hc a; omega
  have hB : ∀ a, B.count a ≤ A.count a := fun a => by have := hc a; omega
  have mem1 : ∀ a ∈ A1, a ∈ A := fun a ha => List.count_pos_iff.mp (Nat.lt_of_lt_of_le (List.count_pos_iff.mpr ha) (hA1 a))
  have memB : ∀ a ∈ B, a ∈ A := fun a ha => List.count_pos_iff.mp (Nat.lt_of_lt_of_le (List.count_pos_iff.mpr ha) (hB a))
  have apart : ∀ a ∈ B, a ∉ A1 := fun a ha z => by
    have h1 := List.count_pos_iff.mpr ha
    have h2 := List.count_pos_iff.mpr z
    have h3 := hc a
    have h4 := w.uniq a
    omega
  have thereB : ∀ a ∈ B, H1 a ≠ none := fun a ha e => by
    obtain ⟨u, z, _⟩ := sl.own a ha
    rw [e] at z; cases z
  show spT K rz cl n io fm (vs ++ []) H1 Q Ek
  rw [List.append_nil]
  refine ⟨s.1, Fok c A, A1, by rw [ra.len, hn], fun a => Nat.le_trans (hA1 a) (w.uniq a), ra.mono (.sub fun a _ z => ⟨z, fun y => z.2 (mem1 a y)⟩) fun _ _ => rfl, ?_⟩
  have kc : ∀ {H' : Hp}, KeepF H1 H' A1 → KeepC c H' := fun {H'} kf => ⟨fun a o e n => kf.keep a o (w.keep.keep a o e n) fun ha => by
    rcases w.own a (mem1 a ha) with z | z
    · exact n z
    · exact absurd (e.symm.trans z) (by intro y; cases y), fun a e => w.keep.there a (kf.there a e)⟩
  refine nx_red q1 (fun z q2 => ?_) (fun y q2 H' kf => q2 H' (kc kf))
  rw [then_bind] at q2
  obtain ⟨ρ', ep, q2⟩ := then_ofO.mp q2
  intro v H' A' u' own' kf same rr
  cases rr with
  | cons xv rio =>
    rename_i C0 C1
    have own2 : ∀ a ∈ C0 ++ C1, a ∈ c.A0 ∨ c.H0 a = none := fun a ha => by
      rcases own' a ha with z | z
      · exact w.own a (mem1 a z)
      · exact .inr (w.keep.there a z)
    have eqB : ∀ a ∈ B, H' a = H1 a := fun a ha => by
      obtain ⟨u, z, _⟩ := sl.own a ha
      rw [z, kf.keep a _ z (apart a ha)]
    have dis : ∀ a ∈ B, a ∉ C0 ++ C1 := fun a ha z => by
      rcases own' a z with y | y
      · exact apart a ha y
      · exact thereB a ha y
    have tot : ∀ a, (C0 ++ C1).count a + B.count a ≤ 1 := fun a => by
      by_cases ha : a ∈ B
      · rw [List.count_eq_zero.mpr (dis a ha)]; have := hB a; have := w.uniq a; omega
      · rw [List.count_eq_zero.mpr ha]; exact u' a
    let G : Addr → Prop := fun a => (c.F0 a ∨ c.H0 a = none ∨ a ∈ c.A0) ∧ a ∉ C0 ++ C1 ∧ a ∉ B
    have mG : Mono (Fok c A) G H1 H' := ⟨fun a vs e f => by
      have na : a ∉ A := f.2
      have e2 := kf.keep a _ e fun z => na (mem1 a z)
      refine ⟨e2, f.1, fun z => ?_, fun z => na (memB a z)⟩
      rcases own' a z with y | y
      · exact na (mem1 a y)
      · exact absurd (e.symm.trans y) (by intro y; cases y), fun a u e st => kf.keep a u e fun z => by
        obtain ⟨u, y, ns⟩ := ra.own a z
        rw [e] at y; cases y; exact ns st⟩
    have mR : Mono (fun a => (Fok c A a ∨ H1 a = none ∨ a ∈ A1) ∧ a ∉ C0 ++ C1) G H' H' := .sub fun a _ ⟨h1, h2⟩ => by
      rcases h1 with h1 | h1 | h1
      · exact ⟨h1.1, h2, fun z => h1.2 (memB a z)⟩
      · exact ⟨.inr (.inl (w.keep.there a h1)), h2, fun z => thereB a z h1⟩
      · refine ⟨?_, h2, fun z => apart a z h1⟩
        rcases w.own a (mem1 a h1) with y | y
        · exact .inr (.inr y)
        · exact .inr (.inl y)
    have sl2 : Sl K G H' (tv ++ σ) (td ++ s.2) B := sl.mono mG eqB
    obtain ⟨hlen, hat⟩ := posOf_at (σ := σ) (vs0 := vs) (ks := ks) (n := 0) fun j i z => by rw [Nat.zero_add]; exact hk j i z
    rw [← hio] at hlen hat
    obtain ⟨C2, s3, hc3⟩ := sl2.putIo hl (rio.mono mR fun _ _ => rfl) hat hlen ep
    have hfin : ∀ a, (C0 ++ C2).count a ≤ (C0 ++ C1).count a + B.count a := fun a => by rw [List.count_append, List.count_append]; have := hc3 a; omega
    refine q2 v H' (fun e => ?_) ⟨C0 ++ C2, fun a => Nat.le_trans (hfin a) (tot a), ?_, fun a ha => ?_, kc kf⟩
    · obtain ⟨g1, g2⟩ := hg e
      have ad : allData s.1 = true := by rw [e] at gd; simpa using gd
      exact (sm1 g1).trans (same g2 (ra.allData ad))
    · have m3 : Mono G (Fok c (C0 ++ C2)) H' H' := .sub fun a _ ⟨h1, h2, h3⟩ => ⟨h1, fun z => by
        have := hfin a
        have := List.count_pos_iff.mpr z
        rw [List.count_eq_zero.mpr h2, List.count_eq_zero.mpr h3] at *
        omega⟩
      exact (Sl.cons (xv.mono mR fun _ _ => rfl) s3).mono m3 fun _ _ => rfl
    · have h1 := hfin a
      have h2 := List.count_pos_iff.mpr ha
      by_cases hb : a ∈ B
      · exact w.own a (memB a hb)
      · rw [List.count_eq_zero.mpr hb] at h1
        exact own2 a (List.count_pos_iff.mp (by omega))
def mCallF (rz gz : Bool) (n : Nat) (fm : List T → R (T × List T)) (ks : List (Option Nat)) (mb : MB) : MEx := fun ρ => (mb ρ).bind fun r => (ofO (fillIo ks r.1 r.2)).bind fun s =>
    guard (!gz || allData s.1) ((if decide (s.1.length = n) then (if rz = true then fm s.1 else (fm s.1).nx) else .bad).bind fun z => (ofO (putIo (ks.filterMap id) z.2 s.2)).bind fun ρ' => .ok (z.1, ρ'))
theorem qe_call (Fn : FnOk X.prog X.w X.K X.mg X.base CX k f fd ps (spT X.K rz cl n io fm)) (hr : Room k X.A) (hm : X.mg x = some (.ref f)) (hk : PySem.W.keepIn X.K (.ref f) = true) (hb : Binds X.K fd ps []) (hx : Passes CX X Ek)
    (ha : QB X (EX cl Ek) g ks (e :: es) t mb) (hio : io = posOf ks 0 := by rfl) (hg : Gl X x := by rfl) (hdb : (x == ("__debug__" : Str)) = false := by decide) (he : starEach (e :: es) X.env = (false, eval e X.env) :: starEach es X.env := by rfl) (hpl : (backTo pos (starEach es X.env)).any (·.1) = false := by rfl) :
    QE X (EX cl Ek) false (.Call (.Name x p) (e :: es) [] pos) (tCall (spT X.K rz cl n io fm) [] Ek t) (mCallF rz false n fm ks mb) := ⟨pe_call Fn hr hg hm hk hb .nil hx ha.pa hdb he hpl, sim_call hio ha.sim fun z => by cases z⟩
end
end L3
namespace L3
open PySem PySem.Spec PyProof.Rows L2
def mLoop (g : MG) (body : MS) : List T → Env → R Out
  | [], ρ => .ok (.next ρ)
  | x :: xs, ρ => (ofO (g x ρ)).bind fun ρ1 => (body ρ1).bind fun o => match o with
    | .next ρ2 => mLoop g body xs ρ2
    | .cont ρ2 => mLoop g body xs ρ2
    | .brk ρ2 => .ok (.next ρ2)
    | .ret t ρ2 => .ok (.ret t ρ2)
section
variable {K : PySem.W.Frag} {c : C0} {H : Hp}
theorem StR.drop2 {o o' : Option V} {t t' : Option T} {sl : List (Option V)} {ρ : Env} (h : StR K c H (o :: o' :: sl) (t :: t' :: ρ)) : StR K c H (o :: sl) (t :: ρ) := by
  obtain ⟨A, w⟩ := h
  obtain ⟨u, s, ow, k⟩ := w
  cases s with
  | skip s =>
    cases s with
    | skip s => exact ⟨_, u, .skip s, ow, k⟩
    | cons x s =>
      rename_i A1 B
      have w : StW K c H (o :: some _ :: sl) (none :: some _ :: ρ) (A1 ++ B) := ⟨u, .skip (.cons x s), ow, k⟩
      exact ⟨B, w.remake (fun a => by rw [List.count_append]; omega) (.skip s)⟩
  | cons y s =>
    rename_i A0 B0
    cases s with
    | skip s => exact ⟨_, u, .cons y s, ow, k⟩
    | cons x s =>
      rename_i A1 B
      have w : StW K c H (some _ :: some _ :: sl) (some _ :: some _ :: ρ) (A0 ++ (A1 ++ B)) := ⟨u, .cons y (.cons x s), ow, k⟩
      exact ⟨A0 ++ B, w.remake (fun a => by simp only [List.count_append]; omega) (.cons y s)⟩
end
structure Src (K : PySem.W.Frag) (J : It) (xv : List (Option V)) (xt : Env) (items : List T) : Prop where
  len : xv.length = xt.length
  goes : ∀ (c : C0) (H : Hp) (sl : List (Option V)) (ρ : Env) (i : Nat), i < items.length → StR K c H (xv ++ sl) (xt ++ ρ) → J.go i H
  stops : ∀ (c : C0) (H : Hp) (sl : List (Option V)) (ρ : Env), StR K c H (xv ++ sl) (xt ++ ρ) → J.stop items.length H
  yields : ∀ (c : C0) (H : Hp) (sl : List (Option V)) (ρ : Env) (i : Nat) (x : V) (H' : Hp) (t : T), items[i]? = some t → StR K c H (xv ++ sl) (xt ++ ρ) → J.yld i H x H' → Same H H' ∧ StR K c H' (some x :: (xv ++ sl)) (some t :: (xt ++ ρ))
theorem StR.dropN {K : PySem.W.Frag} {c : C0} {H : Hp} : ∀ {xs : List (Option V)} {as : Env} {sl : List (Option V)} {ρ : Env}, xs.length = as.length → StR K c H (xs ++ sl) (as ++ ρ) → StR K c H sl ρ
  | [], [], _, _, _, h => h
  | _ :: xs, _ :: as, _, _, e, h => StR.dropN (by simpa using e) h.drop
  | [], _ :: _, _, _, e, _ => by simp at e
  | _ :: _, [], _, _, e, _ => by simp at e
theorem StR.dropN1 {K : PySem.W.Frag} {c : C0} {H : Hp} {o : Option V} {t : Option T} : ∀ {xs : List (Option V)} {as : Env} {sl : List (Option V)} {ρ : Env}, xs.length = as.length → StR K c H (o :: (xs ++ sl)) (t :: (as ++ ρ)) → StR K c H (o :: sl) (t :: ρ)
  | [], [], _, _, _, h => h
  | _ :: xs, _ :: as, _, _, e, h => StR.dropN1 (by simpa using e) h.drop2
  | [], _ :: _, _, _, e, _ => by simp at e
  | _ :: _, [], _, _, e, _ => by simp at e
section
variable {E : Str → Hp → Prop} {io : List Nat}
theorem loop_run {K : PySem.W.Frag} {J : It} {xv : List (Option V)} {xt : Env} {items : List T} (S : Src K J xv xt items) {g : TG} {mg : MG} {tb : TS} {mb : MS} (sg : SimG K (inIo io) g mg) (sb : SimS K E io tb mb) {c : C0} {H : Hp} {tv : List (Option V)} {td : Env} {σ : L2.St} {ρ : Env}
    (hl : tv.length = td.length) (st : StR K c H (xv ++ (tv ++ σ)) (xt ++ (td ++ ρ))) {D : Ends} (q : Then (mLoop mg mb items ρ) (OutTo K c tv td io σ D) (fun x => ∀ H', KeepC c H' → E x H')) :
    ∃ W : Nat → Nat → L2.St → Hp → Prop, (∃ m, W 0 m σ H) ∧ ∀ i m σ H, W i m σ H →
      (J.stop i H ∧ D.nx σ H) ∨ (J.go i H ∧ ∃ N : L2.St → Hp → Prop, (∀ σ' H', N σ' H' → ∃ m', m' < m ∧ W (i + 1) m' σ' H') ∧ ∀ x H', J.yld i H x H' → g x σ H' fun σ2 H2 => tb { D with nx := N, ct := N, bk := D.nx } σ2 H2) := by
  refine ⟨fun i m σ' H' => m = items.length - i ∧ i ≤ items.length ∧ SameIo io σ σ' ∧ ∃ ρ', StR K c H' (xv ++ (tv ++ σ')) (xt ++ (td ++ ρ')) ∧ Then (mLoop mg mb (items.drop i) ρ') (OutTo K c tv td io σ D) (fun x => ∀ H', KeepC c H' → E x H'),
    ⟨items.length, by simp, Nat.zero_le _, .refl, ρ, st, by simpa using q⟩, ?_⟩
  rintro i m σ1 H1 ⟨rfl, hi, s1, ρ1, st1, q1⟩
  by_cases hlt : i < items.length
  · refine .inr ⟨S.goes c H1 _ _ i hlt st1, fun σ' H' => SameIo io σ σ' ∧ ∃ ρ', StR K c H' (xv ++ (tv ++ σ')) (xt ++ (td ++ ρ')) ∧ Then (mLoop mg mb (items.drop (i + 1)) ρ') (OutTo K c tv td io σ D) (fun x => ∀ H', KeepC c H' → E x H'), fun σ' H' p => ⟨items.length - (i + 1), by omega, rfl, hlt, p.1, p.2⟩, fun x H' y => ?_⟩
    have eI : items[i]? = some items[i] := List.getElem?_eq_getElem hlt
    have hd : items.drop i = items[i] :: items.drop (i + 1) := List.drop_eq_getElem_cons hlt
    rw [hd] at q1
    obtain ⟨sm, st2⟩ := S.yields c H1 _ _ i x H' _ eI st1 y
    have q2 := then_bind.mp q1
    obtain ⟨ρ2, e2, q2⟩ := then_ofO.mp q2
    refine sg c H' (xv ++ tv) (xt ++ td) σ1 ρ1 ρ2 x items[i] (by simp [S.len, hl]) (by simpa [List.append_assoc] using st2) e2 _ fun σ2 H2 s2 st3 => ?_
    have q3 := then_bind.mp q2
    have s12 : SameIo io σ σ2 := s1.trans s2.toIo
    refine sb c H2 (xv ++ tv) (xt ++ td) σ2 ρ2 (by simp [S.len, hl]) st3 _ (q3.imp fun o q4 => ?_)
    cases o with
    | next ρ3 => exact fun σ' H' s' st' => ⟨s12.trans s', ρ3, by simpa [List.append_assoc] using st', q4⟩
    | cont ρ3 => exact fun σ' H' s' st' => ⟨s12.trans s', ρ3, by simpa [List.append_assoc] using st', q4⟩
    | brk ρ3 => exact fun σ' H' s' st' => q4 σ' H' (s12.trans s') (StR.dropN S.len (by simpa [List.append_assoc] using st'))
    | ret t ρ3 => exact fun v σ' H' s' st' => q4 v σ' H' (s12.trans s') (StR.dropN1 S.len (by simpa [List.append_assoc] using st'))
  · have e : i = items.length := by omega
    subst e
    rw [List.drop_length] at q1
    exact .inl ⟨S.stops c H1 _ _ st1, q1 σ1 H1 s1 (StR.dropN S.len st1)⟩
end
abbrev MI := Env → R (List T × Env)
def SimI (K : PySem.W.Frag) (E : Str → Hp → Prop) (wi : TI) (mi : MI) : Prop :=
  ∀ (c : C0) (H : Hp) (tv : List (Option V)) (td : Env) (σ : L2.St) (ρ : Env), tv.length = td.length → StR K c H (tv ++ σ) (td ++ ρ) → ∀ Rr : It → Hp → Prop,
    Then (mi ρ) (fun r => ∀ J H' xv xt, Src K J xv xt r.1 → StR K c H' (xv ++ (tv ++ σ)) (xt ++ (td ++ r.2)) → Rr J H') (fun x => ∀ H', KeepC c H' → E x H') → wi σ H Rr
structure QI (X : Cx) (E : Str → Hp → Prop) (tg : Expr) (e : Expr) (wi : TI) (mi : MI) : Prop where
  pi : PI X tg e wi
  sim : SimI X.K E wi mi
def mFor (mi : MI) (g : MG) (body : MS) : MS := fun ρ => (mi ρ).bind fun r => mLoop g body r.1 r.2
section
variable {X : Cx} {E : Str → Hp → Prop} {io : List Nat} {pos : Pos}
theorem qs_for {tg iter : Expr} {body : List Stmt} {wi : TI} {mi : MI} {g : TG} {mg : MG} {tb : TS} {mb : MS} (hc : X.calm = true) (hp : PassesOwn (model X.prog X.w) X.A X.env X.xe) (hi : QI X E tg iter wi mi) (hg : QG X (inIo io) tg g mg) (hb : QSs X E io body tb mb)
    (hs : ∀ x, foldedSetIterable iter X.env x = pure x := by intro _; rfl) : QS X E io (.For tg iter body [] pos) (tFor wi g tb) (mFor mi mg mb) := by
  refine ⟨ps_for hp hc hi.pi hg.pg hb.ps hs, fun c H tv td σ ρ hl st D q => ?_⟩
  unfold mFor at q
  rw [then_bind] at q
  refine hi.sim c H tv td σ ρ hl st _ (q.imp ?_)
  intro r q1 J H' xv xt S st1
  exact loop_run S hg.sim hb.sim hl st1 q1
def items? : T → Option (List T)
  | .d (.list ds) => some (ds.map T.d)
  | _ => none
def itemsT? : T → Option (List T)
  | .d (.tuple ds) => some (ds.map T.d)
  | _ => none
def miL (m : MEx) : MI := fun ρ => (m ρ).bind fun r => (ofO (items? r.1)).bind fun ts => .ok (ts, r.2)
def miT (m : MEx) : MI := fun ρ => (m ρ).bind fun r => (ofO (itemsT? r.1)).bind fun ts => .ok (ts, r.2)
theorem StR.look {K : PySem.W.Frag} {c : C0} {H : Hp} {sl : List (Option V)} {ρ : Env} {v : V} {x : PyData} (h : StR K c H (some v :: sl) (some (.d x) :: ρ)) : ∃ A, StW K c H (some v :: sl) (some (.d x) :: ρ) A ∧ Fz K (Fok c A) H v x := by
  obtain ⟨A, w⟩ := h
  exact ⟨A, w, w.topD.1⟩
theorem src_list {K : PySem.W.Frag} {a : Addr} {ds : List PyData} : Src K (Itl K a) [some (.ref a)] [some (.d (.list ds))] (ds.map T.d) where
  len := rfl
  goes := by
    intro c H sl ρ i hi st
    obtain ⟨A, w, f⟩ := StR.look st
    cases f with
    | @lst _ vs _ h _ f =>
      have hl := f.len
      have hi2 : i < vs.length := by rw [hl]; simpa using hi
      exact ⟨vs, vs[i], .of h, List.getElem?_eq_getElem hi2⟩
  stops := by
    intro c H sl ρ st
    obtain ⟨A, w, f⟩ := StR.look st
    cases f with
    | lst h _ f => exact ⟨_, .of h, by rw [List.length_map, f.len]; exact Nat.le_refl _⟩
  yields := by
    intro c H sl ρ i x H' t ht st y
    obtain ⟨rfl, y⟩ := y
    obtain ⟨A, w, f⟩ := StR.look st
    refine ⟨Same.refl _, A, ?_⟩
    rw [List.getElem?_map] at ht
    obtain ⟨z, e1, rfl⟩ := Option.map_eq_some_iff.mp ht
    cases f with
    | lst h _ f =>
      obtain ⟨v, e2, fz⟩ := f.get e1
      have := y _ (.of h)
      rw [e2] at this
      cases this
      exact w.pushD fz
theorem sim_iL {K : PySem.W.Frag} {te : TE} {m : MEx} {g : Bool} (s : SimE K E g te m) : SimI K E (iList K te) (miL m) := by
  intro c H tv td σ ρ hl st Rr q
  unfold miL at q
  rw [then_bind] at q
  refine s c H tv td σ ρ hl st _ (q.imp ?_)
  rintro ⟨t, ρ1⟩ q1 v H1 _ st1
  obtain ⟨ts, e, q2⟩ := then_ofO.mp (then_bind.mp q1)
  unfold items? at e
  dsimp only at e
  split at e
  · rename_i ds
    cases e
    obtain ⟨A, w, f⟩ := StR.look st1
    cases f with
    | lst h h2 f => exact ⟨_, rfl, ⟨_, .of h⟩, q2 _ H1 [some _] [some _] src_list st1⟩
  · cases e
theorem qi_list {tg e : Expr} {te : TE} {m : MEx} {g : Bool} (h : QE X E g e te m) : QI X E tg e (iList X.K te) (miL m) := ⟨pi_list h.pe, sim_iL h.sim⟩
def rangeItems (lo hi : Int) : List T := (List.range (hi - lo).toNat).map fun i => .d (.int (lo + (i : Nat)))
def small62 (i : Int) : Bool := decide (-(2 ^ 62) ≤ i ∧ i < 2 ^ 62)
def miR1 (m : MA) : MI := fun ρ => (m ρ).bind fun r => match r.1 with | [.d (.int j)] => guard (small62 j) (.ok (rangeItems 0 j, r.2)) | _ => .bad
def miR2 (m : MA) : MI := fun ρ => (m ρ).bind fun r => match r.1 with | [.d (.int i), .d (.int j)] => guard (small62 i && small62 j) (.ok (rangeItems i j, r.2)) | _ => .bad
theorem src_range {K : PySem.W.Frag} {lo hi : Int} : Src K (Itr lo (hi - lo).toNat) [] [] (rangeItems lo hi) where
  len := rfl
  goes := fun c H sl ρ i hi st => by simpa [rangeItems, Itr] using hi
  stops := fun c H sl ρ st => by
    show (hi - lo).toNat ≤ (rangeItems lo hi).length
    unfold rangeItems
    rw [List.length_map, List.length_range]
    exact Nat.le_refl _
  yields := by
    intro c H sl ρ i x H' t ht st y
    obtain ⟨rfl, rfl⟩ := y
    refine ⟨Same.refl _, ?_⟩
    unfold rangeItems at ht
    rw [List.getElem?_map] at ht
    obtain ⟨z, e1, rfl⟩ := Option.map_eq_some_iff.mp ht
    have : z = i := by
      obtain ⟨h1, h2⟩ := List.getElem?_eq_some_iff.mp e1
      simpa using h2.symm
    subst this
    exact StR.pushC st fun _ _ => .int _
theorem StR.top1 {K : PySem.W.Frag} {c : C0} {H : Hp} {sl : List (Option V)} {ρ : Env} {v : V} {i : Int} (h : StR K c H (some v :: sl) (some (.d (.int i)) :: ρ)) : v = .int i ∧ StR K c H sl ρ := by
  obtain ⟨A, w⟩ := h
  obtain ⟨f, w'⟩ := w.topD
  cases f
  exact ⟨rfl, A, w'⟩
theorem sim_iR1 {K : PySem.W.Frag} {ta : TA} {m : MA} {g : Bool} (s : SimA K E g ta m) : SimI K E (iRng1 ta) (miR1 m) := by
  intro c H tv td σ ρ hl st Rr q
  unfold miR1 at q
  rw [then_bind] at q
  refine s c H tv td σ ρ hl st _ (q.imp ?_)
  rintro ⟨ts, ρ1⟩ q1 vs H1 _ hvs st1
  dsimp only at q1 hvs st1
  split at q1
  · rename_i j
    obtain ⟨gd, q2⟩ := then_guard.mp q1
    match vs, hvs, st1 with
    | [v], _, st1 =>
      obtain ⟨rfl, st2⟩ := StR.top1 st1
      have hz := of_decide_eq_true gd
      refine ⟨j, rfl, hz.1, hz.2, q2 _ H1 [] [] ?_ st2⟩
      have := src_range (K := K) (lo := 0) (hi := j)
      rwa [Int.sub_zero] at this
  · exact q1.elim
theorem qi_range1 {tg a : Expr} {ta : TA} {m : MA} {g : Bool} {p : Pos} (hm : X.mg "range" = none) (ha : QA X E g [a] ta m) (hg : Gl X "range" := by rfl) (hs : starEach [a] X.env = [(false, eval a X.env)] := by rfl) : QI X E tg (.Call (.Name "range" p) [a] [] pos) (iRng1 ta) (miR1 m) := ⟨pi_range1 hg hm ha.pa hs, sim_iR1 ha.sim⟩
end
def mWhileN (mt : MT) (mb : MS) : Nat → Env → R Out
  | 0, _ => .bad
  | n + 1, ρ => (mt ρ).bind fun r => if r.1 = true then (mb r.2).bind (fun o => match o with
    | .next ρ2 => mWhileN mt mb n ρ2
    | .cont ρ2 => mWhileN mt mb n ρ2
    | .brk ρ2 => .ok (.next ρ2)
    | .ret t ρ2 => .ok (.ret t ρ2)) else .ok (.next r.2)
open Classical in
noncomputable def mWhile (mt : MT) (mb : MS) : MS := fun ρ => if h : ∃ n, mWhileN mt mb n ρ ≠ .bad then mWhileN mt mb (Classical.choose h) ρ else .bad
theorem mWhileN_succ {mt : MT} {mb : MS} : ∀ {n : Nat} {ρ : Env}, mWhileN mt mb n ρ ≠ .bad → mWhileN mt mb (n + 1) ρ = mWhileN mt mb n ρ
  | 0, ρ, h => (h rfl).elim
  | n + 1, ρ, h => by
    have go : ∀ ρ2, mWhileN mt mb n ρ2 ≠ .bad → mWhileN mt mb (n + 1) ρ2 = mWhileN mt mb n ρ2 := fun ρ2 => mWhileN_succ
    show (mt ρ).bind _ = (mt ρ).bind _
    have h' : (mt ρ).bind (fun r => if r.1 = true then (mb r.2).bind (fun o => match o with
      | .next ρ2 => mWhileN mt mb n ρ2
      | .cont ρ2 => mWhileN mt mb n ρ2
      | .brk ρ2 => .ok (.next ρ2)
      | .ret t ρ2 => .ok (.ret t ρ2)) else .ok (.next r.2)) ≠ .bad := h
    cases e : mt ρ with
    | exc x => rfl
    | bad => rfl
    | ok r =>
      rw [e] at h'
      dsimp only [R.bind] at h' ⊢
      by_cases hr : r.1 = true
      · rw [if_pos hr] at h'
        rw [if_pos hr, if_pos hr]
        cases e2 : mb r.2 with
        | exc x => rfl
        | bad => rfl
        | ok o =>
          rw [e2] at h'
          cases o with
          | next ρ2 => exact go ρ2 h'
          | cont ρ2 => exact go ρ2 h'
          | brk ρ2 => rfl
          | ret t ρ2 => rfl
      · rw [if_neg hr, if_neg hr]
theorem mWhileN_le {mt : MT} {mb : MS} {n m : Nat} {ρ : Env} (h : mWhileN mt mb n ρ ≠ .bad) (l : n ≤ m) : mWhileN mt mb m ρ = mWhileN mt mb n ρ := by
  induction m with
  | zero => have : n = 0 := by omega
            subst this; rfl
  | succ m ih =>
    by_cases e : n = m + 1
    · rw [e]
    · have e1 := ih (by omega)
      rw [mWhileN_succ (by rw [e1]; exact h), e1]
section
variable {X : Cx} {E : Str → Hp → Prop} {io : List Nat} {pos : Pos}
theorem sim_while {K : PySem.W.Frag} {tc : TT} {mt : MT} {tb : TS} {mb : MS} (sc : SimT K E tc mt) (sb : SimS K E io tb mb) : SimS K E io (tWhile tc tb) (mWhile mt mb) := by
  intro c H tv td σ ρ hl st D q
  have q0 : ∃ n, Then (mWhileN mt mb n ρ) (OutTo K c tv td io σ D) (fun x => ∀ H', KeepC c H' → E x H') := by
    unfold mWhile at q
    split at q
    · exact ⟨_, q⟩
    · exact q.elim
  obtain ⟨n, q0⟩ := q0
  refine ⟨fun m σ' H' => SameIo io σ σ' ∧ ∃ ρ', StR K c H' (tv ++ σ') (td ++ ρ') ∧ Then (mWhileN mt mb m ρ') (OutTo K c tv td io σ D) (fun x => ∀ H', KeepC c H' → E x H'), ⟨n, .refl, ρ, st, q0⟩, ?_⟩
  rintro m σ1 H1 ⟨s1, ρ1, st1, q1⟩
  cases m with
  | zero => exact q1.elim
  | succ m =>
    have q1' := then_bind.mp q1
    refine sc c H1 tv td σ1 ρ1 hl st1 _ (q1'.imp ?_)
    rintro ⟨b, ρ2⟩ q2 H2 st2
    cases b with
    | false =>
      rw [if_neg (show ¬ (false = true) by decide)]
      exact q2 σ1 H2 s1 st2
    | true =>
      rw [if_pos rfl]
      refine ⟨fun σ' H' => SameIo io σ σ' ∧ ∃ ρ', StR K c H' (tv ++ σ') (td ++ ρ') ∧ Then (mWhileN mt mb m ρ') (OutTo K c tv td io σ D) (fun x => ∀ H', KeepC c H' → E x H'), fun σ' H' p => ⟨m, Nat.lt_succ_self m, p⟩, ?_⟩
      refine sb c H2 tv td σ1 ρ2 hl st2 _ ((then_bind.mp q2).imp fun o q3 => ?_)
      cases o with
      | next ρ3 => exact fun σ' H' s' st' => ⟨s1.trans s', ρ3, st', q3⟩
      | cont ρ3 => exact fun σ' H' s' st' => ⟨s1.trans s', ρ3, st', q3⟩
      | brk ρ3 => exact fun σ' H' s' st' => q3 σ' H' (s1.trans s') st'
      | ret t ρ3 => exact fun v σ' H' s' st' => q3 v σ' H' (s1.trans s') st'
theorem qs_while {c' : Expr} {body : List Stmt} {tc : TT} {mt : MT} {tb : TS} {mb : MS} (hp : PassesOwn (model X.prog X.w) X.A X.env X.xe) (hc : QT X E c' tc mt) (hb : QSs X E io body tb mb) : QS X E io (.While c' body [] pos) (tWhile tc tb) (mWhile mt mb) := ⟨ps_while hp hc.pt hb.ps, sim_while hc.sim hb.sim⟩
end
end L3
namespace L3
open PySem PySem.Spec PyProof.Rows L2
def wipeE (ρ : Env) : List Nat → Env
  | [] => ρ
  | v :: vs => (wipeE ρ vs).set v none
section
variable {K : PySem.W.Frag} {c : C0} {H : Hp}
theorem StR.gone {tv : List (Option V)} {td : Env} {σ : L2.St} {ρ : Env} {i : Nat} (hl : tv.length = td.length) (h : StR K c H (tv ++ σ) (td ++ ρ)) (o : Option V) : StR K c H (tv ++ σ.set i o) (td ++ ρ.set i none) := by
  obtain ⟨A, w⟩ := h
  have hlen := w.slots.len
  by_cases hi : i < σ.length
  · obtain ⟨B, hb, ar, _⟩ := w.slots.around (i := tv.length + i) (by rw [List.length_append]; omega)
    obtain ⟨C, s, z⟩ := ar.gone o
    rw [app_set rfl, app_set hl.symm] at s
    exact ⟨C, w.remake (fun a => by rw [z a]; exact hb a) s⟩
  · have hi2 : ¬ i < ρ.length := by
      rw [List.length_append, List.length_append] at hlen; omega
    rw [List.set_eq_of_length_le (by omega), List.set_eq_of_length_le (by omega)]
    exact ⟨A, w⟩
theorem StR.any {tv : List (Option V)} {td : Env} {σ σ' : L2.St} {ρ : Env} (hl : tv.length = td.length) (h : StR K c H (tv ++ σ) (td ++ ρ)) {vs : List Nat} (hz : σ'.length = σ.length) (hs : ∀ (i : Nat), i ∉ vs → σ'[i]? = σ[i]?) (hn : ∀ (i : Nat), i ∈ vs → ∀ (t : T), ρ[i]? ≠ some (some t)) : StR K c H (tv ++ σ') (td ++ ρ) := by
  obtain ⟨A, w⟩ := h
  refine ⟨A, w.uniq, ?_, w.own, w.keep⟩
  have key : ∀ {σ σ' : L2.St} {ρ : Env} {F : Addr → Prop} {B : List Addr}, σ'.length = σ.length → (∀ (i : Nat) (t : T), ρ[i]? = some (some t) → σ'[i]? = σ[i]?) → Sl K F H σ ρ B → Sl K F H σ' ρ B := by
    intro σ
    induction σ with
    | nil =>
      intro σ' ρ F B hz _ s
      have : σ' = [] := List.eq_nil_of_length_eq_zero (by simpa using hz)
      subst this
      exact s
    | cons o σ ih =>
      intro σ' ρ F B hz hs s
      cases σ' with
      | nil => simp at hz
      | cons o' σ' =>
        cases s with
        | skip s => exact .skip (ih (by simpa using hz) (fun i t e => by simpa using hs (i + 1) t (by simpa using e)) s)
        | cons x s =>
          have := hs 0 _ rfl
          rename_i v0 t0 ρ0 A0 B0
          have e : o' = some v0 := by simpa using this
          subst e
          exact .cons x (ih (by simpa using hz) (fun i t e => by simpa using hs (i + 1) t (by simpa using e)) s)
  refine key (σ := tv ++ σ) (by simp [hz]) (fun i t e => ?_) w.slots
  by_cases hi : i < tv.length
  · rw [List.getElem?_append_left hi, List.getElem?_append_left hi]
  · obtain ⟨j, rfl⟩ : ∃ j, i = tv.length + j := ⟨i - tv.length, by omega⟩
    rw [app_at rfl, app_at rfl]
    rw [app_at hl.symm] at e
    exact hs j fun z => hn j z t e
end
def mtYes : MT := fun ρ => .ok (true, ρ)
def mLcLoop (g : MG) (mt : MT) (me : MEx) (vs : List Nat) : List T → List T → Env → R (List T × Env)
  | [], acc, ρ => .ok (acc, ρ)
  | x :: xs, acc, ρ => (ofO (g x (wipeE ρ vs))).bind fun ρ1 => (mt ρ1).bind fun r => if r.1 = true then guard (decide (acc.length < sLine)) ((me r.2).bind fun y => mLcLoop g mt me vs xs (acc ++ [y.1]) y.2) else mLcLoop g mt me vs xs acc r.2
def mLc (mi : MI) (g : MG) (mt : MT) (me : MEx) (vs : List Nat) : MEx := fun ρ => (mi ρ).bind fun r => (mLcLoop g mt me vs r.1 [] r.2).bind fun z => .ok (.ol z.1, wipeE z.2 vs)
theorem RpAll.snoc {K : PySem.W.Frag} {F : Addr → Prop} {H : Hp} : ∀ {vs : List V} {ts : List T} {A B : List Addr} {v : V} {t : T}, RpAll K F H vs ts A → Rp K F H v t B → ∃ C, RpAll K F H (vs ++ [v]) (ts ++ [t]) C ∧ ∀ a, C.count a = A.count a + B.count a
  | _, _, _, B, _, _, .nil, x => ⟨B ++ [], .cons x .nil, fun a => by simp⟩
  | _, _, _, _, _, _, .cons (A := A1) y r, x => by
    obtain ⟨C, r', z⟩ := r.snoc x
    exact ⟨A1 ++ C, .cons y r', fun a => by rw [List.count_append, List.count_append, z a]; omega⟩
section
variable {X : Cx} {E : Str → Hp → Prop} {pos : Pos}
end
end L3
namespace L3
open PySem PySem.Spec PyProof.Rows L2
def T.at? : List Int → T → Option T
  | [], t => some t
  | j :: js, .ol ts => (atI ts j).bind (T.at? js)
  | j :: js, .ot ts => (atI ts j).bind (T.at? js)
  | _ :: _, _ => none
def T.put? : List Int → T → T → Option T
  | [], n, _ => some n
  | j :: js, n, .ol ts => (ixN ts.length j).bind fun k => (ts[k]?).bind fun t => (T.put? js n t).map fun t' => .ol (ts.set k t')
  | j :: js, n, .ot ts => (ixN ts.length j).bind fun k => (ts[k]?).bind fun t => (T.put? js n t).map fun t' => .ot (ts.set k t')
  | _ :: _, _, _ => none
inductive Loc (H : Hp) : V → List Int → V → Prop
  | here (v : V) : Loc H v [] v
  | lst {a : Addr} {vs : List V} {j : Int} {js : List Int} {v u : V} : H a = some (.lst vs) → atI vs j = some v → Loc H v js u → Loc H (.ref a) (j :: js) u
  | tup {a : Addr} {vs : List V} {j : Int} {js : List Int} {v u : V} : H a = some (.tup vs) → atI vs j = some v → Loc H v js u → Loc H (.ref a) (j :: js) u
theorem Loc.uniq {H : Hp} : ∀ {v : V} {p : List Int} {u u' : V}, Loc H v p u → Loc H v p u' → u = u'
  | _, _, _, _, .here _, .here _ => rfl
  | _, _, _, _, .lst h1 h2 h3, .lst g1 g2 g3 => by
    rw [h1] at g1; cases g1
    rw [h2] at g2; cases g2
    exact h3.uniq g3
  | _, _, _, _, .tup h1 h2 h3, .tup g1 g2 g3 => by
    rw [h1] at g1; cases g1
    rw [h2] at g2; cases g2
    exact h3.uniq g3
  | _, _, _, _, .lst h1 _ _, .tup g1 _ _ => by rw [h1] at g1; cases g1
  | _, _, _, _, .tup h1 _ _, .lst g1 _ _ => by rw [h1] at g1; cases g1
theorem Loc.grow {H H' : Hp} (s : Same H H') : ∀ {v : V} {p : List Int} {u : V}, Loc H v p u → Loc H' v p u
  | _, _, _, .here v => .here v
  | _, _, _, .lst h1 h2 h3 => .lst (s _ _ h1) h2 (h3.grow s)
  | _, _, _, .tup h1 h2 h3 => .tup (s _ _ h1) h2 (h3.grow s)
theorem Loc.snoc {H : Hp} : ∀ {v : V} {p : List Int} {u w : V} {j : Int}, Loc H v p u → Loc H u [j] w → Loc H v (p ++ [j]) w
  | _, _, _, _, _, .here v, k => k
  | _, _, _, _, _, .lst h1 h2 h3, k => .lst h1 h2 (h3.snoc k)
  | _, _, _, _, _, .tup h1 h2 h3, k => .tup h1 h2 (h3.snoc k)
theorem at_snoc {j : Int} : ∀ {p : List Int} {t0 t : T}, T.at? (p ++ [j]) t0 = some t → ∃ t1, T.at? p t0 = some t1 ∧ T.at? [j] t1 = some t
  | [], t0, t, h => ⟨t0, rfl, h⟩
  | i :: p, .ol ts, t, h => by
    obtain ⟨t2, e1, e2⟩ := Option.bind_eq_some_iff.mp (show (atI ts i).bind (T.at? (p ++ [j])) = some t from h)
    obtain ⟨t1, e3, e4⟩ := at_snoc e2
    exact ⟨t1, by show (atI ts i).bind _ = _; rw [e1]; exact e3, e4⟩
  | i :: p, .ot ts, t, h => by
    obtain ⟨t2, e1, e2⟩ := Option.bind_eq_some_iff.mp (show (atI ts i).bind (T.at? (p ++ [j])) = some t from h)
    obtain ⟨t1, e3, e4⟩ := at_snoc e2
    exact ⟨t1, by show (atI ts i).bind _ = _; rw [e1]; exact e3, e4⟩
  | _ :: _, .d _, _, h => by cases h
  | _ :: _, .od _ _, _, h => by cases h
  | _ :: _, .fd _ _ _, _, h => by cases h
  | _ :: _, .fk _ _ _, _, h => by cases h
  | _ :: _, .no _, _, h => by cases h
  | _ :: _, .ex _, _, h => by cases h
  | _ :: _, .ob _ _ _, _, h => by cases h
  | _ :: _, .rd _, _, h => by cases h
section
variable {K : PySem.W.Frag} {F F' : Addr → Prop} {H H' : Hp}
structure Put1 (K : PySem.W.Frag) (F : Addr → Prop) (H : Hp) (k : Nat) (vs : List V) (ts : List T) (B : List Addr) : Prop where
  put : ∀ {F' : Addr → Prop} {H' : Hp}, Mono F F' H H' → (∀ a ∈ B, H' a = H a) → ∀ {v' : V} {t' : T} {A2 : List Addr}, Rp K F' H' v' t' A2 → ∃ C, RpAll K F' H' (vs.set k v') (ts.set k t') C ∧ ∀ a, C.count a = A2.count a + B.count a
theorem RpAll.around : ∀ {vs : List V} {ts : List T} {A : List Addr}, RpAll K F H vs ts A → ∀ {k : Nat} {t : T}, ts[k]? = some t → ∃ (v : V) (A1 B : List Addr), vs[k]? = some v ∧ Rp K F H v t A1 ∧ (∀ a, A.count a = A1.count a + B.count a) ∧ Put1 K F H k vs ts B
  | _, _, _, .nil, k, t, h => by simp at h
  | _, _, _, .cons (v := v) (A := A1) (B := B1) x r, 0, t, h => by
    simp at h; subst h
    exact ⟨v, A1, B1, rfl, x, fun a => by rw [List.count_append], ⟨fun m k v' t' A2 y => ⟨A2 ++ B1, .cons y (r.mono m k), fun a => by rw [List.count_append]⟩⟩⟩
  | _, _, _, .cons (A := A0) (B := B0) x r, k + 1, t, h => by
    obtain ⟨v, A1, B, e, y, hc, p⟩ := r.around (k := k) (t := t) (by simpa using h)
    refine ⟨v, A1, A0 ++ B, by simpa using e, y, fun a => by rw [List.count_append, List.count_append, hc a]; omega, ⟨fun m kk v' t' A2 z => ?_⟩⟩
    obtain ⟨C, s, w⟩ := p.put m (fun a ha => kk a (List.mem_append_right _ ha)) z
    exact ⟨A0 ++ C, .cons (x.mono m fun a ha => kk a (List.mem_append_left _ ha)) s, fun a => by rw [List.count_append, List.count_append, w a]; omega⟩
theorem atI_ix {α : Type} {xs : List α} {j : Int} {x : α} (h : atI xs j = some x) : ∃ k, ixN xs.length j = some k ∧ xs[k]? = some x := by
  obtain ⟨k, e1, e2⟩ := Option.bind_eq_some_iff.mp (show (ixN xs.length j).bind (fun k => xs[k]?) = some x from h)
  exact ⟨k, e1, e2⟩
theorem Rp.loc : ∀ {p : List Int} {v0 : V} {t0 t : T} {A0 : List Addr}, Rp K F H v0 t0 A0 → T.at? p t0 = some t → ∃ (v : V) (A1 B : List Addr), Loc H v0 p v ∧ Rp K F H v t A1 ∧ (∀ a, A0.count a = A1.count a + B.count a) ∧
    ∀ {F' : Addr → Prop} {H' : Hp}, Mono F F' H H' → (∀ a ∈ B, H' a = H a) → ∀ {t' : T} {A2 : List Addr}, Rp K F' H' v t' A2 → ∃ t0' C, T.put? p t' t0 = some t0' ∧ Rp K F' H' v0 t0' C ∧ ∀ a, C.count a = A2.count a + B.count a
  | [], v0, t0, t, A0, h, e => by
    cases e
    exact ⟨v0, A0, [], .here v0, h, fun a => by simp, fun m k t' A2 x => ⟨t', A2, rfl, x, fun a => by simp⟩⟩
  | j :: js, _, .ol ts, t, _, .ol (a := a0) (vs := vs) (A := A1) h r, e => by
    obtain ⟨t1, e1, e2⟩ := Option.bind_eq_some_iff.mp (show (atI ts j).bind (T.at? js) = some t from e)
    obtain ⟨k, ek, ev⟩ := atI_ix e1
    obtain ⟨v1, A2, B2, g1, g2, g3, g4⟩ := r.around ev
    obtain ⟨v, A3, B3, l, x, hc, pt⟩ := Rp.loc g2 e2
    have lv : atI vs j = some v1 := by
      show (ixN vs.length j).bind (fun k => vs[k]?) = _
      rw [r.len, ek]; exact g1
    refine ⟨v, A3, a0 :: (B3 ++ B2), .lst h lv l, x, fun a => by rw [List.count_cons, List.count_cons, List.count_append, g3 a, hc a]; omega, fun {F' H'} m kk t' A4 y => ?_⟩
    have k2 : ∀ a ∈ B2, H' a = H a := fun a ha => kk a (List.mem_cons_of_mem _ (List.mem_append_right _ ha))
    have k3 : ∀ a ∈ B3, H' a = H a := fun a ha => kk a (List.mem_cons_of_mem _ (List.mem_append_left _ ha))
    obtain ⟨t1', C, q1, q2, q3⟩ := pt m k3 y
    obtain ⟨C2, s, q4⟩ := g4.put m k2 q2
    have es : vs.set k v1 = vs := set_self g1
    rw [es] at s
    refine ⟨.ol (ts.set k t1'), a0 :: C2, ?_, .ol ((kk a0 List.mem_cons_self).trans h) s, fun a => by rw [List.count_cons, List.count_cons, List.count_append, q4 a, q3 a]; omega⟩
    show (ixN ts.length j).bind _ = _
    rw [ek]
    show (ts[k]?).bind _ = _
    rw [ev]
    show (T.put? js t' t1).map _ = _
    rw [q1]
    rfl
  | j :: js, _, .ot ts, t, _, .ot (a := a0) (vs := vs) (A := A1) h r, e => by
    obtain ⟨t1, e1, e2⟩ := Option.bind_eq_some_iff.mp (show (atI ts j).bind (T.at? js) = some t from e)
    obtain ⟨k, ek, ev⟩ := atI_ix e1
    obtain ⟨v1, A2, B2, g1, g2, g3, g4⟩ := r.around ev
    obtain ⟨v, A3, B3, l, x, hc, pt⟩ := Rp.loc g2 e2
    have lv : atI vs j = some v1 := by
      show (ixN vs.length j).bind (fun k => vs[k]?) = _
      rw [r.len, ek]; exact g1
    refine ⟨v, A3, B3 ++ B2, .tup h lv l, x, fun a => by rw [List.count_append, g3 a, hc a]; omega, fun {F' H'} m kk t' A4 y => ?_⟩
    have k2 : ∀ a ∈ B2, H' a = H a := fun a ha => kk a (List.mem_append_right _ ha)
    have k3 : ∀ a ∈ B3, H' a = H a := fun a ha => kk a (List.mem_append_left _ ha)
    obtain ⟨t1', C, q1, q2, q3⟩ := pt m k3 y
    obtain ⟨C2, s, q4⟩ := g4.put m k2 q2
    have es : vs.set k v1 = vs := set_self g1
    rw [es] at s
    refine ⟨.ot (ts.set k t1'), C2, ?_, .ot (m.still _ _ h trivial) s, fun a => by rw [q4 a, q3 a, List.count_append]; omega⟩
    show (ixN ts.length j).bind _ = _
    rw [ek]
    show (ts[k]?).bind _ = _
    rw [ev]
    show (T.put? js t' t1).map _ = _
    rw [q1]
    rfl
  | _ :: _, _, .d _, _, _, _, e => by cases e
  | _ :: _, _, .od _ _, _, _, _, e => by cases e
  | _ :: _, _, .fd _ _ _, _, _, _, e => by cases e
  | _ :: _, _, .fk _ _ _, _, _, _, e => by cases e
  | _ :: _, _, .no _, _, _, _, e => by cases e
  | _ :: _, _, .ex _, _, _, _, e => by cases e
  | _ :: _, _, .ob _ _ _, _, _, _, e => by cases e
  | _ :: _, _, .rd _, _, _, _, e => by cases e
end
def T.int? : T → Option Int
  | .d (.int j) => some j
  | _ => none
theorem int?_eq {t : T} {j : Int} (h : t.int? = some j) : t = .d (.int j) := by
  unfold T.int? at h
  split at h
  · cases h; rfl
  · cases h
abbrev ML := Env → Option (List Int)
def SimL (K : PySem.W.Frag) (i : Nat) (te : TE) (mp : ML) : Prop :=
  ∀ (c : C0) (H : Hp) (tv : List (Option V)) (td : Env) (σ : L2.St) (ρ : Env) (A : List Addr) (p : List Int) (t0 t : T), tv.length = td.length → StW K c H (tv ++ σ) (td ++ ρ) A → mp ρ = some p → ρ[i]? = some (some t0) → T.at? p t0 = some t → ∀ Q : VK,
    (∀ v0 v, σ[i]? = some (some v0) → Loc H v0 p v → Q v H) → te σ H Q
structure QL (X : Cx) (i : Nat) (e : Expr) (te : TE) (mp : ML) : Prop where
  pe : PE X e te
  sim : SimL X.K i te mp
def lHere : ML := fun _ => some []
def lIx (mp : ML) (mi : MP) : ML := fun ρ => (mp ρ).bind fun p => ((mi ρ).bind T.int?).bind fun j => some (p ++ [j])
section
variable {X : Cx} {E : Str → Hp → Prop} {a b : Expr} {ta tb : TE} {pos : Pos}
theorem ql_name (i : Nat) {x : Str} {pos : Pos} (hN : X.N[i]? = some x := by rfl) (hv : Vis X.env.scope x := by first | exact Or.inl rfl | exact Or.inr (Or.inl rfl) | exact Or.inr (Or.inr rfl)) (hd : (x == ("__debug__" : Str)) = false := by decide)
    (hcd : (x == ("__classdict__" : Str)) = false := by decide) : QL X i (.Name x pos) (tVar i) lHere := ⟨pe_var hN hv hd hcd, fun c H tv td σ ρ A p t0 t hl w e1 e2 e3 Q q => by
  cases e1
  obtain ⟨v, A1, e4, _, _⟩ := w.see hl e2
  exact ⟨v, e4, q v v e4 (.here v)⟩⟩
theorem ql_ix {i : Nat} {mp : ML} {mi : MP} (ha : QL X i a ta mp) (hb : QP X b tb mi) (hs : PlainIx b := by exact fun _ _ => rfl) : QL X i (.Subscript a b pos) (tOp (rIx X.K) ta tb) (lIx mp mi) := by
  refine ⟨pe_ix ix_seq ha.pe hb.pe hs, fun c H tv td σ ρ A p t0 t hl w e1 e2 e3 Q q => ?_⟩
  unfold lIx at e1
  obtain ⟨p0, e4, e5⟩ := Option.bind_eq_some_iff.mp e1
  obtain ⟨j, e6', e7⟩ := Option.bind_eq_some_iff.mp e5
  obtain ⟨tj, e6, e60⟩ := Option.bind_eq_some_iff.mp e6'
  · cases e7
    cases int?_eq e60
    obtain ⟨t1, e8, e9⟩ := at_snoc e3
    obtain ⟨v0, A0, ev0, r0, _⟩ := w.see hl e2
    refine ha.sim c H tv td σ ρ A p0 t0 t1 hl w e4 e2 e8 _ fun v0' v1 ev0' l1 => ?_
    rw [ev0] at ev0'; cases ev0'
    obtain ⟨v1', A1, B1, l1', r1, _, _⟩ := r0.loc e8
    have := l1.uniq l1'
    subst this
    obtain ⟨v2, A2, B2, l2, _, _, _⟩ := r1.loc e9
    refine hb.sim c H tv td σ ρ A _ hl w e6 _ fun u A3 r3 _ => ?_
    have eu := r3.i
    cases l2 with
    | lst h1 h2 h3 =>
      cases h3
      exact .inl ⟨_, _, j, v2, rfl, eu, .of h1, h2, q v0 v2 ev0 (l1.snoc (.lst h1 h2 (.here _)))⟩
    | tup h1 h2 h3 =>
      cases h3
      exact .inr (.inl ⟨_, _, j, v2, rfl, eu, .of h1, h2, q v0 v2 ev0 (l1.snoc (.tup h1 h2 (.here _)))⟩)
end
def UpdV (K : PySem.W.Frag) (rM : V → List V → Hp → VK → Prop) (op : List T → List T → Option (T × List T)) : Prop :=
  ∀ (F : Addr → Prop) (H : Hp) (a : Addr) (vs ys : List V) (ts us : List T) (A1 A2 : List Addr) (r : T × List T), H a = some (.lst vs) → RpAll K F H vs ts A1 → RpAll K F H ys us A2 → op ts us = some r → ∀ Q : VK,
    (∀ res vs' C1 C2, Rp K F H res r.1 C1 → RpAll K F H vs' r.2 C2 → (∀ b, C1.count b + C2.count b ≤ A1.count b + A2.count b) → Q res (upd H a (.lst vs'))) → rM (.ref a) ys H Q
def lstAt (p : List Int) (o : Option (Option T)) : Option (List T) := match o with
  | some (some t) => (match T.at? p t with | some (.ol ts) => some ts | _ => none)
  | _ => none
def putAt (i : Nat) (p : List Int) (ts : List T) (ρ : Env) : Option Env := match ρ[i]? with
  | some (some t) => (T.put? p (.ol ts) t).map fun t' => ρ.set i (some t')
  | _ => none
def mMeth (i : Nat) (mp : ML) (op : List T → List T → Option (T × List T)) (ma : MA) : MEx := fun ρ => (ofO (mp ρ)).bind fun p => (ofO (lstAt p ρ[i]?)).bind fun _ => (ma ρ).bind fun r => (ofO (lstAt p r.2[i]?)).bind fun ts => (ofO (op ts r.1)).bind fun z => (ofO (putAt i p z.2 r.2)).bind fun ρ' => .ok (z.1, ρ')
theorem lstAt_some {p : List Int} {o : Option (Option T)} {ts : List T} (h : lstAt p o = some ts) : ∃ t, o = some (some t) ∧ T.at? p t = some (.ol ts) := by
  unfold lstAt at h
  split at h
  · rename_i t
    split at h
    · rename_i e
      cases h
      exact ⟨t, rfl, e⟩
    · cases h
  · cases h
theorem StW.write {K : PySem.W.Frag} {c : C0} {H : Hp} {tv : List (Option V)} {td : Env} {σ : L2.St} {ρ : Env} {A Aa B : List Addr} (hl : tv.length = td.length) (u : ∀ a, A.count a ≤ 1) (ow : ∀ a ∈ A, a ∈ c.A0 ∨ c.H0 a = none) (k : KeepC c H) (hc : ∀ a, Aa.count a + B.count a ≤ A.count a)
    (s : Sl K (Fok c A) H (tv ++ σ) (td ++ ρ) B) {i : Nat} {p : List Int} {t0 : T} {ts : List T} (e0 : ρ[i]? = some (some t0)) (e1 : T.at? p t0 = some (.ol ts)) :
    ∃ (v0 : V) (a : Addr) (vs : List V) (A1 : List Addr), σ[i]? = some (some v0) ∧ Loc H v0 p (.ref a) ∧ H a = some (.lst vs) ∧ RpAll K (Fok c A) H vs ts A1 ∧
      ∀ (res : V) (tr : T) (vs' : List V) (ts' : List T) (C1 C2 : List Addr) (ρ' : Env), Rp K (Fok c A) H res tr C1 → RpAll K (Fok c A) H vs' ts' C2 → (∀ b, C1.count b + C2.count b ≤ A1.count b + Aa.count b) → putAt i p ts' ρ = some ρ' →
        StR K c (upd H a (.lst vs')) (some res :: (tv ++ σ)) (some tr :: (td ++ ρ')) := by
  have hlen := s.len
  have hi : i < ρ.length := (List.getElem?_eq_some_iff.mp e0).1
  obtain ⟨B1, hb, ar, get⟩ := s.around (i := tv.length + i) (by rw [hlen, List.length_append]; omega)
  obtain ⟨v0, A0, e3, x, hc1⟩ := get t0 (by rw [app_at hl.symm, e0])
  rw [app_at rfl] at e3
  obtain ⟨v, Al, Bl, l, xl, hc2, pt⟩ := x.loc e1
  cases xl with
  | @ol a vs _ A1 ha ra =>
    refine ⟨v0, a, vs, A1, e3, l, ha, ra, fun res tr vs' ts' C1 C2 ρ' xr xs hC ep => ?_⟩
    have cc : ∀ b, (a :: A1).count b = A1.count b + (if a = b then 1 else 0) := fun b => by
      rw [List.count_cons]
      by_cases e : a = b
      · simp [e]
      · simp [e]
    have tot : ∀ b, A1.count b + (if a = b then 1 else 0) + Bl.count b + B1.count b + Aa.count b ≤ A.count b := fun b => by
      have h1 := hc b
      have h2 := hc1 b
      have h3 := hc2 b
      have h4 := cc b
      omega
    have aA : a ∈ A := List.count_pos_iff.mp (by have := tot a; rw [if_pos rfl] at this; omega)
    have ne : ∀ {C : List Addr}, (∀ b, C.count b + (if a = b then 1 else 0) ≤ A.count b) → ∀ b ∈ C, b ≠ a := fun {C} h b hb e => by
      subst e
      have h1 := h b
      have h2 := u b
      have h3 := List.count_pos_iff.mpr hb
      rw [if_pos rfl] at h1
      omega
    let H2 := upd H a (.lst vs')
    have mo : Mono (Fok c A) (Fok c A) H H2 := ⟨fun b ws e f => ⟨by show upd H a _ b = _; rw [upd_ne (fun z => f.2 (by rw [z]; exact aA))]; exact e, f⟩, fun b uu e st => by
      show upd H a _ b = _
      rw [upd_ne (fun z => by rw [z, ha] at e; cases e; exact st)]
      exact e⟩
    have eqs : ∀ {C : List Addr}, (∀ b ∈ C, b ≠ a) → ∀ b ∈ C, H2 b = H b := fun h b hb => upd_ne (h b hb)
    have nC1 : ∀ b ∈ C1, b ≠ a := ne fun b => by have := hC b; have := tot b; omega
    have nC2 : ∀ b ∈ C2, b ≠ a := ne fun b => by have := hC b; have := tot b; omega
    have nBl : ∀ b ∈ Bl, b ≠ a := ne fun b => by have := tot b; omega
    have nB1 : ∀ b ∈ B1, b ≠ a := ne fun b => by have := tot b; omega
    obtain ⟨t0', C3, q1, q2, q3⟩ := pt mo (eqs nBl) (t' := .ol ts') (A2 := a :: C2) (.ol upd_same (xs.mono mo (eqs nC2)))
    obtain ⟨C4, s4, q4⟩ := ar.put mo (eqs nB1) q2
    rw [app_set rfl, set_self e3, app_set hl.symm] at s4
    have er : ρ' = ρ.set i (some t0') := by
      unfold putAt at ep
      rw [e0] at ep
      dsimp only at ep
      rw [q1] at ep
      cases ep
      rfl
    subst er
    have fin : ∀ b, (C1 ++ C4).count b ≤ A.count b := fun b => by
      have h1 := q4 b
      have h2 := q3 b
      have h3 := hC b
      have h4 := tot b
      rw [List.count_append]
      rw [List.count_cons] at h2
      by_cases e : a = b
      · simp [e] at h2 h4; omega
      · simp [e] at h2 h4; omega
    refine ⟨C1 ++ C4, fun b => Nat.le_trans (fin b) (u b), ?_, fun b hb => ow b (List.count_pos_iff.mp (Nat.lt_of_lt_of_le (List.count_pos_iff.mpr hb) (fin b))), ⟨fun b o e n => ?_, fun b e => ?_⟩⟩
    · exact (Sl.cons (xr.mono mo (eqs nC1)) s4).mono (.sub fun b _ => Fok.sub fin b) fun _ _ => rfl
    · rw [upd_ne]
      · exact k.keep b o e n
      · intro z
        subst z
        rcases ow b aA with y | y
        · exact n y
        · rw [e] at y; cases y
    · by_cases z : b = a
      · subst z
        rw [upd_same] at e; cases e
      · rw [upd_ne z] at e
        exact k.there b e
section
variable {X : Cx} {E : Str → Hp → Prop} {o e : Expr} {es : List Expr} {to : TE} {t : TA} {name : Str} {apos cpos : Pos} {id : String} {rM : V → List V → Hp → VK → Prop} {op : List T → List T → Option (T × List T)} {g : Bool}
theorem ty_list {K : PySem.W.Frag} {a : Addr} {vs : List V} {H : Hp} (h : H a = some (.lst vs)) : tyV K "list" (.ref a) H := .inl ⟨rfl, vs, .of h⟩
theorem sim_meth {K : PySem.W.Frag} {i : Nat} {mp : ML} {ma : MA} (hv : UpdV K rM op) (sl : SimL K i to mp) (sa : SimA K E g t ma) (hg : g = true ∨ ∀ ρ p, mp ρ = some p → p = []) : SimE K E false (tBM K "list" rM to t) (mMeth i mp op ma) := by
  intro c H tv td σ ρ hl st Q q
  unfold mMeth at q
  obtain ⟨p, ep, q⟩ := then_ofO.mp (then_bind.mp q)
  obtain ⟨ts0, el, q⟩ := then_ofO.mp (then_bind.mp q)
  obtain ⟨t0, e0, e1⟩ := lstAt_some el
  have q1 := then_bind.mp q
  obtain ⟨A, w⟩ := st
  refine sl c H tv td σ ρ A p t0 _ hl w ep e0 e1 _ fun v0 v ev0 lv => ?_
  obtain ⟨v0', a0, vs0, A10, ev0', l0, ha0, _, _⟩ := StW.write (Aa := []) hl w.uniq w.own w.keep (fun a => by simp) w.slots e0 e1
  rw [ev0] at ev0'; cases ev0'
  have ev := lv.uniq l0
  subst ev
  refine ⟨ty_list ha0, ?_⟩
  refine sa c H tv td σ ρ hl ⟨A, w⟩ _ (q1.imp ?_)
  intro r q2 ys H1 sm hys st1
  obtain ⟨ts, er, q3⟩ := then_ofO.mp (then_bind.mp q2)
  obtain ⟨t1, e2, e3⟩ := lstAt_some er
  obtain ⟨z, ez, q4⟩ := then_ofO.mp (then_bind.mp q3)
  obtain ⟨ρ', eρ, q5⟩ := then_ofO.mp (then_bind.mp q4)
  obtain ⟨A', w1⟩ := st1
  obtain ⟨Aa, B, eA, ra, s⟩ := w1.slots.front hys
  obtain ⟨v1, a, vs, A1, ev1, l1, ha, rl, fin⟩ := StW.write (Aa := Aa) hl w1.uniq w1.own w1.keep (fun a => by rw [eA, List.count_append]; exact Nat.le_refl _) s e2 e3
  rw [ev0] at ev1; cases ev1
  have ea : a0 = a := by
    rcases hg with hg | hg
    · have := (lv.grow (sm hg)).uniq l1
      cases this; rfl
    · have := hg ρ p ep
      subst this
      cases l1; cases lv; rfl
  subst ea
  refine hv _ H1 a0 vs ys ts r.1 A1 Aa z ha rl ra ez Q fun res vs' C1 C2 x1 x2 hC => ?_
  exact q5 _ _ (fun y => by cases y) (fin res z.1 vs' z.2 C1 C2 ρ' x1 x2 hC eρ)
theorem lHere_nil {ρ : Env} {p : List Int} (h : lHere ρ = some p) : p = [] := by cases h; rfl
theorem qe_meth {i : Nat} {mp : ML} {ma : MA} (slot : Slot "list" name id) (hty : typeOf (.builtin id) = pure (.type "method_descriptor")) (hm : MtR X id rM) (hv : UpdV X.K rM op) (ho : QL X i o to mp) (ha : QA X E g (e :: es) t ma) (hg : g = true ∨ ∀ ρ p, mp ρ = some p → p = [])
    (hbase : attributeBase o name X.env (eval o X.env) = eval o X.env := by rfl)
    (hfew : ((backTo cpos (starEach (e :: es) X.env)).all (fun x => !x.1) && (backToKw cpos (keywordEach [] X.env)).all (fun x => x.1.isSome)
      && decide ((e :: es).length + ([] : List Keyword).length + (if ([] : List Keyword).isEmpty then 0 else 1) < 30)) = true := by rfl)
    (hline : (apos.endLine == cpos.line) = true := by rfl) (hs : starEach (e :: es) X.env = (false, eval e X.env) :: starEach es X.env := by rfl) (hplain : (backTo cpos (starEach es X.env)).any (·.1) = false := by rfl) :
    QE X E false (.Call (.Attribute o name apos) (e :: es) [] cpos) (tBM X.K "list" rM to t) (mMeth i mp op ma) := ⟨pe_bm PySem.F.plainAttrs_list slot hty hm ho.pe ha.pa hbase hfew hline hs hplain, sim_meth hv ho.sim ha.sim hg⟩
end
def opAppend : List T → List T → Option (T × List T) := fun ts us => match us with
  | [u] => if decide (ts.length < sLine) = true then some (.d .none, ts ++ [u]) else none
  | _ => none
theorem append_v {K : PySem.W.Frag} : UpdV K rAppend opAppend := by
  intro F H a vs ys ts us A1 A2 r ha r1 r2 e Q q
  unfold opAppend at e
  split at e
  · split at e
    · rename_i u hz
      cases e
      cases r2 with
      | cons x rn =>
        rename_i v vs0 Ax Bx
        cases rn
        have hz' := of_decide_eq_true hz
        obtain ⟨C, r', z⟩ := r1.snoc x
        exact ⟨a, vs, v, rfl, rfl, ha, by rw [r1.len, ← sLine_eq]; exact hz', q .non _ [] C (.d .non) r' fun b => by rw [z b, List.count_append]; simp⟩
    · cases e
  · cases e
def T.kids : T → Option (List T)
  | .d (.list ds) => some (ds.map T.d)
  | .ol ts => some ts
  | _ => none
theorem RpAll.append {K : PySem.W.Frag} {F : Addr → Prop} {H : Hp} : ∀ {vs ws : List V} {ts us : List T} {A B : List Addr}, RpAll K F H vs ts A → RpAll K F H ws us B → ∃ C, RpAll K F H (vs ++ ws) (ts ++ us) C ∧ ∀ a, C.count a = A.count a + B.count a
  | _, _, _, _, _, B, .nil, x => ⟨B, x, fun a => by simp⟩
  | _, _, _, _, _, _, .cons (A := A1) y r, x => by
    obtain ⟨C, r', z⟩ := r.append x
    exact ⟨A1 ++ C, .cons y r', fun a => by rw [List.count_append, List.count_append, z a]; omega⟩
theorem Rp.kids {K : PySem.W.Frag} {F : Addr → Prop} {H : Hp} {v : V} {t : T} {A : List Addr} {us : List T} (h : Rp K F H v t A) (e : t.kids = some us) : ∃ b ws B, v = .ref b ∧ H b = some (.lst ws) ∧ RpAll K F H ws us B ∧ ∀ a, B.count a ≤ A.count a := by
  unfold T.kids at e
  split at e
  · cases e
    cases h with
    | d h =>
      cases h with
      | lst h1 _ f => exact ⟨_, _, [], rfl, h1, RpAll.ofFz f, fun a => by simp⟩
  · cases e
    cases h with
    | ol h1 r => exact ⟨_, _, _, rfl, h1, r, fun a => by rw [List.count_cons]; omega⟩
  · cases e
def opExtend : List T → List T → Option (T × List T) := fun ts us => match us with
  | [u] => (match u.kids with | some ks => if decide (ts.length + ks.length ≤ sLine) = true then some (.d .none, ts ++ ks) else none | none => none)
  | _ => none
def mgItem (i : Nat) (mp : ML) (mi : MP) : MG := fun t ρ => (mp ρ).bind fun p => ((mi ρ).bind T.int?).bind fun j => (lstAt p ρ[i]?).bind fun ts => (ixN ts.length j).bind fun k => putAt i p (ts.set k t) ρ
section
variable {X : Cx} {a b : Expr} {ta tb : TE} {pos : Pos} {pr : Nat → Bool}
theorem RpAll.setk {K : PySem.W.Frag} {F : Addr → Prop} {H : Hp} {vs : List V} {ts : List T} {A B : List Addr} {v : V} {t : T} (r : RpAll K F H vs ts A) (k : Nat) (hk : k < ts.length) (x : Rp K F H v t B) : ∃ C, RpAll K F H (vs.set k v) (ts.set k t) C ∧ ∀ a, C.count a ≤ A.count a + B.count a := by
  obtain ⟨v1, A1, B1, _, _, hc, p⟩ := r.around (List.getElem?_eq_getElem hk)
  obtain ⟨C, s, z⟩ := p.put (Mono.sub fun _ _ x => x) (fun _ _ => rfl) x
  exact ⟨C, s, fun a => by have := z a; have := hc a; omega⟩
theorem qg_item {i : Nat} {mp : ML} {mi : MP} (ho : QL X i a ta mp) (hi : QP X b tb mi) (ha : ∀ v, assign (.Subscript a b pos) X.env v = (do
      let ov ← holding [v] (eval a X.env)
      let iv ← holding [v, ov] (eval b X.env)
      standAt pos
      holding [v, ov, iv] (setItem ov iv v)
      release [v, ov, iv] []) := by intro _; rfl) : QG X pr (.Subscript a b pos) (gSub ta tb rSetL) (mgItem i mp mi) := by
  refine ⟨pg_sub ho.pe hi.pe set_list ha, fun c H tv td σ ρ ρ' v t hl st e Q q => ?_⟩
  unfold mgItem at e
  obtain ⟨p, e1, e⟩ := Option.bind_eq_some_iff.mp e
  obtain ⟨j, e2', e⟩ := Option.bind_eq_some_iff.mp e
  obtain ⟨tj, e2, e20⟩ := Option.bind_eq_some_iff.mp e2'
  cases int?_eq e20
  obtain ⟨ts, e3, e⟩ := Option.bind_eq_some_iff.mp e
  · obtain ⟨k, e4, e5⟩ := Option.bind_eq_some_iff.mp e
    obtain ⟨t0, e6, e7⟩ := lstAt_some e3
    obtain ⟨A, w⟩ := st
    have w' : StW X.K c H ((some v :: tv) ++ σ) ((some t :: td) ++ ρ) A := w
    refine ho.sim c H (some v :: tv) (some t :: td) σ ρ A p t0 _ (by simp [hl]) w' e1 e6 e7 _ fun v0 vo ev0 lo => ?_
    refine hi.sim c H (some v :: tv) (some t :: td) σ ρ A _ (by simp [hl]) w' e2 _ fun u Au ru _ => ?_
    have eu := ru.i
    obtain ⟨Aa, B, eA, x, s⟩ := w.top
    obtain ⟨v1, a1, vs, A1, ev1, l1, ha1, rl, fin⟩ := StW.write (Aa := Aa) hl w.uniq w.own w.keep (fun a => by rw [eA, List.count_append]; exact Nat.le_refl _) s e6 e7
    rw [ev0] at ev1; cases ev1
    have := lo.uniq l1
    subst this
    have hk : k < ts.length := (ixN_seq e4).2.1
    refine ⟨a1, vs, j, k, rfl, eu, ha1, by rw [rl.len]; exact e4, ?_⟩
    obtain ⟨C, s', z⟩ := rl.setk k hk x
    exact q σ _ .refl (fin .non (.d .none) _ _ [] C ρ' (.d .non) s' (fun b => by have := z b; simp; omega) e5).drop
end
end L3
namespace L3
open PySem PySem.Spec PyProof.Rows L2
def T.size : T → Option Nat
  | .d (.list ds) => some ds.length
  | .d (.tuple ds) => some ds.length
  | .d (.str s) => if decide (s.length ≤ sLine) = true then some s.length else none
  | .ol ts => some ts.length
  | .ot ts => some ts.length
  | .rd ds => some ds.length
  | _ => none
def opLen : List T → R RV
  | [t] => (ofO t.size).bind fun n => .ok (.v (.d (.int n)))
  | _ => .bad
abbrev rLen (K : PySem.W.Frag) : List V → Hp → VK → Prop := fun xs H Q => ∃ x n, xs = [x] ∧ LenV K x H n ∧ Q (.int n) H
theorem one_of {K : PySem.W.Frag} {F : Addr → Prop} {H : Hp} {vs : List V} {t : T} {A : List Addr} (h : RpAll K F H vs [t] A) : ∃ v B, vs = [v] ∧ Rp K F H v t B ∧ ∀ a, B.count a ≤ A.count a := by
  cases h with
  | cons x r =>
    cases r
    exact ⟨_, _, rfl, x, fun a => by rw [List.count_append]; omega⟩
theorem Rp.size {K : PySem.W.Frag} {F : Addr → Prop} {H : Hp} {v : V} {t : T} {A : List Addr} {n : Nat} (h : Rp K F H v t A) (e : t.size = some n) : LenV K v H n := by
  unfold T.size at e
  split at e
  · cases e
    cases h with | d h => cases h with | lst h _ f => exact .inl ⟨_, .of h, f.len.symm⟩
  · cases e
    cases h with | d h => cases h with | tup h f => exact .inr ⟨_, h, f.len.symm⟩
  · split at e
    · rename_i hz
      cases e
      cases h with | d h => cases h; exact ⟨by rw [← sLine_eq]; exact of_decide_eq_true hz, rfl⟩
    · cases e
  · cases e
    cases h with | ol h f => exact .inl ⟨_, .of h, f.len.symm⟩
  · cases e
    cases h with | ot h f => exact .inr ⟨_, .of h, f.len.symm⟩
  · cases e
    cases h with | rd h f => exact .inl ⟨_, h.sq, f.len.symm⟩
  · cases e
theorem opLen_v {K : PySem.W.Frag} : CallV K (rLen K) opLen := by
  intro F H vs ts A r Q q
  unfold opLen at q
  split at q
  · obtain ⟨n, e, q⟩ := then_ofO.mp (then_bind.mp q)
    obtain ⟨v, B, rfl, x, _⟩ := one_of r
    exact ⟨v, n, rfl, x.size e, rv_d q (.int _)⟩
  · exact q.elim
def opAbs : List T → R RV
  | [.d (.int i)] => .ok (.v (.d (.int (if i < 0 then -i else i))))
  | _ => .bad
abbrev rAbs : List V → Hp → VK → Prop := fun xs H Q => ∃ i, xs = [.int i] ∧ Q (.int (if i < 0 then -i else i)) H
theorem opAbs_v {K : PySem.W.Frag} : CallV K rAbs opAbs := by
  intro F H vs ts A r Q q
  unfold opAbs at q
  split at q
  · obtain ⟨v, B, rfl, x, _⟩ := one_of r
    cases x.i
    exact ⟨_, rfl, rv_d q (.int _)⟩
  · exact q.elim
theorem opAbs_nox : NoXL opAbs := by
  intro x c
  unfold opAbs
  split <;> (intro z; cases z)
def opInt1 : List T → R RV
  | [.d (.int i)] => .ok (.v (.d (.int i)))
  | [.d (.bool b)] => .ok (.v (.d (.int (if b then 1 else 0))))
  | _ => .bad
abbrev rInt1 : List V → Hp → VK → Prop := fun xs H Q => (∃ i, xs = [.int i] ∧ Q (.int i) H) ∨ ∃ k, xs = [.bl k] ∧ Q (.int (if k then 1 else 0)) H
theorem opInt1_v {K : PySem.W.Frag} : CallV K rInt1 opInt1 := by
  intro F H vs ts A r Q q
  unfold opInt1 at q
  split at q
  · obtain ⟨v, B, rfl, x, _⟩ := one_of r
    cases x.i
    exact .inl ⟨_, rfl, rv_d q (.int _)⟩
  · obtain ⟨v, B, rfl, x, _⟩ := one_of r
    cases x.b
    exact .inr ⟨_, rfl, rv_d q (.int _)⟩
  · exact q.elim
theorem opInt1_nox : NoXL opInt1 := by
  intro x c
  unfold opInt1
  split <;> (intro z; cases z)
def opStrI : List T → R RV
  | [.d (.int i)] => guard (decide (i.natAbs.log2 < 1920)) (.ok (.v (.d (.str (toString i)))))
  | _ => .bad
abbrev rStrI : List V → Hp → VK → Prop := fun xs H Q => ∃ i, xs = [.int i] ∧ i.natAbs.log2 < 1920 ∧ Q (.str (toString i)) H
theorem opStrI_v {K : PySem.W.Frag} : CallV K rStrI opStrI := by
  intro F H vs ts A r Q q
  unfold opStrI at q
  split at q
  · obtain ⟨v, B, rfl, x, _⟩ := one_of r
    obtain ⟨g, q⟩ := then_guard.mp q
    cases x.i
    exact ⟨_, rfl, of_decide_eq_true g, rv_d q (.str _)⟩
  · exact q.elim
theorem opStrI_nox : NoXL opStrI := by
  intro x c
  unfold opStrI
  split
  · exact guard_noexc (by intro _ z; cases z) c
  · intro z; cases z
def T.seq? : T → Option (List PyData)
  | .d (.list ds) => some ds
  | .d (.tuple ds) => some ds
  | .ol ts => T.allD ts
  | .rd ds => some ds
  | _ => none
theorem Rp.seq? {K : PySem.W.Frag} {F : Addr → Prop} {H : Hp} {v : V} {t : T} {A : List Addr} {ds : List PyData} (h : Rp K F H v t A) (e : t.seq? = some ds) : ∃ a vs, v = .ref a ∧ (SqL K H a vs ∨ SqT K H a vs) ∧ FzAll K F H vs ds := by
  unfold T.seq? at e
  split at e
  · cases e
    cases h with | d h => cases h with | lst h _ f => exact ⟨_, _, rfl, .inl (.of h), f⟩
  · cases e
    cases h with | d h => cases h with | tup h f => exact ⟨_, _, rfl, .inr h, f⟩
  · cases h with | ol h r => exact ⟨_, _, rfl, .inl (.of h), (r.data e).1⟩
  · cases e
    cases h with | rd h f => exact ⟨_, _, rfl, .inl h.sq, f⟩
  · cases e
def opListOf : List T → R RV
  | [t] => (ofO t.seq?).bind fun ds => .ok (.nl ds)
  | _ => .bad
abbrev rListOf (K : PySem.W.Frag) : List V → Hp → VK → Prop := fun xs H Q => ∃ p ys, xs = [.ref p] ∧ (SqL K H p ys ∨ SqT K H p ys) ∧ ∀ l, H l = none → Q (.ref l) (upd H l (.lst ys))
theorem opListOf_v {K : PySem.W.Frag} : CallV K (rListOf K) opListOf := by
  intro F H vs ts A r Q q
  unfold opListOf at q
  split at q
  · obtain ⟨ds, e, q⟩ := then_ofO.mp (then_bind.mp q)
    obtain ⟨v, B, rfl, x, _⟩ := one_of r
    obtain ⟨a, ws, rfl, h, f⟩ := x.seq? e
    exact ⟨a, ws, rfl, h, fun l hl => q l ws hl f⟩
  · exact q.elim
theorem opListOf_nox : NoXL opListOf := by
  intro x c
  unfold opListOf
  split
  · exact bind_noexc (fun _ => ofO_noexc _) (by intro _ _ z; cases z) c
  · intro z; cases z
def opTupleOf : List T → R RV
  | [.d (.tuple ds)] => .ok (.v (.d (.tuple ds)))
  | [t] => (ofO t.lst?).bind fun ds => .ok (.nt ds)
  | _ => .bad
def opMax2 : List T → R RV
  | [.d (.int i), .d (.int j)] => .ok (.v (.d (.int (if j > i then j else i))))
  | _ => .bad
def opMin2 : List T → R RV
  | [.d (.int i), .d (.int j)] => .ok (.v (.d (.int (if j < i then j else i))))
  | _ => .bad
def opNeg : T → R RV
  | .d (.int i) => .ok (.v (.d (.int (-i))))
  | _ => .bad
theorem opNeg_v {K : PySem.W.Frag} : UnV K (rU fun i => .int (-i)) opNeg := by
  intro F H v x A hx Q q
  unfold opNeg at q
  split at q
  · exact ⟨_, hx.i, rv_d q (.int _)⟩
  · exact q.elim
section
variable {X : Cx} {E : Str → Hp → Prop} {a e : Expr} {ta te : TE} {ma : MP} {pos : Pos} {io : List Nat}
theorem qp_neg (ha : QP X a ta ma) : QP X (.UnaryOp .USub a pos) (tUn (rU fun i => .int (-i)) ta) (pUn opNeg ma) := ⟨pe_un un_neg ha.pe, sim_pun opNeg_v ha.sim⟩
def T.ty : T → Option String
  | .d .none => some "NoneType"
  | .d (.bool _) => some "bool"
  | .d (.int _) => some "int"
  | .d (.str _) => some "str"
  | .d (.list _) => some "list"
  | .d (.tuple _) => some "tuple"
  | .ol _ => some "list"
  | .ot _ => some "tuple"
  | _ => none
def isaT (n : String) (t : T) : Option Bool := t.ty.bind fun m => kitB m n
def pIsa (n : String) (m : MP) : MP := fun ρ => ((m ρ).bind (isaT n)).map fun b => .d (.bool b)
theorem sqT_tyx {K : PySem.W.Frag} {H : Hp} {a : Addr} {vs : List V} (h : SqT K H a vs) : TyX K H (.ref a) (.type "tuple") := by
  rcases h with (h | ⟨o, h⟩) | ⟨o, its, n, h, c, _⟩
  · exact .base (.tup h)
  · exact .fTuple h
  · exact .kTuple h c
theorem Rp.ty {K : PySem.W.Frag} {F : Addr → Prop} {H : Hp} {v : V} {t : T} {A : List Addr} {n : String} (h : Rp K F H v t A) (e : t.ty = some n) : TyX K H v (.type n) := by
  unfold T.ty at e
  split at e
  · cases e; cases h with | d h => cases h; exact .base .non
  · cases e; cases h with | d h => cases h; exact .base (.bl _)
  · cases e; cases h with | d h => cases h; exact .base (.int _)
  · cases e; cases h with | d h => cases h; exact .base (.str _)
  · cases e; cases h with | d h => cases h with | lst h _ _ => exact .base (.lst h)
  · cases e; cases h with | d h => cases h with | tup h _ => exact sqT_tyx h
  · cases e; cases h with | ol h _ => exact .base (.lst h)
  · cases e; cases h with | ot h _ => exact .base (.tup h)
  · cases e
theorem qp_isi {n : String} {x : Str} {p p2 : Pos} (he : QP X e te ma) (hm : X.mg "isinstance" = none) (hm2 : X.mg x = none) (hv : bootBuiltins x = some (.type n)) (hg : Gl X "isinstance" := by rfl) (hg2 : Gl X x := by rfl) (hn : x ≠ "__name__" := by decide) (hd : (x == ("__debug__" : Str)) = false := by decide)
    (hs : starEach [e, .Name x p2] X.env = (false, eval e X.env) :: starEach [.Name x p2] X.env := by rfl) (hpl : (backTo pos (starEach [.Name x p2] X.env)).any (·.1) = false := by rfl)
    (hs2 : starEach [.Name x p2] X.env = (false, eval (.Name x p2) X.env) :: starEach [] X.env := by rfl) : QP X (.Call (.Name "isinstance" p) [e, .Name x p2] [] pos) (tCB (rIsi X.K) (tCons te (tCons (tC (.ty n)) tNil))) (pIsa n ma) := by
  refine ⟨pe_callB call_isi hg hm (by decide +kernel) (pa_cons he.pe (pa_cons (pe_bltn hg2 hm2 hv rfl hn hd) pa_nil hs2) hs) (by decide) (by decide) hs hpl, fun c H tv td σ ρ A t hl w e1 Q q => ?_⟩
  unfold pIsa at e1
  obtain ⟨b, e2, e3⟩ := Option.map_eq_some_iff.mp e1
  obtain ⟨t0, e4, e5⟩ := Option.bind_eq_some_iff.mp e2
  obtain ⟨m, e6, e7⟩ := Option.bind_eq_some_iff.mp e5
  subst e3
  refine he.sim c H tv td σ ρ A t0 hl w e4 _ fun v A1 r _ => ?_
  exact ⟨v, .ty n, _, _, b, rfl, .ty n, r.ty e6, kit_ty e7, q _ [] (.d (.bl b)) fun _ z => by simp at z⟩
theorem StW.pair {K : PySem.W.Frag} {c : C0} {H : Hp} {sl : List (Option V)} {ρ : Env} {A : List Addr} {p : Addr} {x y : V} {d e : PyData} (w : StW K c H sl ρ A) (hp : H p = none) (fx : Fz K (Fok c A) H x d) (fy : Fz K (Fok c A) H y e) :
    StW K c (upd H p (.tup [x, y])) (some (.ref p) :: sl) (some (.d (.tuple [d, e])) :: ρ) A := by
  have sm := same_upd (o := .tup [x, y]) hp
  exact (w.grow sm).pushD (.tup (.of upd_same) (.cons (fx.mono (.same sm)) (.cons (fy.mono (.same sm)) .nil)))
def zipItems (ds es : List PyData) : List T := (ds.zip es).map fun p => .d (.tuple [p.1, p.2])
def miZ (m : MA) : MI := fun ρ => (m ρ).bind fun r => match r.1 with | [.d (.list ds), .d (.list es)] => .ok (zipItems ds es, r.2) | _ => .bad
def enumItems (ds : List PyData) : List T := (List.range ds.length).map fun i => .d (.tuple [.int (i : Nat), ds.getD i .none])
def miN (m : MA) : MI := fun ρ => (m ρ).bind fun r => match r.1 with | [.d (.list ds)] => .ok (enumItems ds, r.2) | _ => .bad
def cutG {α : Type} (xs : List α) (lo hi : Option Int) : List α := (xs.drop (HT.sIx xs.length 0 lo)).take (HT.sIx xs.length xs.length hi - HT.sIx xs.length 0 lo)
def isWhole (n : Nat) (lo hi : Option Int) : Bool := decide (HT.sIx n 0 lo = 0 ∧ HT.sIx n n hi = n)
theorem FzAll.drop {K : PySem.W.Frag} {F : Addr → Prop} {H : Hp} : ∀ {vs : List V} {xs : List PyData} (n : Nat), FzAll K F H vs xs → FzAll K F H (vs.drop n) (xs.drop n)
  | _, _, 0, h => h
  | _, _, _ + 1, .nil => .nil
  | _, _, n + 1, .cons _ r => r.drop n
theorem FzAll.take {K : PySem.W.Frag} {F : Addr → Prop} {H : Hp} : ∀ {vs : List V} {xs : List PyData} (n : Nat), FzAll K F H vs xs → FzAll K F H (vs.take n) (xs.take n)
  | _, _, 0, _ => .nil
  | _, _, _ + 1, .nil => .nil
  | _, _, n + 1, .cons a r => .cons a (r.take n)
theorem FzAll.cut {K : PySem.W.Frag} {F : Addr → Prop} {H : Hp} {vs : List V} {xs : List PyData} (h : FzAll K F H vs xs) (lo hi : Option Int) : FzAll K F H (cutV vs lo hi) (cutG xs lo hi) := by
  unfold cutV cutG
  rw [h.len]
  exact (h.drop _).take _
abbrev MO := Env → Option (Option Int)
def SimO (K : PySem.W.Frag) (to : TO) (m : MO) : Prop :=
  ∀ (c : C0) (H : Hp) (tv : List (Option V)) (td : Env) (σ : L2.St) (ρ : Env) (A : List Addr) (o : Option Int), tv.length = td.length → StW K c H (tv ++ σ) (td ++ ρ) A → m ρ = some o → ∀ Q : Option Int → Hp → Prop, Q o H → to σ H Q
structure QO (X : Cx) (e : Option Expr) (to : TO) (m : MO) : Prop where
  po : PO X e to
  sim : SimO X.K to m
def oNone : MO := fun _ => some none
def oSome (m : MP) : MO := fun ρ => ((m ρ).bind T.int?).map some
theorem qo_none : QO X none tNoPart oNone := ⟨po_none, fun c H tv td σ ρ A o _ _ e Q q => by cases e; exact q⟩
theorem qo_some (h : QP X e te ma) : QO X (some e) (tPart te) (oSome ma) := ⟨po_some h.pe, fun c H tv td σ ρ A o hl w e Q q => by
  obtain ⟨j, e1, e2⟩ := Option.map_eq_some_iff.mp e
  obtain ⟨t, e3, e4⟩ := Option.bind_eq_some_iff.mp e1
  cases e2
  cases int?_eq e4
  exact h.sim c H tv td σ ρ A _ hl w e3 _ fun v A1 r _ => ⟨j, r.i, q⟩⟩
def opSlL (t : T) (lo hi : Option Int) : Option RV := match t with
  | .d (.list ds) => some (.nl (cutG ds lo hi))
  | .rd ds => some (.nl (cutG ds lo hi))
  | .ol ts => (T.allD ts).map fun ds => .nl (cutG ds lo hi)
  | _ => none
def opSlT (t : T) (lo hi : Option Int) : Option RV := match t with
  | .d (.tuple ds) => if isWhole ds.length lo hi = false then some (.nt (cutG ds lo hi)) else none
  | _ => none
def mSl (op : T → Option Int → Option Int → Option RV) (m : MP) (ml mh : MO) : MEx := fun ρ => (ofO (m ρ)).bind fun t => (ofO (ml ρ)).bind fun lo => (ofO (mh ρ)).bind fun hi => (ofO (op t lo hi)).bind fun z => .ok (z.toT, ρ)
theorem sim_sl {K : PySem.W.Frag} {r : V → Option Int → Option Int → Hp → VK → Prop} {op : T → Option Int → Option Int → Option RV} {tl th : TO} {ml mh : MO} (hv : ∀ (F : Addr → Prop) (H : Hp) (v : V) (t : T) (A : List Addr) (lo hi : Option Int) (z : RV) (Q : VK), Rp K F H v t A → op t lo hi = some z → RVto K F H [] Q z → r v lo hi H Q)
    (s : SimP K te ma) (sl : SimO K tl ml) (sh : SimO K th mh) : SimE K E true (tSl r te tl th) (mSl op ma ml mh) := by
  intro c H tv td σ ρ hl st Q q
  unfold mSl at q
  obtain ⟨t, e1, q⟩ := then_ofO.mp (then_bind.mp q)
  obtain ⟨lo, e2, q⟩ := then_ofO.mp (then_bind.mp q)
  obtain ⟨hi, e3, q⟩ := then_ofO.mp (then_bind.mp q)
  obtain ⟨z, e4, q⟩ := then_ofO.mp (then_bind.mp q)
  obtain ⟨A, w⟩ := st
  refine s c H tv td σ ρ A t hl w e1 _ fun v A1 rv _ => ?_
  refine sl c H tv td σ ρ A lo hl w e2 _ ?_
  refine sh c H tv td σ ρ A hi hl w e3 _ ?_
  refine hv _ H v t A1 lo hi z Q rv e4 ?_
  exact StW.result (A1 := []) (B := A) (fun a => by simp) w.uniq w.own w.keep w.slots fun v' H' sm' => q v' H' fun _ => sm'
theorem qe_slL {p2 : Pos} {lo hi : Option Expr} {tl th : TO} {ml mh : MO} (h : QP X e te ma) (hl : QO X lo tl ml) (hh : QO X hi th mh) : QE X E true (.Subscript e (.Slice lo hi none p2) pos) (tSl (rSlL X.K) te tl th) (mSl opSlL ma ml mh) := by
  refine ⟨pe_slice sl_list h.pe hl.po hh.po, sim_sl (fun F H v t A lo hi z Q r e q => ?_) h.sim hl.sim hh.sim⟩
  unfold opSlL at e
  split at e
  · cases e
    obtain ⟨a, vs, rfl, h1, f⟩ := r.lst? (ds := _) rfl
    exact ⟨a, vs, rfl, .of h1, fun p hp => q p _ hp (f.cut lo hi)⟩
  · cases e
    cases r with
    | rd h1 f => exact ⟨_, _, rfl, h1.sq, fun p hp => q p _ hp (f.cut lo hi)⟩
  · obtain ⟨ds, e1, e2⟩ := Option.map_eq_some_iff.mp e
    cases e2
    obtain ⟨a, vs, rfl, h1, f⟩ := r.lst? (ds := ds) e1
    exact ⟨a, vs, rfl, .of h1, fun p hp => q p _ hp (f.cut lo hi)⟩
  · cases e
end
end L3
namespace L3
open PySem PySem.Spec PyProof.Rows L2
def mRd (i : Nat) : MEx := fun ρ => match ρ[i]? with
  | some (some (.rd ds)) => .ok (.rd ds, ρ)
  | _ => .bad
theorem sim_rd {K : PySem.W.Frag} {E : Str → Hp → Prop} (i : Nat) : SimE K E true (tVar i) (mRd i) := by
  intro c H tv td σ ρ hl st Q q
  obtain ⟨A, w⟩ := st
  unfold mRd at q
  split at q
  · rename_i ds e0
    obtain ⟨v, A1, e3, x, hc⟩ := w.see hl e0
    refine ⟨v, e3, q v H (fun _ => Same.refl H) ?_⟩
    cases x with
    | rd h r => exact ⟨[] ++ A, w.uniq, .cons (.rd h r) w.slots, w.own, w.keep⟩
  · exact q.elim
section
variable {X : Cx} {E : Str → Hp → Prop} {pos : Pos}
theorem qe_rd (i : Nat) {x : Str} {pos : Pos} (hN : X.N[i]? = some x := by rfl) (hv : Vis X.env.scope x := by first | exact Or.inl rfl | exact Or.inr (Or.inl rfl) | exact Or.inr (Or.inr rfl)) (hd : (x == ("__debug__" : Str)) = false := by decide)
    (hcd : (x == ("__classdict__" : Str)) = false := by decide) : QE X E true (.Name x pos) (tVar i) (mRd i) := ⟨pe_var hN hv hd hcd, sim_rd i⟩
structure QTs (X : Cx) (E : Str → Hp → Prop) (es : List Expr) (tt : TT) (m : MT) : Prop where
  pts : PTs X es tt
  sim : SimT X.K E tt m
def mAug (i : Nat) (f : Int → Int → Int) (m : MP) : MS := fun ρ => match ρ[i]?, m ρ with
  | some (some (.d (.int x))), some (.d (.int y)) => .ok (.next (ρ.set i (some (.d (.int (f x y))))))
  | _, _ => .bad
def opInsert : List T → List T → Option (T × List T) := fun ts us => match us with
  | [.d (.int i), u] => if decide (ts.length < sLine ∧ 0 ≤ i ∧ i < 2 ^ 63) = true then some (.d .none, ts.take i.toNat ++ [u] ++ ts.drop i.toNat) else none
  | _ => none
theorem RpAll.split {K : PySem.W.Frag} {F : Addr → Prop} {H : Hp} : ∀ {vs : List V} {ts : List T} {A : List Addr} (n : Nat), RpAll K F H vs ts A → ∃ B C, RpAll K F H (vs.take n) (ts.take n) B ∧ RpAll K F H (vs.drop n) (ts.drop n) C ∧ ∀ a, B.count a + C.count a = A.count a
  | _, _, A, 0, h => ⟨[], A, .nil, h, fun a => by simp⟩
  | _, _, _, _ + 1, .nil => ⟨[], [], .nil, .nil, fun a => by simp⟩
  | _, _, _, n + 1, .cons (A := A1) x r => by
    obtain ⟨B, C, h1, h2, h3⟩ := r.split n
    exact ⟨A1 ++ B, C, .cons x h1, h2, fun a => by have := h3 a; rw [List.count_append, List.count_append]; omega⟩
end
theorem only_rd {K : PySem.W.Frag} {H : Hp} {a : Addr} {vs : List V} (h : Only H) (s : SqL K H a vs) : RdL K H a vs := by
  rcases s with (s | ⟨o, s⟩) | s
  · rcases h a with z | ⟨o, xs, z⟩ <;> (rw [s] at z; cases z)
  · exact .inl ⟨o, s⟩
  · exact .inr s
theorem ints_fz {K : PySem.W.Frag} {F : Addr → Prop} {H : Hp} : ∀ ns : List Int, FzAll K F H (ns.map V.int) (ns.map PyData.int)
  | [] => .nil
  | _ :: r => .cons (.int _) (ints_fz r)
abbrev scr (ns : List Int) : T := .rd (ns.map PyData.int)
theorem law_sp {K : PySem.W.Frag} {rz : Bool} {cl : Str → Option Addr} {m : List T → R (T × List T)} {H : Hp} {a : Addr} {ns : List Int} (hO : Only H) (hS : SqL K H a (ns.map V.int)) (h : Then (m [scr ns]) (fun r => r.1 = .d (.bool true)) (fun _ => False)) :
    spT K rz cl 1 [] m [.ref a] H (fun v _ => v = .bl true) (fun _ _ _ => False) := by
  refine ⟨[scr ns], fun _ => True, [], rfl, fun _ => by simp, .cons (A := []) (B := []) (.rd (only_rd hO hS) (ints_fz ns)) .nil, ?_⟩
  refine h.mono (fun r e => ?_) fun _ z => z.elim
  intro v H' A' _ _ _ _ rr
  cases rr with
  | cons x _ =>
    rw [e] at x
    exact Rp.b x
end L3
namespace L3
open PySem PySem.Spec PyProof.Rows L2
theorem bt_len : bootBuiltins "len" = some (.builtin "len") := by decide +kernel
theorem bt_abs : bootBuiltins "abs" = some (.builtin "abs") := by decide +kernel
theorem bt_int : bootBuiltins "int" = some (.type "int") := by decide +kernel
theorem bt_str : bootBuiltins "str" = some (.type "str") := by decide +kernel
theorem bt_list : bootBuiltins "list" = some (.type "list") := by decide +kernel
section
variable {K : PySem.W.Frag}
theorem opSub_v : OpV K (rI (fun _ _ => True) fun i j => .int (i - j)) opSub := opI2_v (fun _ _ _ => trivial) fun _ _ _ _ => .int _
theorem opMulI_v : OpV K (rI (fun i j => mulOk i j = true) fun i j => .int (i * j)) opMulI := opI2_v (fun _ _ h => h) fun _ _ _ _ => .int _
theorem opMod_v : OpV K (rI (fun i j => modOk i j = true) fun i j => .int (i.fmod j)) opMod := opI2_v (fun _ _ h => h) fun _ _ _ _ => .int _
theorem opFdiv_v : OpV K (rI (fun i j => divOk i j = true) fun i j => .int (i.fdiv j)) opFdiv := opI2_v (fun _ _ h => h) fun _ _ _ _ => .int _
theorem opPow_v : OpV K (rI (fun i j => powOk i j = true) fun i j => .int (i ^ j.toNat)) opPow := opI2_v (fun _ _ h => h) fun _ _ _ _ => .int _
theorem opLt_v : OpV K (rI (fun _ _ => True) fun i j => .bl (decide (i < j))) opLt := opI2_v (fun _ _ _ => trivial) fun _ _ _ _ => .bl _
theorem opGt_v : OpV K (rI (fun _ _ => True) fun i j => .bl (decide (j < i))) opGt := opI2_v (fun _ _ _ => trivial) fun _ _ _ _ => .bl _
end
section
variable {X : Cx}
theorem call_lenA : CallR X (.builtin "len") (rLen X.K) := call_len
theorem call_absA : CallR X (.builtin "abs") rAbs := call_abs
theorem call_int1A : CallR X (.type "int") rInt1 := call_int1
theorem call_listOf : CallR X (.type "list") (rListOf X.K) := call_list_of
theorem call_strI : CallR X (.type "str") rStrI := call_str_int
def mPar (i j : Nat) (m : MA) : MS := fun ρ => (m ρ).bind fun r => match r.1 with
  | [t, u] => .ok (.next ((r.2.set i (some t)).set j (some u)))
  | _ => .bad
variable {E : Str → Hp → Prop} {pos : Pos}
theorem qs_par {io : List Nat} {i j : Nat} {x y : Str} {a b : Expr} {ta : TA} {m : MA} {g : Bool} {px py pt : Pos} {kt k2 pt2} (hc : X.calm = true) (hN : X.N.Nodup) (ha : QA X E g [a, b] ta m) (hi : X.N[i]? = some x := by rfl) (hj : X.N[j]? = some y := by rfl) (hij : i ≠ j := by decide)
    (hx : X.env.scope.names.lookup x = some .local := by rfl) (hy : X.env.scope.names.lookup y = some .local := by rfl)
    (hw : swappedStores [.Tuple [.Name x px, .Name y py] kt pt] (.Tuple [a, b] k2 pt2) X.env = pure (some [x, y]) := by rfl)
    (hio : inIo io i = false := by rfl) (hjo : inIo io j = false := by rfl)
    (hs : swapsWithSole [.Tuple [.Name x px, .Name y py] kt pt] (.Tuple [a, b] k2 pt2) pos.line X.env = pure false := by rfl) :
    QS X E io (.Assign [.Tuple [.Name x px, .Name y py] kt pt] (.Tuple [a, b] k2 pt2) pos) (tPar i j ta) (mPar i j m) := by
  refine ⟨ps_par hc hN hi hj hij hx hy ha.pa hw hs, fun c H tv td σ ρ hl st D q => ?_⟩
  unfold mPar at q
  rw [then_bind] at q
  refine ha.sim c H tv td σ ρ hl st _ (q.imp ?_)
  rintro ⟨ts, ρ1⟩ q1 vs H1 _ hvs st1
  dsimp only at q1 hvs st1
  split at q1
  · rename_i t u
    match vs, hvs, st1 with
    | [v, w], _, st1 =>
      have st2 : StR X.K c H1 ((some w :: tv) ++ σ.set i (some v)) ((some u :: td) ++ ρ1.set i (some t)) := StR.store (tv := some w :: tv) (td := some u :: td) (by simp [hl]) st1
      have st3 := StR.store (i := j) hl st2
      exact ⟨v, w, rfl, q1 _ H1 ((SameP.set hio).trans (SameP.set hjo)).toIo st3⟩
  · exact q1.elim
def dropIo (m : List T → R (T × List T)) : List T → R (T × List T) := fun ts => (m ts).bind fun r => .ok (r.1, [])
end
end L3
namespace L3
open PySem PySem.Spec PyProof.Rows L2
def teM (K : PySem.W.Frag) (E : Str → Hp → Prop) (g : Bool) (m : MEx) : TE := fun σ H Q => ∃ (c : C0) (tv : List (Option V)) (td ρ : Env), tv.length = td.length ∧ StR K c H (tv ++ σ) (td ++ ρ) ∧
  Then (m ρ) (fun r => ∀ v H', (g = true → Same H H') → StR K c H' (some v :: (tv ++ σ)) (some r.1 :: (td ++ r.2)) → Q v H') (fun x => ∀ H', KeepC c H' → E x H')
def ttM (K : PySem.W.Frag) (E : Str → Hp → Prop) (m : MT) : TT := fun σ H Q => ∃ (c : C0) (tv : List (Option V)) (td ρ : Env), tv.length = td.length ∧ StR K c H (tv ++ σ) (td ++ ρ) ∧
  Then (m ρ) (fun r => ∀ H', StR K c H' (tv ++ σ) (td ++ r.2) → Q r.1 H') (fun x => ∀ H', KeepC c H' → E x H')
def tgM (K : PySem.W.Frag) (pr : Nat → Bool) (m : MG) : TG := fun v σ H Q => ∃ (c : C0) (tv : List (Option V)) (td ρ ρ' : Env) (t : T), tv.length = td.length ∧ StR K c H (some v :: (tv ++ σ)) (some t :: (td ++ ρ)) ∧ m t ρ = some ρ' ∧
  ∀ σ' H', SameP pr σ σ' → StR K c H' (tv ++ σ') (td ++ ρ') → Q σ' H'
section
variable {X : Cx} {E : Str → Hp → Prop} {pos : Pos}
theorem QE.can {g : Bool} {e : Expr} {te : TE} {m : MEx} (h : QE X E g e te m) : QE X E g e (teM X.K E g m) m :=
  ⟨⟨fun pins s σ H Q I w => h.pe.run pins s σ H Q I (let ⟨c, tv, td, ρ, hl, st, q⟩ := w; h.sim c H tv td σ ρ hl st Q q)⟩, fun c H tv td σ ρ hl st Q q => ⟨c, tv, td, ρ, hl, st, q⟩⟩
theorem QTs.can {es : List Expr} {tt : TT} {m : MT} (h : QTs X E es tt m) : QTs X E es (ttM X.K E m) m :=
  ⟨⟨fun pins s σ H Q I w => h.pts.run pins s σ H Q I (let ⟨c, tv, td, ρ, hl, st, q⟩ := w; h.sim c H tv td σ ρ hl st Q q)⟩, fun c H tv td σ ρ hl st Q q => ⟨c, tv, td, ρ, hl, st, q⟩⟩
theorem QG.can {pr : Nat → Bool} {e : Expr} {tg : TG} {m : MG} (h : QG X pr e tg m) : QG X pr e (tgM X.K pr m) m :=
  ⟨⟨fun pins s σ H v u Q I r w => h.pg.run pins s σ H v u Q I r (let ⟨c, tv, td, ρ, ρ', t, hl, st, e, q⟩ := w; h.sim c H tv td σ ρ ρ' v t hl st e Q q)⟩, fun c H tv td σ ρ ρ' v t hl st e Q q => ⟨c, tv, td, ρ, ρ', t, hl, st, e, q⟩⟩
end
end L3
namespace L3
open PySem PySem.Spec PyProof.Rows L2
def allInts : List PyData → Option (List Int)
  | [] => some []
  | .int i :: r => (allInts r).map fun ns => i :: ns
  | _ => none
def opLtA : T → T → R RV
  | .d (.int i), .d (.int j) => .ok (.v (.d (.bool (decide (i < j)))))
  | .d (.tuple xs), .d (.tuple ys) => (match allInts xs, allInts ys with
    | some ns, some ms => .ok (.v (.d (.bool (HT.lexLt ns ms))))
    | _, _ => .bad)
  | _, _ => .bad
def opRevL : T → R RV
  | .d (.list ds) => .ok (.nl ds.reverse)
  | _ => .bad
theorem FzAll.snoc {K : PySem.W.Frag} {F : Addr → Prop} {H : Hp} {vs : List V} {xs : List PyData} {v : V} {x : PyData} (h : FzAll K F H vs xs) (y : Fz K F H v x) : FzAll K F H (vs ++ [v]) (xs ++ [x]) := h.append (.cons y .nil)
theorem FzAll.rev {K : PySem.W.Frag} {F : Addr → Prop} {H : Hp} : ∀ {vs : List V} {xs : List PyData}, FzAll K F H vs xs → FzAll K F H vs.reverse xs.reverse
  | _, _, .nil => .nil
  | _, _, .cons a r => by
    rw [List.reverse_cons, List.reverse_cons]
    exact r.rev.snoc a
section
variable {X : Cx} {E : Str → Hp → Prop} {e : Expr} {te : TE} {m : MEx} {g : Bool} {pos : Pos}
def opSlA (t : T) (lo hi : Option Int) : Option RV := match t with
  | .d (.list ds) => some (.nl (cutG ds lo hi))
  | .ol ts => (T.allD ts).map fun ds => .nl (cutG ds lo hi)
  | _ => none
def mSlE (m : MEx) (ml mh : MO) : MEx := fun ρ => (m ρ).bind fun r => (ofO (ml r.2)).bind fun lo => (ofO (mh r.2)).bind fun hi => (ofO (opSlA r.1 lo hi)).bind fun z => .ok (z.toT, r.2)
end
end L3
namespace L3
open PySem L2
end L3
namespace L3
open PySem PySem.Spec PyProof.Rows L2
def opIsB : T → T → R RV
  | .d (.bool a), .d (.bool b) => .ok (.v (.d (.bool (decide (a = b)))))
  | _, _ => .bad
def opNotB : T → T → R RV
  | .d (.bool a), .d (.bool b) => .ok (.v (.d (.bool (!decide (a = b)))))
  | _, _ => .bad
end L3
namespace L3
open PySem PySem.Spec PyProof.Rows L2
def mRaise (x : Str) : MS := fun _ => .exc x
theorem EX.mk {K : PySem.W.Frag} {E : XK} {x : Str} {C : Addr} {H : Hp} (h : EX (clK K) E x H) (e : clK K x = some C) : E (.ref C) none H := h C e
def mTryK (xs : List Str) (j : Nat) (mb : MS) : MS := fun ρ => match mb ρ with
  | .exc x => if xs.contains x then .ok (.next ((List.replicate ρ.length none).set j (some (.ex x)))) else .bad
  | r => r
section
variable {X : Cx} {x n y : Str} {C : Addr} {i j : Nat} {body : List Stmt} {np pos pos' p1 p2 p3 : Pos} {mb : MS} {xs : List Str} {E : Str → Hp → Prop}
end
end L3
namespace L3
open PySem PySem.Spec PyProof.Rows L2
abbrev XTab := List (Str × Bool)
def exIs (tab : XTab) (t : T) : Option PyData := match t with
  | .ex x => (tab.lookup x).map PyData.bool
  | _ => none
def pIsX (tab : XTab) (m : MP) : MP := fun ρ => (m ρ).bind fun t => (exIs tab t).map T.d
def mIsXT (tab : XTab) (m : MP) : MEx := fun ρ => (ofO ((m ρ).bind (exIs tab))).bind fun d => .ok (.d d, ρ)
def TabOk (K : PySem.W.Frag) (tab : XTab) (u : Value) : Prop := ∀ z b, tab.lookup z = some b → ∀ D, clK K z = some D → PySem.W.kitOne K (.ref D) u = some b
def TabOkT (K : PySem.W.Frag) (tab : XTab) (us : List Value) : Prop := ∀ z b, tab.lookup z = some b → ∀ D, clK K z = some D → PySem.W.kitAny K (.ref D) us = some b
theorem TabOk.one {K : PySem.W.Frag} {z : Str} {b : Bool} {u : Value} {C : Addr} (h : clK K z = some C) (k : PySem.W.kitOne K (.ref C) u = some b) : TabOk K [(z, b)] u := fun z' b' e D hD => by
  rw [List.lookup_cons] at e
  by_cases hz : z' = z
  · subst hz
    rw [beq_self_eq_true] at e
    cases e
    rw [h] at hD
    cases hD
    exact k
  · rw [beq_eq_false_iff_ne.mpr hz] at e
    cases e
theorem TabOkT.one {K : PySem.W.Frag} {z : Str} {b : Bool} {us : List Value} {C : Addr} (h : clK K z = some C) (k : PySem.W.kitAny K (.ref C) us = some b) : TabOkT K [(z, b)] us := fun z' b' e D hD => by
  rw [List.lookup_cons] at e
  by_cases hz : z' = z
  · subst hz
    rw [beq_self_eq_true] at e
    cases e
    rw [h] at hD
    cases hD
    exact k
  · rw [beq_eq_false_iff_ne.mpr hz] at e
    cases e
section
variable {X : Cx} {E : Str → Hp → Prop} {e : Expr} {te : TE} {ma : MP} {p p2 pos : Pos} {y : Str} {tab : XTab} {C : Addr} {n : String} {Cs : List Addr}
end
end L3
namespace L3
open PySem PySem.Spec PyProof.Rows L2
end L3
namespace L2
open PySem PySem.Spec PyProof.Rows
section
variable {X : Cx}
end
end L2
namespace L2
open PySem PySem.Spec PyProof.Rows
section
variable {X : Cx} {es : List Expr} {e : Expr} {t t2 : TA} {k : Nat} {p1 apos cpos : Pos} {r : V → List V → Hp → VK → Prop}
end
end L2
namespace L3
open PySem PySem.Spec PyProof.Rows L2
def cntD (ds : List PyData) (x : PyData) : R PyData := guard (SeqAt.shaped (.tuple ds) && SeqAt.shaped x) (.ok (.int (ds.countP fun z => PyData.eqv z x : Nat)))
def mTupCount (ma : MA) (mp : MP) : MEx := fun ρ => (ma ρ).bind fun r => match T.allD r.1, mp r.2 with
  | some ds, some (.d x) => (cntD ds x).bind fun n => .ok (.d n, r.2)
  | _, _ => .bad
end L3
namespace L3
open PySem PySem.Spec PyProof.Rows L2
def mEqNil (f : T → T → R RV) (mp : MP) : MEx := fun ρ => match mp ρ with
  | some x => (match f x (.d (.list [])) with
    | .ok (.v (.d (.bool b))) => .ok (.d (.bool b), ρ)
    | _ => .bad)
  | none => .bad
end L3
namespace L3
open PySem PySem.Spec PyProof.Rows L2
end L3
namespace L3
open PySem PySem.Spec PyProof.Rows L2
def mgLst (n : Nat) (r : MGs) : MG := fun t ρ => match t with
  | .d (.list ds) => if ds.length = n then r (ds.map T.d) ρ else none
  | _ => none
end L3
namespace L3
open PySem PySem.Spec PyProof.Rows L2
@[simp] theorem bind_okS {α β : Type} {a : α} {f : α → R β} : (R.ok a).bind f = f a := (rfl)
@[simp] theorem bind_badS {α β : Type} {f : α → R β} : (R.bad : R α).bind f = .bad := (rfl)
@[simp] theorem bind_excS {α β : Type} {f : α → R β} {c : Str} : (R.exc c : R α).bind f = .exc c := (rfl)
@[simp] theorem then_okS {α : Type} {a : α} {P : α → Prop} {E : Str → Prop} : Then (.ok a) P E ↔ P a := (Iff.rfl)
@[simp] theorem then_badS {α : Type} {P : α → Prop} {E : Str → Prop} : Then (.bad : R α) P E ↔ False := (Iff.rfl)
@[simp] theorem then_excS {α : Type} {c : Str} {P : α → Prop} {E : Str → Prop} : Then (.exc c : R α) P E ↔ E c := (Iff.rfl)
@[simp] theorem ofO_some {α : Type} {a : α} : ofO (some a) = .ok a := (rfl)
@[simp] theorem ofO_none {α : Type} : ofO (none : Option α) = .bad := (rfl)
@[simp] theorem guard_t {α : Type} {r : R α} : guard true r = r := (rfl)
@[simp] theorem guard_f {α : Type} {r : R α} : guard false r = .bad := (rfl)
@[simp] theorem nx_ok {α : Type} {a : α} : (R.ok a).nx = .ok a := (rfl)
@[simp] theorem nx_bad {α : Type} : (R.bad : R α).nx = .bad := (rfl)
theorem then_nx {α : Type} {r : R α} {P : α → Prop} {E : Str → Prop} (h : Then r P (fun _ => False)) : Then r.nx P E := by
  cases r with
  | ok a => exact h
  | exc c => exact h.elim
  | bad => exact h
theorem then_bindI {α β : Type} {r : R α} {f : α → R β} {P : α → Prop} {P' : β → Prop} {E : Str → Prop} (h : Then r P E) (k : ∀ a, P a → Then (f a) P' E) : Then (r.bind f) P' E := then_bind.mpr (h.imp k)
abbrev En := L3.Env
@[simp] theorem bind_assocS {α β γ : Type} {r : R α} {f : α → R β} {g : β → R γ} : (r.bind f).bind g = r.bind fun a => (f a).bind g := by cases r <;> rfl
@[simp] theorem nx_bind {α β : Type} {r : R α} {f : α → R β} : (r.bind f).nx = r.nx.bind fun a => (f a).nx := by cases r <;> rfl
@[simp] theorem e_mC {x : PyData} {ρ : En} : mC x ρ = .ok (.d x, ρ) := (rfl)
@[simp] theorem e_pC {x : PyData} {ρ : En} : pC x ρ = some (.d x) := (rfl)
def liftK (ρ : En) : Option T → R (T × En)
  | some (.d x) => .ok (.d x, ρ)
  | _ => .bad
@[simp] theorem e_lift {m : MP} {ρ : En} : mLift m ρ = liftK ρ (m ρ) := (rfl)
@[simp] theorem e_liftK {ρ : En} {x : PyData} : liftK ρ (some (.d x)) = .ok (.d x, ρ) := (rfl)
def pvK : Option (Option T) → Option T
  | some (some t) => some t
  | _ => none
@[simp] theorem e_pVar {i : Nat} {ρ : En} : pVar i ρ = pvK ρ[i]? := (rfl)
@[simp] theorem e_pvK {t : T} : pvK (some (some t)) = some t := (rfl)
def varK2 (i : Nat) (ρ : En) : Option PyData → R (T × En)
  | some x => .ok (.d x, ρ.set i (some (.d x)))
  | none => .bad
def varK (i : Nat) (ρ : En) : Option (Option T) → R (T × En)
  | some (some (.d x)) => .ok (.d x, ρ)
  | some (some t) => varK2 i ρ t.fz
  | _ => .bad
@[simp] theorem e_mVar {i : Nat} {ρ : En} : mVar i ρ = varK i ρ ρ[i]? := by
  unfold mVar
  generalize ρ[i]? = o
  cases o with
  | none => rfl
  | some o =>
    cases o with
    | none => rfl
    | some t => cases t <;> rfl
@[simp] theorem e_varK {i : Nat} {ρ : En} {x : PyData} : varK i ρ (some (some (.d x))) = .ok (.d x, ρ) := (rfl)
@[simp] theorem e_varKo {i : Nat} {ρ : En} {ts : List T} : varK i ρ (some (some (.ol ts))) = varK2 i ρ (T.fz (.ol ts)) := (rfl)
@[simp] theorem e_varKt {i : Nat} {ρ : En} {ts : List T} : varK i ρ (some (some (.ot ts))) = varK2 i ρ (T.fz (.ot ts)) := (rfl)
@[simp] theorem e_varK2 {i : Nat} {ρ : En} {x : PyData} : varK2 i ρ (some x) = .ok (.d x, ρ.set i (some (.d x))) := (rfl)
def moveK (i : Nat) (ρ : En) : Option (Option T) → R (T × En)
  | some (some t) => .ok (t, ρ.set i none)
  | _ => .bad
@[simp] theorem e_mMove {i : Nat} {ρ : En} : mMove i ρ = moveK i ρ ρ[i]? := (rfl)
@[simp] theorem e_moveK {i : Nat} {ρ : En} {t : T} : moveK i ρ (some (some t)) = .ok (t, ρ.set i none) := (rfl)
def rdK (ρ : En) : Option (Option T) → R (T × En)
  | some (some (.rd ds)) => .ok (.rd ds, ρ)
  | _ => .bad
@[simp] theorem e_mRd {i : Nat} {ρ : En} : mRd i ρ = rdK ρ ρ[i]? := (rfl)
@[simp] theorem e_rdK {ρ : En} {ds : List PyData} : rdK ρ (some (some (.rd ds))) = .ok (.rd ds, ρ) := (rfl)
@[simp] theorem e_pBin {op : T → T → R RV} {a b : MP} {ρ : En} : pBin op a b ρ = (a ρ).bind fun x => (b ρ).bind fun y => okV (op x y) := (rfl)
@[simp] theorem e_pUn {op : T → R RV} {a : MP} {ρ : En} : pUn op a ρ = (a ρ).bind fun x => okV (op x) := (rfl)
@[simp] theorem e_pNil {ρ : En} : pNil ρ = some [] := (rfl)
@[simp] theorem e_pCons {a : MP} {r : MPA} {ρ : En} : pCons a r ρ = (a ρ).bind fun x => (r ρ).bind fun y => some (x :: y) := (rfl)
@[simp] theorem e_pCallB {op : List T → R RV} {m : MPA} {ρ : En} : pCallB op m ρ = (m ρ).bind fun ts => okV (op ts) := (rfl)
@[simp] theorem e_pIsa {n : String} {m : MP} {ρ : En} : pIsa n m ρ = ((m ρ).bind (isaT n)).map fun b => .d (.bool b) := (rfl)
@[simp] theorem e_okV {t : T} : okV (.ok (.v t)) = some t := (rfl)
@[simp] theorem e_okVb : okV .bad = none := (rfl)
def toTK (ρ : En) (z : RV) : R (T × En) := .ok (z.toT, ρ)
@[simp] theorem e_toTK {ρ : En} {z : RV} : toTK ρ z = .ok (z.toT, ρ) := (rfl)
def binK2 (op : T → T → R RV) (x : T) (y : T × En) : R (T × En) := (op x y.1).bind (toTK y.2)
def binK (op : T → T → R RV) (b : MEx) (x : T × En) : R (T × En) := (b x.2).bind (binK2 op x.1)
@[simp] theorem e_mBin {op : T → T → R RV} {a b : MEx} {ρ : En} : mBin op a b ρ = (a ρ).bind (binK op b) := (rfl)
@[simp] theorem e_binK {op : T → T → R RV} {b : MEx} {x : T} {ρ : En} : binK op b (x, ρ) = (b ρ).bind (binK2 op x) := (rfl)
@[simp] theorem e_binK2 {op : T → T → R RV} {x y : T} {ρ : En} : binK2 op x (y, ρ) = (op x y).bind (toTK ρ) := (rfl)
def unK (op : T → R RV) (x : T × En) : R (T × En) := (op x.1).bind (toTK x.2)
@[simp] theorem e_mUn {op : T → R RV} {a : MEx} {ρ : En} : mUn op a ρ = (a ρ).bind (unK op) := (rfl)
@[simp] theorem e_unK {op : T → R RV} {x : T} {ρ : En} : unK op (x, ρ) = (op x).bind (toTK ρ) := (rfl)
@[simp] theorem e_toV {t : T} : (RV.v t).toT = t := (rfl)
@[simp] theorem e_toNl {ds : List PyData} : (RV.nl ds).toT = .ol (ds.map T.d) := (rfl)
@[simp] theorem e_toNt {ds : List PyData} : (RV.nt ds).toT = .d (.tuple ds) := (rfl)
@[simp] theorem e_mNil {ρ : En} : mNil ρ = .ok ([], ρ) := (rfl)
def consK2 (x : T) (y : List T × En) : R (List T × En) := .ok (x :: y.1, y.2)
def consK (r : MA) (x : T × En) : R (List T × En) := (r x.2).bind (consK2 x.1)
@[simp] theorem e_mCons {m : MEx} {r : MA} {ρ : En} : mCons m r ρ = (m ρ).bind (consK r) := (rfl)
@[simp] theorem e_consK {r : MA} {x : T} {ρ : En} : consK r (x, ρ) = (r ρ).bind (consK2 x) := (rfl)
@[simp] theorem e_consK2 {x : T} {ts : List T} {ρ : En} : consK2 x (ts, ρ) = .ok (x :: ts, ρ) := (rfl)
def mkTupK (ts : List T) : Option (List PyData) → T
  | some ds => .d (.tuple ds)
  | none => .ot ts
@[simp] theorem e_mkTup {ts : List T} : mkTup ts = mkTupK ts (T.allD ts) := (rfl)
@[simp] theorem e_mkTupK {ts : List T} {ds : List PyData} : mkTupK ts (some ds) = .d (.tuple ds) := (rfl)
@[simp] theorem e_mkTupN {ts : List T} : mkTupK ts none = .ot ts := (rfl)
def tupK (r : List T × En) : R (T × En) := .ok (mkTup r.1, r.2)
@[simp] theorem e_mTup {m : MA} {ρ : En} : mTup m ρ = (m ρ).bind tupK := (rfl)
@[simp] theorem e_tupK {ts : List T} {ρ : En} : tupK (ts, ρ) = .ok (mkTup ts, ρ) := (rfl)
def lstK (r : List T × En) : R (T × En) := .ok (.ol r.1, r.2)
@[simp] theorem e_mLst {m : MA} {ρ : En} : mLst m ρ = (m ρ).bind lstK := (rfl)
@[simp] theorem e_lstK {ts : List T} {ρ : En} : lstK (ts, ρ) = .ok (.ol ts, ρ) := (rfl)
def fzK2 (ρ : En) : Option PyData → R (T × En)
  | some x => .ok (.d x, ρ)
  | none => .bad
def fzK (r : T × En) : R (T × En) := fzK2 r.2 r.1.fz
@[simp] theorem e_mFz {m : MEx} {ρ : En} : mFz m ρ = (m ρ).bind fzK := (rfl)
@[simp] theorem e_fzK {t : T} {ρ : En} : fzK (t, ρ) = fzK2 ρ t.fz := (rfl)
@[simp] theorem e_fzK2 {x : PyData} {ρ : En} : fzK2 ρ (some x) = .ok (.d x, ρ) := (rfl)
def callBK (op : List T → R RV) (r : List T × En) : R (T × En) := (op r.1).bind (toTK r.2)
@[simp] theorem e_mCallB {op : List T → R RV} {m : MA} {ρ : En} : mCallB op m ρ = (m ρ).bind (callBK op) := (rfl)
@[simp] theorem e_callBK {op : List T → R RV} {ts : List T} {ρ : En} : callBK op (ts, ρ) = (op ts).bind (toTK ρ) := (rfl)
def testK (r : T × En) : R (Bool × En) := match r.1 with | .d (.bool b) => .ok (b, r.2) | _ => .bad
@[simp] theorem e_mTest {m : MEx} {ρ : En} : mTest m ρ = (m ρ).bind testK := (rfl)
@[simp] theorem e_testK {b : Bool} {ρ : En} : testK (.d (.bool b), ρ) = .ok (b, ρ) := (rfl)
def truthK (ρ : En) : Option Bool → R (Bool × En)
  | some b => .ok (b, ρ)
  | none => .bad
@[simp] theorem e_mTruth {m : MP} {ρ : En} : mTruth m ρ = truthK ρ ((m ρ).bind T.truth) := (rfl)
@[simp] theorem e_truthK {b : Bool} {ρ : En} : truthK ρ (some b) = .ok (b, ρ) := (rfl)
@[simp] theorem e_truthB {b : Bool} : T.truth (.d (.bool b)) = some b := (rfl)
@[simp] theorem e_truthI {b : Int} : T.truth (.d (.int b)) = some (b != 0) := (rfl)
@[simp] theorem e_truthN : T.truth (.d .none) = some false := (rfl)
@[simp] theorem e_truthL {ds : List PyData} : T.truth (.d (.list ds)) = some (!ds.isEmpty) := (rfl)
@[simp] theorem e_truthT {ds : List PyData} : T.truth (.d (.tuple ds)) = some (!ds.isEmpty) := (rfl)
def notK (r : Bool × En) : R (Bool × En) := .ok (!r.1, r.2)
@[simp] theorem e_mNot {m : MT} {ρ : En} : mNot m ρ = (m ρ).bind notK := (rfl)
@[simp] theorem e_notK {b : Bool} {ρ : En} : notK (b, ρ) = .ok (!b, ρ) := (rfl)
def andK (n : MT) (r : Bool × En) : R (Bool × En) := if r.1 = true then n r.2 else .ok (false, r.2)
@[simp] theorem e_mAnd {m n : MT} {ρ : En} : mAnd m n ρ = (m ρ).bind (andK n) := (rfl)
@[simp] theorem e_andK {n : MT} {b : Bool} {ρ : En} : andK n (b, ρ) = if b = true then n ρ else .ok (false, ρ) := (rfl)
def orK (n : MT) (r : Bool × En) : R (Bool × En) := if r.1 = true then .ok (true, r.2) else n r.2
@[simp] theorem e_mOr {m n : MT} {ρ : En} : mOr m n ρ = (m ρ).bind (orK n) := (rfl)
@[simp] theorem e_orK {n : MT} {b : Bool} {ρ : En} : orK n (b, ρ) = if b = true then .ok (true, ρ) else n ρ := (rfl)
def ifeK (a b : MEx) (r : Bool × En) : R (T × En) := if r.1 = true then a r.2 else b r.2
@[simp] theorem e_mIf {m : MT} {a b : MEx} {ρ : En} : mIf m a b ρ = (m ρ).bind (ifeK a b) := (rfl)
@[simp] theorem e_ifeK {a b : MEx} {x : Bool} {ρ : En} : ifeK a b (x, ρ) = if x = true then a ρ else b ρ := (rfl)
def andVK (n : MEx) (r : Bool × En) : R (T × En) := if r.1 = true then n r.2 else .ok (.d (.bool false), r.2)
@[simp] theorem e_mAndV {m n : MEx} {ρ : En} : mAndV m n ρ = (mTest m ρ).bind (andVK n) := (rfl)
@[simp] theorem e_andVK {n : MEx} {x : Bool} {ρ : En} : andVK n (x, ρ) = if x = true then n ρ else .ok (.d (.bool false), ρ) := (rfl)
def orVK (n : MEx) (r : Bool × En) : R (T × En) := if r.1 = true then .ok (.d (.bool true), r.2) else n r.2
@[simp] theorem e_mOrV {m n : MEx} {ρ : En} : mOrV m n ρ = (mTest m ρ).bind (orVK n) := (rfl)
@[simp] theorem e_orVK {n : MEx} {x : Bool} {ρ : En} : orVK n (x, ρ) = if x = true then .ok (.d (.bool true), ρ) else n ρ := (rfl)
def notVK (r : Bool × En) : R (T × En) := .ok (.d (.bool (!r.1)), r.2)
@[simp] theorem e_mNotV {m : MEx} {ρ : En} : mNotV m ρ = (mTest m ρ).bind notVK := (rfl)
@[simp] theorem e_notVK {x : Bool} {ρ : En} : notVK (x, ρ) = .ok (.d (.bool (!x)), ρ) := (rfl)
@[simp] theorem e_mNext {ρ : En} : mNext ρ = .ok (.next ρ) := (rfl)
@[simp] theorem e_mBrk {ρ : En} : mBrk ρ = .ok (.brk ρ) := (rfl)
@[simp] theorem e_mCont {ρ : En} : mCont ρ = .ok (.cont ρ) := (rfl)
@[simp] theorem e_mNever {ρ : En} : mNever ρ = .bad := (rfl)
def seqK (n : MS) : Out → R Out
  | .next ρ => n ρ
  | .ret t ρ => .ok (.ret t ρ)
  | .brk ρ => .ok (.brk ρ)
  | .cont ρ => .ok (.cont ρ)
@[simp] theorem e_mSeq {m n : MS} {ρ : En} : mSeq m n ρ = (m ρ).bind (seqK n) := by
  unfold mSeq
  congr 1
  funext o
  cases o <;> rfl
@[simp] theorem e_seqN {n : MS} {ρ : En} : seqK n (.next ρ) = n ρ := (rfl)
@[simp] theorem e_seqR {n : MS} {t : T} {ρ : En} : seqK n (.ret t ρ) = .ok (.ret t ρ) := (rfl)
@[simp] theorem e_seqB {n : MS} {ρ : En} : seqK n (.brk ρ) = .ok (.brk ρ) := (rfl)
@[simp] theorem e_seqC {n : MS} {ρ : En} : seqK n (.cont ρ) = .ok (.cont ρ) := (rfl)
def retK (r : T × En) : R Out := .ok (.ret r.1 r.2)
@[simp] theorem e_mRet {m : MEx} {ρ : En} : mRet m ρ = (m ρ).bind retK := (rfl)
@[simp] theorem e_retK {t : T} {ρ : En} : retK (t, ρ) = .ok (.ret t ρ) := (rfl)
def dropMK (r : T × En) : R Out := .ok (.next r.2)
@[simp] theorem e_mDrop {m : MEx} {ρ : En} : mDrop m ρ = (m ρ).bind dropMK := (rfl)
@[simp] theorem e_dropK {t : T} {ρ : En} : dropMK (t, ρ) = .ok (.next ρ) := (rfl)
def ifK (a b : MS) (r : Bool × En) : R Out := if r.1 = true then a r.2 else b r.2
@[simp] theorem e_mIfS {m : MT} {a b : MS} {ρ : En} : mIfS m a b ρ = (m ρ).bind (ifK a b) := (rfl)
@[simp] theorem e_ifK {a b : MS} {x : Bool} {ρ : En} : ifK a b (x, ρ) = if x = true then a ρ else b ρ := (rfl)
def nextK (ρ : En) : R Out := .ok (.next ρ)
@[simp] theorem e_nextK {ρ : En} : nextK ρ = .ok (.next ρ) := (rfl)
def asgK (g : MG) (r : T × En) : R Out := (ofO (g r.1 r.2)).bind nextK
@[simp] theorem e_mAsg {m : MEx} {g : MG} {ρ : En} : mAsg m g ρ = (m ρ).bind (asgK g) := (rfl)
@[simp] theorem e_asgK {g : MG} {t : T} {ρ : En} : asgK g (t, ρ) = (ofO (g t ρ)).bind nextK := (rfl)
@[simp] theorem e_mgName {i : Nat} {t : T} {ρ : En} : mgName i t ρ = some (ρ.set i (some t)) := (rfl)
@[simp] theorem e_mgNil {ρ : En} : mgNil [] ρ = some ρ := (rfl)
@[simp] theorem e_mgCons {g : MG} {r : MGs} {t : T} {ts : List T} {ρ : En} : mgCons g r (t :: ts) ρ = (g t ρ).bind fun ρ1 => r ts ρ1 := (rfl)
def gTupK (n : Nat) (r : MGs) (ρ : En) : Option (List T) → Option En
  | some ts => if ts.length = n then r ts ρ else none
  | none => none
@[simp] theorem e_mgTup {n : Nat} {r : MGs} {t : T} {ρ : En} : mgTup n r t ρ = gTupK n r ρ t.parts := (rfl)
@[simp] theorem e_gTupK {n : Nat} {r : MGs} {ts : List T} {ρ : En} : gTupK n r ρ (some ts) = if ts.length = n then r ts ρ else none := (rfl)
def plK : Option T → Option (List T)
  | some (.ol ts) => some ts
  | _ => none
@[simp] theorem e_plK {ts : List T} : plK (some (.ol ts)) = some ts := (rfl)
@[simp] theorem e_lstAt {p : List Int} {t : T} : lstAt p (some (some t)) = plK (T.at? p t) := (rfl)
def putPK (i : Nat) (p : List Int) (ts : List T) (ρ : En) : Option (Option T) → Option En
  | some (some t) => (T.put? p (.ol ts) t).map fun t' => ρ.set i (some t')
  | _ => none
@[simp] theorem e_putAt {i : Nat} {p : List Int} {ts : List T} {ρ : En} : putAt i p ts ρ = putPK i p ts ρ ρ[i]? := (rfl)
@[simp] theorem e_putK {i : Nat} {p : List Int} {ts : List T} {ρ : En} {t : T} : putPK i p ts ρ (some (some t)) = (T.put? p (.ol ts) t).map fun t' => ρ.set i (some t') := (rfl)
@[simp] theorem e_mgItem {i : Nat} {mp : ML} {mi : MP} {t : T} {ρ : En} : mgItem i mp mi t ρ = (mp ρ).bind fun p => ((mi ρ).bind T.int?).bind fun j => (lstAt p ρ[i]?).bind fun ts => (ixN ts.length j).bind fun k => putAt i p (ts.set k t) ρ := (rfl)
def parK (i j : Nat) (r : List T × En) : R Out := match r.1 with | [t, u] => .ok (.next ((r.2.set i (some t)).set j (some u))) | _ => .bad
@[simp] theorem e_mPar {i j : Nat} {m : MA} {ρ : En} : mPar i j m ρ = (m ρ).bind (parK i j) := (rfl)
@[simp] theorem e_parK {i j : Nat} {t u : T} {ρ : En} : parK i j ([t, u], ρ) = .ok (.next ((ρ.set i (some t)).set j (some u))) := (rfl)
def augK (i : Nat) (f : Int → Int → Int) (ρ : En) : Option (Option T) → Option T → R Out
  | some (some (.d (.int x))), some (.d (.int y)) => .ok (.next (ρ.set i (some (.d (.int (f x y))))))
  | _, _ => .bad
@[simp] theorem e_mAug {i : Nat} {f : Int → Int → Int} {m : MP} {ρ : En} : mAug i f m ρ = augK i f ρ ρ[i]? (m ρ) := (rfl)
@[simp] theorem e_augK {i : Nat} {f : Int → Int → Int} {x y : Int} {ρ : En} : augK i f ρ (some (some (.d (.int x)))) (some (.d (.int y))) = .ok (.next (ρ.set i (some (.d (.int (f x y)))))) := (rfl)
def forK (g : MG) (b : MS) (r : List T × En) : R Out := mLoop g b r.1 r.2
@[simp] theorem e_mFor {mi : MI} {g : MG} {b : MS} {ρ : En} : mFor mi g b ρ = (mi ρ).bind (forK g b) := (rfl)
@[simp] theorem e_forK {g : MG} {b : MS} {ts : List T} {ρ : En} : forK g b (ts, ρ) = mLoop g b ts ρ := (rfl)
def itK2 (ρ : En) (ts : List T) : R (List T × En) := .ok (ts, ρ)
@[simp] theorem e_itK2 {ρ : En} {ts : List T} : itK2 ρ ts = .ok (ts, ρ) := (rfl)
def itK (r : T × En) : R (List T × En) := (ofO (items? r.1)).bind (itK2 r.2)
def itTK (r : T × En) : R (List T × En) := (ofO (itemsT? r.1)).bind (itK2 r.2)
@[simp] theorem e_miL {m : MEx} {ρ : En} : miL m ρ = (m ρ).bind itK := (rfl)
@[simp] theorem e_miT {m : MEx} {ρ : En} : miT m ρ = (m ρ).bind itTK := (rfl)
@[simp] theorem e_itK {ds : List PyData} {ρ : En} : itK (.d (.list ds), ρ) = .ok (ds.map T.d, ρ) := (rfl)
@[simp] theorem e_itTK {ds : List PyData} {ρ : En} : itTK (.d (.tuple ds), ρ) = .ok (ds.map T.d, ρ) := (rfl)
def rg1 : List T × En → R (List T × En) := fun r => match r.1 with | [.d (.int j)] => guard (small62 j) (.ok (rangeItems 0 j, r.2)) | _ => .bad
def rg2 : List T × En → R (List T × En) := fun r => match r.1 with | [.d (.int i), .d (.int j)] => guard (small62 i && small62 j) (.ok (rangeItems i j, r.2)) | _ => .bad
@[simp] theorem e_miR1 {m : MA} {ρ : En} : miR1 m ρ = (m ρ).bind rg1 := (rfl)
@[simp] theorem e_miR2 {m : MA} {ρ : En} : miR2 m ρ = (m ρ).bind rg2 := (rfl)
@[simp] theorem e_rg1 {j : Int} {ρ : En} : rg1 ([.d (.int j)], ρ) = guard (small62 j) (.ok (rangeItems 0 j, ρ)) := (rfl)
@[simp] theorem e_rg2 {i j : Int} {ρ : En} : rg2 ([.d (.int i), .d (.int j)], ρ) = guard (small62 i && small62 j) (.ok (rangeItems i j, ρ)) := (rfl)
def zipK (r : List T × En) : R (List T × En) := match r.1 with | [.d (.list ds), .d (.list es)] => .ok (zipItems ds es, r.2) | _ => .bad
@[simp] theorem e_miZ {m : MA} {ρ : En} : miZ m ρ = (m ρ).bind zipK := (rfl)
@[simp] theorem e_zipK {ds es : List PyData} {ρ : En} : zipK ([.d (.list ds), .d (.list es)], ρ) = .ok (zipItems ds es, ρ) := (rfl)
def enumK (r : List T × En) : R (List T × En) := match r.1 with | [.d (.list ds)] => .ok (enumItems ds, r.2) | _ => .bad
@[simp] theorem e_miN {m : MA} {ρ : En} : miN m ρ = (m ρ).bind enumK := (rfl)
@[simp] theorem e_enumK {ds : List PyData} {ρ : En} : enumK ([.d (.list ds)], ρ) = .ok (enumItems ds, ρ) := (rfl)
def lcK2 (vs : List Nat) (z : List T × En) : R (T × En) := .ok (.ol z.1, wipeE z.2 vs)
def lcK (g : MG) (mt : MT) (me : MEx) (vs : List Nat) (r : List T × En) : R (T × En) := (mLcLoop g mt me vs r.1 [] r.2).bind (lcK2 vs)
@[simp] theorem e_mLc {mi : MI} {g : MG} {mt : MT} {me : MEx} {vs : List Nat} {ρ : En} : mLc mi g mt me vs ρ = (mi ρ).bind (lcK g mt me vs) := (rfl)
@[simp] theorem e_lcK {g : MG} {mt : MT} {me : MEx} {vs : List Nat} {ts : List T} {ρ : En} : lcK g mt me vs (ts, ρ) = (mLcLoop g mt me vs ts [] ρ).bind (lcK2 vs) := (rfl)
@[simp] theorem e_lcK2 {vs : List Nat} {ts : List T} {ρ : En} : lcK2 vs (ts, ρ) = .ok (.ol ts, wipeE ρ vs) := (rfl)
@[simp] theorem e_mtYes {ρ : En} : mtYes ρ = .ok (true, ρ) := (rfl)
@[simp] theorem e_mbNil {ρ : En} : mbNil ρ = .ok ([], ρ) := (rfl)
def mbK2 (x : T) (y : List (Option T) × En) : R (List (Option T) × En) := .ok (some x :: y.1, y.2)
def mbK (r : MB) (x : T × En) : R (List (Option T) × En) := (r x.2).bind (mbK2 x.1)
@[simp] theorem e_mbCons {m : MEx} {r : MB} {ρ : En} : mbCons m r ρ = (m ρ).bind (mbK r) := (rfl)
@[simp] theorem e_mbK {r : MB} {x : T} {ρ : En} : mbK r (x, ρ) = (r ρ).bind (mbK2 x) := (rfl)
@[simp] theorem e_mbK2 {x : T} {os : List (Option T)} {ρ : En} : mbK2 x (os, ρ) = .ok (some x :: os, ρ) := (rfl)
def mbIoK2 (y : List (Option T) × En) : R (List (Option T) × En) := .ok (none :: y.1, y.2)
@[simp] theorem e_mbIoK2 {os : List (Option T)} {ρ : En} : mbIoK2 (os, ρ) = .ok (none :: os, ρ) := (rfl)
def mbIoK (r : MB) (ρ : En) : Option (Option T) → R (List (Option T) × En)
  | some (some _) => (r ρ).bind mbIoK2
  | _ => .bad
@[simp] theorem e_mbIo {i : Nat} {r : MB} {ρ : En} : mbIo i r ρ = mbIoK r ρ ρ[i]? := (rfl)
@[simp] theorem e_mbIoK {r : MB} {ρ : En} {t : T} : mbIoK r ρ (some (some t)) = (r ρ).bind mbIoK2 := (rfl)
def callK4 (t : T) (ρ : En) : R (T × En) := .ok (t, ρ)
@[simp] theorem e_callK4 {t : T} {ρ : En} : callK4 t ρ = .ok (t, ρ) := (rfl)
def callK3 (is : List Nat) (ρ : En) (z : T × List T) : R (T × En) := (ofO (putIo is z.2 ρ)).bind (callK4 z.1)
@[simp] theorem e_callK3 {is : List Nat} {ρ : En} {t : T} {os : List T} : callK3 is ρ (t, os) = (ofO (putIo is os ρ)).bind (callK4 t) := (rfl)
def callK2 (rz gz : Bool) (n : Nat) (fm : List T → R (T × List T)) (is : List Nat) (s : List T × En) : R (T × En) :=
  guard (!gz || allData s.1) ((if decide (s.1.length = n) then (if rz = true then fm s.1 else (fm s.1).nx) else .bad).bind (callK3 is s.2))
@[simp] theorem e_callK2f {n : Nat} {fm : List T → R (T × List T)} {is : List Nat} {ts : List T} {ρ : En} : callK2 false false n fm is (ts, ρ) = (if ts.length = n then (fm ts).nx else .bad).bind (callK3 is ρ) := by simp [callK2]
@[simp] theorem e_callK2t {n : Nat} {fm : List T → R (T × List T)} {is : List Nat} {ts : List T} {ρ : En} : callK2 true false n fm is (ts, ρ) = (if ts.length = n then fm ts else .bad).bind (callK3 is ρ) := by simp [callK2]
def callK (rz gz : Bool) (n : Nat) (fm : List T → R (T × List T)) (ks : List (Option Nat)) (r : List (Option T) × En) : R (T × En) := (ofO (fillIo ks r.1 r.2)).bind (callK2 rz gz n fm (ks.filterMap id))
@[simp] theorem e_callK {rz gz : Bool} {n : Nat} {fm : List T → R (T × List T)} {ks : List (Option Nat)} {os : List (Option T)} {ρ : En} : callK rz gz n fm ks (os, ρ) = (ofO (fillIo ks os ρ)).bind (callK2 rz gz n fm (ks.filterMap id)) := (rfl)
@[simp] theorem e_mCallF {rz gz : Bool} {n : Nat} {fm : List T → R (T × List T)} {ks : List (Option Nat)} {mb : MB} {ρ : En} : mCallF rz gz n fm ks mb ρ = (mb ρ).bind (callK rz gz n fm ks) := (rfl)
@[simp] theorem e_fill0 {ρ : En} : fillIo [] [] ρ = some ([], ρ) := (rfl)
@[simp] theorem e_fill1 {ks : List (Option Nat)} {t : T} {ts : List (Option T)} {ρ : En} : fillIo (none :: ks) (some t :: ts) ρ = (fillIo ks ts ρ).map fun r => (t :: r.1, r.2) := (rfl)
def fillK (i : Nat) (ks : List (Option Nat)) (ts : List (Option T)) (ρ : En) : Option (Option T) → Option (List T × En)
  | some (some t) => (fillIo ks ts (ρ.set i none)).map fun r => (t :: r.1, r.2)
  | _ => none
@[simp] theorem e_fill2 {i : Nat} {ks : List (Option Nat)} {ts : List (Option T)} {ρ : En} : fillIo (some i :: ks) (none :: ts) ρ = fillK i ks ts ρ ρ[i]? := (rfl)
@[simp] theorem e_fillK {i : Nat} {ks : List (Option Nat)} {ts : List (Option T)} {ρ : En} {t : T} : fillK i ks ts ρ (some (some t)) = (fillIo ks ts (ρ.set i none)).map fun r => (t :: r.1, r.2) := (rfl)
@[simp] theorem e_put0 {ρ : En} : putIo [] [] ρ = some ρ := (rfl)
@[simp] theorem e_put1 {i : Nat} {is : List Nat} {t : T} {ts : List T} {ρ : En} : putIo (i :: is) (t :: ts) ρ = putIo is ts (ρ.set i (some t)) := (rfl)
def outK2 (t : T) (os : List T) : R (List T) := .ok (t :: os)
@[simp] theorem e_outK2 {t : T} {os : List T} : outK2 t os = .ok (t :: os) := (rfl)
def outK (r : List Nat) (ρ : En) : Option (Option T) → R (List T)
  | some (some t) => (outs r ρ).bind (outK2 t)
  | _ => .bad
@[simp] theorem e_outs0 {ρ : En} : outs [] ρ = .ok [] := (rfl)
@[simp] theorem e_outs1 {i : Nat} {r : List Nat} {ρ : En} : outs (i :: r) ρ = outK r ρ ρ[i]? := (rfl)
@[simp] theorem e_outK {r : List Nat} {ρ : En} {t : T} : outK r ρ (some (some t)) = (outs r ρ).bind (outK2 t) := (rfl)
def fnK2 (t : T) (os : List T) : R (T × List T) := .ok (t, os)
@[simp] theorem e_fnK2 {t : T} {os : List T} : fnK2 t os = .ok (t, os) := (rfl)
def fnK (io : List Nat) : Out → R (T × List T)
  | .ret t ρ => (outs io ρ).bind (fnK2 t)
  | .next ρ => (outs io ρ).bind (fnK2 (.d .none))
  | .brk _ => .bad
  | .cont _ => .bad
@[simp] theorem e_mFn {io : List Nat} {k : Nat} {ms : MS} {ts : List T} : mFn io k ms ts = (ms (ts.map some ++ List.replicate k none)).bind (fnK io) := by
  unfold mFn
  congr 1
  funext o
  cases o <;> rfl
@[simp] theorem e_fnR {io : List Nat} {t : T} {ρ : En} : fnK io (.ret t ρ) = (outs io ρ).bind (fnK2 t) := (rfl)
@[simp] theorem e_fnN {io : List Nat} {ρ : En} : fnK io (.next ρ) = (outs io ρ).bind (fnK2 (.d .none)) := (rfl)
def loopK2 (g : MG) (b : MS) (xs : List T) : Out → R Out
  | .next ρ => mLoop g b xs ρ
  | .cont ρ => mLoop g b xs ρ
  | .brk ρ => .ok (.next ρ)
  | .ret t ρ => .ok (.ret t ρ)
def loopK (g : MG) (b : MS) (xs : List T) (ρ : En) : R Out := (b ρ).bind (loopK2 g b xs)
@[simp] theorem e_loop0 {g : MG} {b : MS} {ρ : En} : mLoop g b [] ρ = .ok (.next ρ) := (rfl)
@[simp] theorem e_loopC {g : MG} {b : MS} {x : T} {xs : List T} {ρ : En} : mLoop g b (x :: xs) ρ = (ofO (g x ρ)).bind (loopK g b xs) := by
  have h : (fun ρ1 => (b ρ1).bind fun o => match o with
    | .next ρ2 => mLoop g b xs ρ2
    | .cont ρ2 => mLoop g b xs ρ2
    | .brk ρ2 => .ok (.next ρ2)
    | .ret t ρ2 => .ok (.ret t ρ2)) = loopK g b xs := by
    funext ρ1
    unfold loopK
    congr 1
  exact congrArg (fun k => (ofO (g x ρ)).bind k) h
@[simp] theorem e_loopK {g : MG} {b : MS} {xs : List T} {ρ : En} : loopK g b xs ρ = (b ρ).bind (loopK2 g b xs) := (rfl)
@[simp] theorem e_loopN {g : MG} {b : MS} {xs : List T} {ρ : En} : loopK2 g b xs (.next ρ) = mLoop g b xs ρ := (rfl)
@[simp] theorem e_loopCo {g : MG} {b : MS} {xs : List T} {ρ : En} : loopK2 g b xs (.cont ρ) = mLoop g b xs ρ := (rfl)
@[simp] theorem e_loopB {g : MG} {b : MS} {xs : List T} {ρ : En} : loopK2 g b xs (.brk ρ) = .ok (.next ρ) := (rfl)
@[simp] theorem e_loopR {g : MG} {b : MS} {xs : List T} {t : T} {ρ : En} : loopK2 g b xs (.ret t ρ) = .ok (.ret t ρ) := (rfl)
def lcL3 (g : MG) (mt : MT) (me : MEx) (vs : List Nat) (xs acc : List T) (y : T × En) : R (List T × En) := mLcLoop g mt me vs xs (acc ++ [y.1]) y.2
def lcL2 (g : MG) (mt : MT) (me : MEx) (vs : List Nat) (xs acc : List T) (r : Bool × En) : R (List T × En) := if r.1 = true then guard (decide (acc.length < sLine)) ((me r.2).bind (lcL3 g mt me vs xs acc)) else mLcLoop g mt me vs xs acc r.2
def lcL1 (g : MG) (mt : MT) (me : MEx) (vs : List Nat) (xs acc : List T) (ρ : En) : R (List T × En) := (mt ρ).bind (lcL2 g mt me vs xs acc)
@[simp] theorem e_lc0 {g : MG} {mt : MT} {me : MEx} {vs : List Nat} {acc : List T} {ρ : En} : mLcLoop g mt me vs [] acc ρ = .ok (acc, ρ) := (rfl)
@[simp] theorem e_lcL1 {g : MG} {mt : MT} {me : MEx} {vs : List Nat} {xs acc : List T} {ρ : En} : lcL1 g mt me vs xs acc ρ = (mt ρ).bind (lcL2 g mt me vs xs acc) := (rfl)
@[simp] theorem e_lcL2 {g : MG} {mt : MT} {me : MEx} {vs : List Nat} {xs acc : List T} {b : Bool} {ρ : En} : lcL2 g mt me vs xs acc (b, ρ) = if b = true then guard (decide (acc.length < sLine)) ((me ρ).bind (lcL3 g mt me vs xs acc)) else mLcLoop g mt me vs xs acc ρ := (rfl)
@[simp] theorem e_lcL3 {g : MG} {mt : MT} {me : MEx} {vs : List Nat} {xs acc : List T} {t : T} {ρ : En} : lcL3 g mt me vs xs acc (t, ρ) = mLcLoop g mt me vs xs (acc ++ [t]) ρ := (rfl)
def methK4 (t : T) (ρ : En) : R (T × En) := .ok (t, ρ)
@[simp] theorem e_methK4 {t : T} {ρ : En} : methK4 t ρ = .ok (t, ρ) := (rfl)
def methK (i : Nat) (p : List Int) (op : List T → List T → Option (T × List T)) (r : List T × En) : R (T × En) := (ofO (lstAt p r.2[i]?)).bind fun ts => (ofO (op ts r.1)).bind fun z => (ofO (putAt i p z.2 r.2)).bind (methK4 z.1)
@[simp] theorem e_methK {i : Nat} {p : List Int} {op : List T → List T → Option (T × List T)} {us : List T} {ρ : En} : methK i p op (us, ρ) = (ofO (lstAt p ρ[i]?)).bind fun ts => (ofO (op ts us)).bind fun z => (ofO (putAt i p z.2 ρ)).bind (methK4 z.1) := (rfl)
@[simp] theorem e_mMeth {i : Nat} {mp : ML} {op : List T → List T → Option (T × List T)} {ma : MA} {ρ : En} : mMeth i mp op ma ρ = (ofO (mp ρ)).bind fun p => (ofO (lstAt p ρ[i]?)).bind fun _ => (ma ρ).bind (methK i p op) := (rfl)
@[simp] theorem e_lHere {ρ : En} : lHere ρ = some [] := (rfl)
@[simp] theorem e_lIx {mp : ML} {mi : MP} {ρ : En} : lIx mp mi ρ = (mp ρ).bind fun p => ((mi ρ).bind T.int?).bind fun j => some (p ++ [j]) := (rfl)
@[simp] theorem e_int? {j : Int} : (T.d (.int j)).int? = some j := (rfl)
@[simp] theorem e_atNil {t : T} : T.at? [] t = some t := by cases t <;> rfl
@[simp] theorem e_atOl {j : Int} {js : List Int} {ts : List T} : T.at? (j :: js) (.ol ts) = (atI ts j).bind (T.at? js) := (rfl)
@[simp] theorem e_atOt {j : Int} {js : List Int} {ts : List T} : T.at? (j :: js) (.ot ts) = (atI ts j).bind (T.at? js) := (rfl)
@[simp] theorem e_putNil {n t : T} : T.put? [] n t = some n := by cases t <;> rfl
@[simp] theorem e_putOl {j : Int} {js : List Int} {n : T} {ts : List T} : T.put? (j :: js) n (.ol ts) = (ixN ts.length j).bind fun k => (ts[k]?).bind fun t => (T.put? js n t).map fun t' => .ol (ts.set k t') := (rfl)
@[simp] theorem e_putOt {j : Int} {js : List Int} {n : T} {ts : List T} : T.put? (j :: js) n (.ot ts) = (ixN ts.length j).bind fun k => (ts[k]?).bind fun t => (T.put? js n t).map fun t' => .ot (ts.set k t') := (rfl)
@[simp] theorem e_append {ts : List T} {u : T} : opAppend ts [u] = if decide (ts.length < sLine) = true then some (.d .none, ts ++ [u]) else none := (rfl)
def extK (ts : List T) : Option (List T) → Option (T × List T)
  | some ks => if decide (ts.length + ks.length ≤ sLine) = true then some (.d .none, ts ++ ks) else none
  | none => none
@[simp] theorem e_extend {ts : List T} {u : T} : opExtend ts [u] = extK ts u.kids := (rfl)
@[simp] theorem e_extK {ts ks : List T} : extK ts (some ks) = if decide (ts.length + ks.length ≤ sLine) = true then some (.d .none, ts ++ ks) else none := (rfl)
@[simp] theorem e_insert {ts : List T} {i : Int} {u : T} : opInsert ts [.d (.int i), u] = if decide (ts.length < sLine ∧ 0 ≤ i ∧ i < 2 ^ 63) = true then some (.d .none, ts.take i.toNat ++ [u] ++ ts.drop i.toNat) else none := (rfl)
@[simp] theorem e_kidsL {ds : List PyData} : T.kids (.d (.list ds)) = some (ds.map T.d) := (rfl)
@[simp] theorem e_kidsO {ts : List T} : T.kids (.ol ts) = some ts := (rfl)
@[simp] theorem e_partsD {ds : List PyData} : T.parts (.d (.tuple ds)) = some (ds.map T.d) := (rfl)
@[simp] theorem e_partsO {ts : List T} : T.parts (.ot ts) = some ts := (rfl)
def idxK (x : T) : R RV := .ok (.v x)
@[simp] theorem e_idxK {x : T} : idxK x = .ok (.v x) := (rfl)
def idxDK (x : PyData) : R RV := .ok (.v (.d x))
@[simp] theorem e_idxDK {x : PyData} : idxDK x = .ok (.v (.d x)) := (rfl)
def slK4 (ρ : En) (z : RV) : R (T × En) := .ok (z.toT, ρ)
@[simp] theorem e_slK4 {ρ : En} {z : RV} : slK4 ρ z = .ok (z.toT, ρ) := (rfl)
@[simp] theorem e_mSl {op : T → Option Int → Option Int → Option RV} {m : MP} {ml mh : MO} {ρ : En} : mSl op m ml mh ρ = (ofO (m ρ)).bind fun t => (ofO (ml ρ)).bind fun lo => (ofO (mh ρ)).bind fun hi => (ofO (op t lo hi)).bind (slK4 ρ) := (rfl)
@[simp] theorem e_oNone {ρ : En} : oNone ρ = some none := (rfl)
@[simp] theorem e_oSome {m : MP} {ρ : En} : oSome m ρ = ((m ρ).bind T.int?).map some := (rfl)
@[simp] theorem e_slL {ds : List PyData} {lo hi : Option Int} : opSlL (.d (.list ds)) lo hi = some (.nl (cutG ds lo hi)) := (rfl)
@[simp] theorem e_slR {ds : List PyData} {lo hi : Option Int} : opSlL (.rd ds) lo hi = some (.nl (cutG ds lo hi)) := (rfl)
@[simp] theorem e_slO {ts : List T} {lo hi : Option Int} : opSlL (.ol ts) lo hi = (T.allD ts).map fun ds => .nl (cutG ds lo hi) := (rfl)
@[simp] theorem e_slT {ds : List PyData} {lo hi : Option Int} : opSlT (.d (.tuple ds)) lo hi = if isWhole ds.length lo hi = false then some (.nt (cutG ds lo hi)) else none := (rfl)
def slE3 (ρ : En) (z : RV) : R (T × En) := .ok (z.toT, ρ)
@[simp] theorem e_slE3 {ρ : En} {z : RV} : slE3 ρ z = .ok (z.toT, ρ) := (rfl)
def slEK (ml mh : MO) (r : T × En) : R (T × En) := (ofO (ml r.2)).bind fun lo => (ofO (mh r.2)).bind fun hi => (ofO (opSlA r.1 lo hi)).bind (slE3 r.2)
@[simp] theorem e_mSlE {m : MEx} {ml mh : MO} {ρ : En} : mSlE m ml mh ρ = (m ρ).bind (slEK ml mh) := (rfl)
@[simp] theorem e_slEK {ml mh : MO} {t : T} {ρ : En} : slEK ml mh (t, ρ) = (ofO (ml ρ)).bind fun lo => (ofO (mh ρ)).bind fun hi => (ofO (opSlA t lo hi)).bind (slE3 ρ) := (rfl)
@[simp] theorem e_slAd {ds : List PyData} {lo hi : Option Int} : opSlA (.d (.list ds)) lo hi = some (.nl (cutG ds lo hi)) := (rfl)
@[simp] theorem e_slAo {ts : List T} {lo hi : Option Int} : opSlA (.ol ts) lo hi = (T.allD ts).map fun ds => .nl (cutG ds lo hi) := (rfl)
@[simp] theorem e_revL {ds : List PyData} : opRevL (.d (.list ds)) = .ok (.nl ds.reverse) := (rfl)
@[simp] theorem e_ltAI {i j : Int} : opLtA (.d (.int i)) (.d (.int j)) = .ok (.v (.d (.bool (decide (i < j))))) := (rfl)
@[simp] theorem e_ltAT {a b c d : Int} : opLtA (.d (.tuple [.int a, .int b])) (.d (.tuple [.int c, .int d])) = .ok (.v (.d (.bool (HT.lexLt [a, b] [c, d])))) := (rfl)
def dropIoK (r : T × List T) : R (T × List T) := .ok (r.1, [])
@[simp] theorem e_dropIo {m : List T → R (T × List T)} {ts : List T} : dropIo m ts = (m ts).bind dropIoK := (rfl)
@[simp] theorem e_dropIoK {t : T} {os : List T} : dropIoK (t, os) = .ok (t, []) := (rfl)
@[simp] theorem e_addII {i j : Int} : opAdd (.d (.int i)) (.d (.int j)) = .ok (.v (.d (.int (i + j)))) := (rfl)
@[simp] theorem e_subII {i j : Int} : opSub (.d (.int i)) (.d (.int j)) = .ok (.v (.d (.int (i - j)))) := (rfl)
@[simp] theorem e_mulII {i j : Int} : opMulI (.d (.int i)) (.d (.int j)) = guard (mulOk i j) (.ok (.v (.d (.int (i * j))))) := (rfl)
@[simp] theorem e_modII {i j : Int} : opMod (.d (.int i)) (.d (.int j)) = guard (modOk i j) (.ok (.v (.d (.int (i.fmod j))))) := (rfl)
@[simp] theorem e_divII {i j : Int} : opFdiv (.d (.int i)) (.d (.int j)) = guard (divOk i j) (.ok (.v (.d (.int (i.fdiv j))))) := (rfl)
@[simp] theorem e_powII {i j : Int} : opPow (.d (.int i)) (.d (.int j)) = guard (powOk i j) (.ok (.v (.d (.int (i ^ j.toNat))))) := (rfl)
@[simp] theorem e_ltII {i j : Int} : opLt (.d (.int i)) (.d (.int j)) = .ok (.v (.d (.bool (decide (i < j))))) := (rfl)
@[simp] theorem e_leII {i j : Int} : opLe (.d (.int i)) (.d (.int j)) = .ok (.v (.d (.bool (decide (i ≤ j))))) := (rfl)
@[simp] theorem e_gtII {i j : Int} : opGt (.d (.int i)) (.d (.int j)) = .ok (.v (.d (.bool (decide (j < i))))) := (rfl)
@[simp] theorem e_geII {i j : Int} : opGe (.d (.int i)) (.d (.int j)) = .ok (.v (.d (.bool (decide (j ≤ i))))) := (rfl)
@[simp] theorem e_negI {i : Int} : opNeg (.d (.int i)) = .ok (.v (.d (.int (-i)))) := (rfl)
@[simp] theorem e_eqII {i j : Int} : opEq (.d (.int i)) (.d (.int j)) = .ok (.v (.d (.bool (decide (i = j))))) := (rfl)
@[simp] theorem e_neII {i j : Int} : opNe (.d (.int i)) (.d (.int j)) = .ok (.v (.d (.bool (!decide (i = j))))) := (rfl)
@[simp] theorem e_eqBB {i j : Bool} : opEq (.d (.bool i)) (.d (.bool j)) = .ok (.v (.d (.bool (decide (i = j))))) := (rfl)
@[simp] theorem e_neBB {i j : Bool} : opNe (.d (.bool i)) (.d (.bool j)) = .ok (.v (.d (.bool (!decide (i = j))))) := (rfl)
@[simp] theorem e_eqSS {i j : Str} : opEq (.d (.str i)) (.d (.str j)) = .ok (.v (.d (.bool (decide (i = j))))) := (rfl)
@[simp] theorem e_neSS {i j : Str} : opNe (.d (.str i)) (.d (.str j)) = .ok (.v (.d (.bool (!decide (i = j))))) := (rfl)
@[simp] theorem e_idxL {ds : List PyData} {i : Int} : opIdx (.d (.list ds)) (.d (.int i)) = (ofO (atI ds i)).bind idxDK := (rfl)
@[simp] theorem e_idxT {ds : List PyData} {i : Int} : opIdx (.d (.tuple ds)) (.d (.int i)) = (ofO (atI ds i)).bind idxDK := (rfl)
@[simp] theorem e_idxOl {ts : List T} {i : Int} : opIdx (.ol ts) (.d (.int i)) = (ofO (atI ts i)).bind idxK := (rfl)
@[simp] theorem e_idxOt {ts : List T} {i : Int} : opIdx (.ot ts) (.d (.int i)) = (ofO (atI ts i)).bind idxK := (rfl)
@[simp] theorem e_idxRd {ds : List PyData} {i : Int} : opIdx (.rd ds) (.d (.int i)) = (ofO (atI ds i)).bind idxDK := (rfl)
@[simp] theorem e_isNN : T.isNone (.d .none) = true := (rfl)
@[simp] theorem e_isN {x : T} : opIsN x (.d .none) = .ok (.v (.d (.bool x.isNone))) := (rfl)
@[simp] theorem e_notN {x : T} : opNotN x (.d .none) = .ok (.v (.d (.bool (!x.isNone)))) := (rfl)
@[simp] theorem e_nnI {i : Int} : T.isNone (.d (.int i)) = false := (rfl)
@[simp] theorem e_nnB {i : Bool} : T.isNone (.d (.bool i)) = false := (rfl)
@[simp] theorem e_nnT {i : List PyData} : T.isNone (.d (.tuple i)) = false := (rfl)
@[simp] theorem e_nnL {i : List PyData} : T.isNone (.d (.list i)) = false := (rfl)
@[simp] theorem e_opLen {t : T} : opLen [t] = (ofO t.size).bind fun n => .ok (.v (.d (.int n))) := (rfl)
@[simp] theorem e_sizeL {ds : List PyData} : T.size (.d (.list ds)) = some ds.length := (rfl)
@[simp] theorem e_sizeT {ds : List PyData} : T.size (.d (.tuple ds)) = some ds.length := (rfl)
@[simp] theorem e_sizeOl {ts : List T} : T.size (.ol ts) = some ts.length := (rfl)
@[simp] theorem e_sizeOt {ts : List T} : T.size (.ot ts) = some ts.length := (rfl)
@[simp] theorem e_sizeRd {ds : List PyData} : T.size (.rd ds) = some ds.length := (rfl)
@[simp] theorem e_abs {i : Int} : opAbs [.d (.int i)] = .ok (.v (.d (.int i.natAbs))) := by
  show R.ok (RV.v (T.d (.int (if i < 0 then -i else i)))) = _
  have : (if i < 0 then -i else i) = (i.natAbs : Int) := by split <;> omega
  rw [this]
@[simp] theorem e_int1 {i : Int} : opInt1 [.d (.int i)] = .ok (.v (.d (.int i))) := (rfl)
@[simp] theorem e_int1b {b : Bool} : opInt1 [.d (.bool b)] = .ok (.v (.d (.int (if b then 1 else 0)))) := (rfl)
@[simp] theorem e_max2 {i j : Int} : opMax2 [.d (.int i), .d (.int j)] = .ok (.v (.d (.int (if j > i then j else i)))) := (rfl)
@[simp] theorem e_min2 {i j : Int} : opMin2 [.d (.int i), .d (.int j)] = .ok (.v (.d (.int (if j < i then j else i)))) := (rfl)
@[simp] theorem e_listOf {t : T} : opListOf [t] = (ofO t.seq?).bind fun ds => .ok (.nl ds) := (rfl)
@[simp] theorem e_seqL {ds : List PyData} : T.seq? (.d (.list ds)) = some ds := (rfl)
@[simp] theorem e_seqT {ds : List PyData} : T.seq? (.d (.tuple ds)) = some ds := (rfl)
@[simp] theorem e_seqOl {ts : List T} : T.seq? (.ol ts) = T.allD ts := (rfl)
@[simp] theorem e_seqRd {ds : List PyData} : T.seq? (.rd ds) = some ds := (rfl)
@[simp] theorem e_tupleOfT {ds : List PyData} : opTupleOf [.d (.tuple ds)] = .ok (.v (.d (.tuple ds))) := (rfl)
@[simp] theorem e_tupleOfL {ds : List PyData} : opTupleOf [.d (.list ds)] = .ok (.nt ds) := (rfl)
def tryK (xs : List Str) (j : Nat) (ρ : En) (r : R Out) : R Out := match r with
  | .exc x => if xs.contains x then .ok (.next ((List.replicate ρ.length none).set j (some (.ex x)))) else .bad
  | r => r
theorem e_mTryK0 {xs : List Str} {j : Nat} {mb : MS} {ρ : En} : mTryK xs j mb ρ = tryK xs j ρ (mb ρ) := by
  unfold mTryK tryK
  cases mb ρ <;> rfl
@[simp] theorem e_mTryK {xs : List Str} {j : Nat} {mb : MS} {ρ : En} : mTryK xs j mb ρ = tryK xs j ρ (mb ρ) := e_mTryK0
@[simp] theorem e_tryOk {xs : List Str} {j : Nat} {ρ : En} {o : Out} : tryK xs j ρ (.ok o) = .ok o := (rfl)
@[simp] theorem e_tryExc {xs : List Str} {j : Nat} {ρ : En} {x : Str} : tryK xs j ρ (.exc x) = if xs.contains x then .ok (.next ((List.replicate ρ.length none).set j (some (.ex x)))) else .bad := (rfl)
@[simp] theorem e_mRaise {x : Str} {ρ : En} : mRaise x ρ = .exc x := (rfl)
@[simp] theorem e_pIsX {tab : XTab} {m : MP} {ρ : En} : pIsX tab m ρ = (m ρ).bind fun t => (exIs tab t).map T.d := (rfl)
@[simp] theorem e_exIs {tab : XTab} {x : Str} : exIs tab (.ex x) = (tab.lookup x).map PyData.bool := (rfl)
@[simp] theorem e_mgLst {n : Nat} {r : MGs} {ds : List PyData} {ρ : En} : mgLst n r (.d (.list ds)) ρ = if ds.length = n then r (ds.map T.d) ρ else none := (rfl)
def eqNilK (ρ : En) (o : R RV) : R (T × En) := match o with
  | .ok (.v (.d (.bool b))) => .ok (.d (.bool b), ρ)
  | _ => .bad
def eqNilK0 (f : T → T → R RV) (ρ : En) (o : Option T) : R (T × En) := match o with
  | some x => eqNilK ρ (f x (.d (.list [])))
  | none => .bad
@[simp] theorem e_mEqNil {f : T → T → R RV} {mp : MP} {ρ : En} : mEqNil f mp ρ = eqNilK0 f ρ (mp ρ) := (rfl)
@[simp] theorem e_eqNilK0 {f : T → T → R RV} {x : T} {ρ : En} : eqNilK0 f ρ (some x) = eqNilK ρ (f x (.d (.list []))) := (rfl)
@[simp] theorem e_eqNilK {b : Bool} {ρ : En} : eqNilK ρ (.ok (.v (.d (.bool b)))) = .ok (.d (.bool b), ρ) := (rfl)
def tupCntK (mp : MP) (r : List T × En) : R (T × En) := match T.allD r.1, mp r.2 with
  | some ds, some (.d x) => (cntD ds x).bind fun n => .ok (.d n, r.2)
  | _, _ => .bad
def tupCntK2 (ρ : En) (od : Option (List PyData)) (o : Option T) : R (T × En) := match od, o with
  | some ds, some (.d x) => (cntD ds x).bind fun n => .ok (.d n, ρ)
  | _, _ => .bad
@[simp] theorem e_mTupCount {ma : MA} {mp : MP} {ρ : En} : mTupCount ma mp ρ = (ma ρ).bind (tupCntK mp) := (rfl)
@[simp] theorem e_tupCntK {mp : MP} {ts : List T} {ρ : En} : tupCntK mp (ts, ρ) = tupCntK2 ρ (T.allD ts) (mp ρ) := (rfl)
@[simp] theorem e_tupCntK2 {ds : List PyData} {x : PyData} {ρ : En} : tupCntK2 ρ (some ds) (some (.d x)) = (cntD ds x).bind fun n => .ok (.d n, ρ) := (rfl)
def isXTK (ρ : En) (d : PyData) : R (T × En) := .ok (.d d, ρ)
@[simp] theorem e_isXTK {ρ : En} {d : PyData} : isXTK ρ d = .ok (.d d, ρ) := (rfl)
@[simp] theorem e_mIsXT {tab : XTab} {m : MP} {ρ : En} : mIsXT tab m ρ = (ofO ((m ρ).bind (exIs tab))).bind (isXTK ρ) := (rfl)
@[simp] theorem e_isB {a b : Bool} : opIsB (.d (.bool a)) (.d (.bool b)) = .ok (.v (.d (.bool (decide (a = b))))) := (rfl)
@[simp] theorem e_notB {a b : Bool} : opNotB (.d (.bool a)) (.d (.bool b)) = .ok (.v (.d (.bool (!decide (a = b))))) := (rfl)
@[simp] theorem e_isaInt {n : String} {i : Int} : isaT n (.d (.int i)) = kitB "int" n := (rfl)
@[simp] theorem e_isaBool {n : String} {i : Bool} : isaT n (.d (.bool i)) = kitB "bool" n := (rfl)
@[simp] theorem e_isaStr {n : String} {i : Str} : isaT n (.d (.str i)) = kitB "str" n := (rfl)
@[simp] theorem e_isaTup {n : String} {i : List PyData} : isaT n (.d (.tuple i)) = kitB "tuple" n := (rfl)
@[simp] theorem e_isaLst {n : String} {i : List PyData} : isaT n (.d (.list i)) = kitB "list" n := (rfl)
@[simp] theorem e_isaNone {n : String} : isaT n (.d .none) = kitB "NoneType" n := (rfl)
@[simp] theorem e_isaOl {n : String} {i : List T} : isaT n (.ol i) = kitB "list" n := (rfl)
@[simp] theorem e_fzD {x : PyData} : T.fz (.d x) = some x := by simp [T.fz]
@[simp] theorem e_fzOl {ts : List T} : T.fz (.ol ts) = (T.fzAll ts).map PyData.list := by simp [T.fz]
@[simp] theorem e_fzOt {ts : List T} : T.fz (.ot ts) = (T.fzAll ts).map PyData.tuple := by simp [T.fz]
@[simp] theorem e_fzNil : T.fzAll [] = some [] := by simp [T.fzAll]
@[simp] theorem e_fzCons {t : T} {r : List T} : T.fzAll (t :: r) = (T.fz t).bind fun x => (T.fzAll r).map fun xs => x :: xs := by simp [T.fzAll]
@[simp] theorem e_fzMap : ∀ {ds : List PyData}, T.fzAll (ds.map T.d) = some ds
  | [] => by simp
  | x :: r => by simp [e_fzMap (ds := r)]
@[simp] theorem e_fzMapC {α : Type} {f : α → PyData} {xs : List α} : T.fzAll (xs.map (T.d ∘ f)) = some (xs.map f) := by rw [← List.map_map]; exact e_fzMap
@[simp] theorem e_fzMapL {α : Type} {f : α → PyData} {xs : List α} : T.fzAll (xs.map fun x => T.d (f x)) = some (xs.map f) := e_fzMapC
@[simp] theorem e_toDD {x : PyData} : T.toD (.d x) = some x := by simp [T.toD]
@[simp] theorem e_toDOl {ts : List T} : T.toD (.ol ts) = (T.toDAll ts).map PyData.list := by simp [T.toD]
@[simp] theorem e_toDOt {ts : List T} : T.toD (.ot ts) = (T.toDAll ts).map PyData.tuple := by simp [T.toD]
@[simp] theorem e_toDNil : T.toDAll [] = some [] := by simp [T.toDAll]
@[simp] theorem e_toDCons {t : T} {r : List T} : T.toDAll (t :: r) = (T.toD t).bind fun x => (T.toDAll r).map fun xs => x :: xs := by simp [T.toDAll]
@[simp] theorem e_toDMap : ∀ {ds : List PyData}, T.toDAll (ds.map T.d) = some ds
  | [] => by simp
  | x :: r => by simp [e_toDMap (ds := r)]
@[simp] theorem e_toDMapC {α : Type} {f : α → PyData} {xs : List α} : T.toDAll (xs.map (T.d ∘ f)) = some (xs.map f) := by rw [← List.map_map]; exact e_toDMap
@[simp] theorem e_toDMapL {α : Type} {f : α → PyData} {xs : List α} : T.toDAll (xs.map fun x => T.d (f x)) = some (xs.map f) := e_toDMapC
@[simp] theorem e_allDNil : T.allD [] = some [] := (rfl)
@[simp] theorem e_allDCons {x : PyData} {r : List T} : T.allD (.d x :: r) = (T.allD r).map fun xs => x :: xs := (rfl)
@[simp] theorem e_allDOl {x : List T} {r : List T} : T.allD (.ol x :: r) = none := (rfl)
@[simp] theorem e_allDMapC {α : Type} {f : α → PyData} {xs : List α} : T.allD (xs.map (T.d ∘ f)) = some (xs.map f) := by rw [← List.map_map]; exact allD_map _
@[simp] theorem e_allDMapL {α : Type} {f : α → PyData} {xs : List α} : T.allD (xs.map fun x => T.d (f x)) = some (xs.map f) := e_allDMapC
@[simp] theorem e_allDMap {ds : List PyData} : T.allD (ds.map T.d) = some ds := allD_map ds
@[simp] theorem e_lstL {ds : List PyData} : T.lst? (.d (.list ds)) = some ds := (rfl)
@[simp] theorem e_lstO {ts : List T} : T.lst? (.ol ts) = T.allD ts := (rfl)
@[simp] theorem e_wipe0 {ρ : Env} : wipeE ρ [] = ρ := (rfl)
@[simp] theorem e_wipe1 {ρ : Env} {v : Nat} {vs : List Nat} : wipeE ρ (v :: vs) = (wipeE ρ vs).set v none := (rfl)
theorem e_ixN {m n : Nat} (h : n < m) : ixN m (n : Int) = some n := by
  unfold ixN
  rw [if_pos (by omega), if_pos (by omega)]
  simp
theorem e_atIn {α : Type} {xs : List α} {n : Nat} : atI xs (n : Int) = xs[n]? := by
  unfold atI
  by_cases h : n < xs.length
  · rw [e_ixN h]; rfl
  · rw [List.getElem?_eq_none (by omega)]
    unfold ixN
    rw [if_pos (by omega), if_neg (by omega)]
    rfl
@[simp] theorem e_atI0 {α : Type} {x : α} {xs : List α} : atI (x :: xs) 0 = some x := (e_atIn (n := 0)).trans rfl
@[simp] theorem e_atI1 {α : Type} {x y : α} {xs : List α} : atI (x :: y :: xs) 1 = some y := (e_atIn (n := 1)).trans rfl
@[simp] theorem e_atI2 {α : Type} {x y z : α} {xs : List α} : atI (x :: y :: z :: xs) 2 = some z := (e_atIn (n := 2)).trans rfl
@[simp] theorem e_atI3 {α : Type} {x y z u : α} {xs : List α} : atI (x :: y :: z :: u :: xs) 3 = some u := (e_atIn (n := 3)).trans rfl
end L3
namespace L3
open PySem
def Yes (r : T × List T) : Prop := r.1 = .d (.bool true)
def NoE (_ : Str) : Prop := False
@[simp] theorem e_yes {os : List T} : Yes (.d (.bool true), os) := rfl
theorem of_yes {r : R (T × List T)} (h : Then r Yes NoE) : Then r (fun r => r.1 = .d (.bool true)) (fun _ => False) := h
end L3
namespace L3
open PySem PySem.Spec PyProof.Rows L2
theorem mWhile_of {mt : MT} {mb : MS} {n : Nat} {ρ : Env} (h : mWhileN mt mb n ρ ≠ .bad) : mWhile mt mb ρ = mWhileN mt mb n ρ := by
  have hx : ∃ n, mWhileN mt mb n ρ ≠ .bad := ⟨n, h⟩
  unfold mWhile
  rw [dif_pos hx]
  have hc := Classical.choose_spec hx
  rcases Nat.le_total n (Classical.choose hx) with l | l
  · exact mWhileN_le h l
  · exact (mWhileN_le hc l).symm
theorem mWhile_bad {mt : MT} {mb : MS} {ρ : Env} (h : ∀ n, mWhileN mt mb n ρ = .bad) : mWhile mt mb ρ = .bad := by
  unfold mWhile
  rw [dif_neg]
  rintro ⟨n, e⟩
  exact e (h n)
noncomputable abbrev wNext (mt : MT) (mb : MS) : Out → R Out := fun o => match o with
  | .next ρ2 => mWhile mt mb ρ2
  | .cont ρ2 => mWhile mt mb ρ2
  | .brk ρ2 => .ok (.next ρ2)
  | .ret t ρ2 => .ok (.ret t ρ2)
theorem mWhile_eq {mt : MT} {mb : MS} {ρ : Env} : mWhile mt mb ρ = (mt ρ).bind fun r => if r.1 = true then (mb r.2).bind (wNext mt mb) else .ok (.next r.2) := by
  have step : ∀ n, mWhileN mt mb (n + 1) ρ = (mt ρ).bind fun r => if r.1 = true then (mb r.2).bind (fun o => match o with
    | .next ρ2 => mWhileN mt mb n ρ2
    | .cont ρ2 => mWhileN mt mb n ρ2
    | .brk ρ2 => .ok (.next ρ2)
    | .ret t ρ2 => .ok (.ret t ρ2)) else .ok (.next r.2) := fun n => rfl
  cases e : mt ρ with
  | exc x =>
    rw [mWhile_of (n := 1) (by rw [step, e]; exact fun z => nomatch z), step, e]; rfl
  | bad => exact mWhile_bad fun n => (match n with
      | 0 => rfl
      | n + 1 => by rw [step, e]; rfl)
  | ok r =>
    show _ = if r.1 = true then _ else _
    by_cases hr : r.1 = true
    · rw [if_pos hr]
      have step2 : ∀ n, mWhileN mt mb (n + 1) ρ = (mb r.2).bind (fun o => match o with
        | .next ρ2 => mWhileN mt mb n ρ2
        | .cont ρ2 => mWhileN mt mb n ρ2
        | .brk ρ2 => .ok (.next ρ2)
        | .ret t ρ2 => .ok (.ret t ρ2)) := fun n => by rw [step, e]; show (if r.1 = true then _ else _) = _; rw [if_pos hr]
      cases e2 : mb r.2 with
      | exc x => rw [mWhile_of (n := 1) (by rw [step2, e2]; exact fun z => nomatch z), step2, e2]; rfl
      | bad => exact mWhile_bad fun n => (match n with
          | 0 => rfl
          | n + 1 => by rw [step2, e2]; rfl)
      | ok o =>
        have go : ∀ ρ2, (∀ n, mWhileN mt mb (n + 1) ρ = mWhileN mt mb n ρ2) → mWhile mt mb ρ = mWhile mt mb ρ2 := fun ρ2 h => by
          by_cases hx : ∃ n, mWhileN mt mb n ρ2 ≠ .bad
          · obtain ⟨n, hn⟩ := hx
            rw [mWhile_of hn, mWhile_of (n := n + 1) (by rw [h]; exact hn), h]
          · have hb : ∀ n, mWhileN mt mb n ρ2 = .bad := fun n => Classical.byContradiction fun z => hx ⟨n, z⟩
            rw [mWhile_bad hb]
            exact mWhile_bad fun n => (match n with
              | 0 => rfl
              | n + 1 => by rw [h]; exact hb n)
        cases o with
        | next ρ2 => exact go ρ2 fun n => by rw [step2, e2]; rfl
        | cont ρ2 => exact go ρ2 fun n => by rw [step2, e2]; rfl
        | brk ρ2 => rw [mWhile_of (n := 1) (by rw [step2, e2]; exact fun z => nomatch z), step2, e2]; rfl
        | ret t ρ2 => rw [mWhile_of (n := 1) (by rw [step2, e2]; exact fun z => nomatch z), step2, e2]; rfl
    · rw [if_neg hr, mWhile_of (n := 1) (by rw [step, e]; show (if r.1 = true then _ else _) ≠ _; rw [if_neg hr]; exact fun z => nomatch z), step, e]
      show (if r.1 = true then _ else _) = _
      rw [if_neg hr]
def turnTo (I : L3.Env → Prop) (Q : Out → Prop) : Out → Prop
  | .next ρ => I ρ
  | .cont ρ => I ρ
  | .brk ρ => Q (.next ρ)
  | .ret t ρ => Q (.ret t ρ)
@[simp] theorem t_next {I : L3.Env → Prop} {Q : Out → Prop} {ρ : L3.Env} : turnTo I Q (.next ρ) ↔ I ρ := (Iff.rfl)
@[simp] theorem t_cont {I : L3.Env → Prop} {Q : Out → Prop} {ρ : L3.Env} : turnTo I Q (.cont ρ) ↔ I ρ := (Iff.rfl)
@[simp] theorem t_brk {I : L3.Env → Prop} {Q : Out → Prop} {ρ : L3.Env} : turnTo I Q (.brk ρ) ↔ Q (.next ρ) := (Iff.rfl)
@[simp] theorem t_ret {I : L3.Env → Prop} {Q : Out → Prop} {t : T} {ρ : L3.Env} : turnTo I Q (.ret t ρ) ↔ Q (.ret t ρ) := (Iff.rfl)
theorem loop_ix {g : MG} {b : MS} {Q : Out → Prop} {E : Str → Prop} (I : Nat → Env → Prop) {items : List T} {ρ : Env} (h0 : I 0 ρ) (hend : ∀ ρ, I items.length ρ → Q (.next ρ))
    (hstep : ∀ i x ρ, items[i]? = some x → I i ρ → ∃ ρ1, g x ρ = some ρ1 ∧ Then (b ρ1) (turnTo (I (i + 1)) Q) E) :
    Then (mLoop g b items ρ) Q E := by
  suffices ∀ k i ρ, i + k = items.length → I i ρ → Then (mLoop g b (items.drop i) ρ) Q E by
    have := this items.length 0 ρ (by omega) h0
    rwa [List.drop_zero] at this
  intro k
  induction k with
  | zero =>
    intro i ρ hi h
    have : i = items.length := by omega
    subst this
    rw [List.drop_length]
    exact hend ρ h
  | succ k ih =>
    intro i ρ hi h
    have hlt : i < items.length := by omega
    rw [List.drop_eq_getElem_cons hlt]
    obtain ⟨ρ1, e, t⟩ := hstep i _ ρ (List.getElem?_eq_getElem hlt) h
    show Then ((ofO (g items[i] ρ)).bind _) Q E
    rw [e]
    show Then ((b ρ1).bind _) Q E
    refine then_bindI t fun o ho => ?_
    cases o with
    | next ρ2 => exact ih (i + 1) ρ2 (by omega) ho
    | cont ρ2 => exact ih (i + 1) ρ2 (by omega) ho
    | brk ρ2 => exact ho
    | ret t ρ2 => exact ho
theorem rangeItems_get {lo hi : Int} {i : Nat} {x : T} (h : (rangeItems lo hi)[i]? = some x) : i < (hi - lo).toNat ∧ x = .d (.int (lo + (i : Nat))) := by
  unfold rangeItems at h
  rw [List.getElem?_map] at h
  obtain ⟨z, e1, rfl⟩ := Option.map_eq_some_iff.mp h
  obtain ⟨h1, h2⟩ := List.getElem?_eq_some_iff.mp e1
  have : z = i := by simpa using h2.symm
  subst this
  exact ⟨by simpa using h1, rfl⟩
@[simp] theorem rangeItems_len {lo hi : Int} : (rangeItems lo hi).length = (hi - lo).toNat := by simp [rangeItems]
noncomputable instance decD : DecidableEq PyData := fun a b => Classical.propDecidable (a = b)
mutual
def plk : Nat → PyData → Bool
  | _, .int _ => true
  | _, .none => true
  | _, .str s => PyData.strOk s
  | n + 1, .list xs => plkAll n xs
  | n + 1, .tuple xs => plkAll n xs
  | _, _ => false
def plkAll : Nat → List PyData → Bool
  | _, [] => true
  | n, x :: xs => plk n x && plkAll n xs
end
mutual
theorem plk_eqv : ∀ (n m : Nat) (x y : PyData), plk n x = true → plk m y = true → PyData.eqv x y = decide (x = y)
  | _, _, .int i, .int j, _, _ => by rw [Bool.eq_iff_iff]; simp [PyData.eqv]
  | _, _, .str i, .str j, _, _ => by rw [Bool.eq_iff_iff]; simp [PyData.eqv]
  | _, _, .none, .none, _, _ => by simp [PyData.eqv]
  | n + 1, m + 1, .list xs, .list ys, h1, h2 => by
    have := plkAll_eqv n m xs ys (by simpa [plk] using h1) (by simpa [plk] using h2)
    simp [PyData.eqv, this]
  | n + 1, m + 1, .tuple xs, .tuple ys, h1, h2 => by
    have := plkAll_eqv n m xs ys (by simpa [plk] using h1) (by simpa [plk] using h2)
    simp [PyData.eqv, this]
  | 0, _, .list _, _, h1, _ => by simp [plk] at h1
  | 0, _, .tuple _, _, h1, _ => by simp [plk] at h1
  | _, 0, _, .list _, _, h2 => by simp [plk] at h2
  | _, 0, _, .tuple _, _, h2 => by simp [plk] at h2
  | 0, _, .bool _, _, h1, _ => by simp [plk] at h1
  | _ + 1, _, .bool _, _, h1, _ => by simp [plk] at h1
  | 0, _, .dict _, _, h1, _ => by simp [plk] at h1
  | _ + 1, _, .dict _, _, h1, _ => by simp [plk] at h1
  | _, 0, _, .bool _, _, h1 => by simp [plk] at h1
  | _, _ + 1, _, .bool _, _, h1 => by simp [plk] at h1
  | _, 0, _, .dict _, _, h1 => by simp [plk] at h1
  | _, _ + 1, _, .dict _, _, h1 => by simp [plk] at h1
  | _, _, .int _, .str _, _, _ => by simp [PyData.eqv]
  | _, _, .int _, .none, _, _ => by simp [PyData.eqv]
  | _, _ + 1, .int _, .list _, _, _ => by simp [PyData.eqv]
  | _, _ + 1, .int _, .tuple _, _, _ => by simp [PyData.eqv]
  | _, _, .str _, .int _, _, _ => by simp [PyData.eqv]
  | _, _, .str _, .none, _, _ => by simp [PyData.eqv]
  | _, _ + 1, .str _, .list _, _, _ => by simp [PyData.eqv]
  | _, _ + 1, .str _, .tuple _, _, _ => by simp [PyData.eqv]
  | _, _, .none, .int _, _, _ => by simp [PyData.eqv]
  | _, _, .none, .str _, _, _ => by simp [PyData.eqv]
  | _, _ + 1, .none, .list _, _, _ => by simp [PyData.eqv]
  | _, _ + 1, .none, .tuple _, _, _ => by simp [PyData.eqv]
  | _ + 1, _, .list _, .int _, _, _ => by simp [PyData.eqv]
  | _ + 1, _, .list _, .str _, _, _ => by simp [PyData.eqv]
  | _ + 1, _, .list _, .none, _, _ => by simp [PyData.eqv]
  | _ + 1, _ + 1, .list _, .tuple _, _, _ => by simp [PyData.eqv]
  | _ + 1, _, .tuple _, .int _, _, _ => by simp [PyData.eqv]
  | _ + 1, _, .tuple _, .str _, _, _ => by simp [PyData.eqv]
  | _ + 1, _, .tuple _, .none, _, _ => by simp [PyData.eqv]
  | _ + 1, _ + 1, .tuple _, .list _, _, _ => by simp [PyData.eqv]
theorem plkAll_eqv : ∀ (n m : Nat) (xs ys : List PyData), plkAll n xs = true → plkAll m ys = true → PyData.eqvAll xs ys = decide (xs = ys)
  | _, _, [], [], _, _ => by simp [PyData.eqvAll]
  | _, _, [], _ :: _, _, _ => by simp [PyData.eqvAll]
  | _, _, _ :: _, [], _, _ => by simp [PyData.eqvAll]
  | n, m, x :: xs, y :: ys, h1, h2 => by
    simp only [plkAll, Bool.and_eq_true] at h1 h2
    have a := plk_eqv n m x y h1.1 h2.1
    have b := plkAll_eqv n m xs ys h1.2 h2.2
    simp [PyData.eqvAll, a, b]
end
mutual
theorem plk_lay : ∀ (n : Nat) (x : PyData), plk n x = true → x.canLay0 = true ∧ x.depth ≤ n
  | _, .int _, _ => by simp [PyData.canLay0, PyData.depth]
  | _, .none, _ => by simp [PyData.canLay0, PyData.depth]
  | _, .str s, h => ⟨by simpa [plk, PyData.canLay0] using h, by simp [PyData.depth]⟩
  | n + 1, .list xs, h => by
    have := plkAll_lay n xs (by simpa [plk] using h)
    simp only [PyData.canLay0, PyData.depth]
    exact ⟨this.1, by omega⟩
  | n + 1, .tuple xs, h => by
    have := plkAll_lay n xs (by simpa [plk] using h)
    simp only [PyData.canLay0, PyData.depth]
    exact ⟨this.1, by omega⟩
  | 0, .list _, h1 => by simp [plk] at h1
  | 0, .tuple _, h1 => by simp [plk] at h1
  | 0, .bool _, h1 => by simp [plk] at h1
  | _ + 1, .bool _, h1 => by simp [plk] at h1
  | 0, .dict _, h1 => by simp [plk] at h1
  | _ + 1, .dict _, h1 => by simp [plk] at h1
theorem plkAll_lay : ∀ (n : Nat) (xs : List PyData), plkAll n xs = true → PyData.canLayAll0 xs = true ∧ PyData.depthAll xs ≤ n
  | _, [], _ => by simp [PyData.canLayAll0, PyData.depthAll]
  | n, x :: xs, h => by
    simp only [plkAll, Bool.and_eq_true] at h
    have a := plk_lay n x h.1
    have b := plkAll_lay n xs h.2
    simp only [PyData.canLayAll0, PyData.depthAll, Bool.and_eq_true]
    exact ⟨⟨a.1, b.1⟩, by omega⟩
end
def pl (x : PyData) : Prop := plk 60 x = true
theorem pl_shaped {x : PyData} (h : pl x) : SeqAt.shaped x = true := by
  have := plk_lay 60 x h
  unfold SeqAt.shaped
  rw [this.1]
  simp only [Bool.true_and]
  exact decide_eq_true (Nat.le_trans this.2 (by decide))
theorem eqD_pl {x y : T} {a b : PyData} (hx : x.toD = some a) (hy : y.toD = some b) (h1 : pl a) (h2 : pl b) : eqD x y = .ok (decide (a = b)) := by
  unfold eqD
  rw [hx, hy]
  dsimp only
  cases e : eqS a b with
  | some k =>
    dsimp only
    unfold eqS at e
    split at e <;> first | (cases e; simp) | cases e
  | none =>
    dsimp only
    rw [pl_shaped h1, pl_shaped h2, plk_eqv 60 60 a b h1 h2]
    rfl
theorem opEq_pl {x y : T} {a b : PyData} (hx : x.toD = some a) (hy : y.toD = some b) (h1 : pl a) (h2 : pl b) : opEq x y = .ok (.v (.d (.bool (decide (a = b))))) := by
  unfold opEq
  rw [eqD_pl hx hy h1 h2]
  rfl
theorem opNe_pl {x y : T} {a b : PyData} (hx : x.toD = some a) (hy : y.toD = some b) (h1 : pl a) (h2 : pl b) : opNe x y = .ok (.v (.d (.bool (!decide (a = b))))) := by
  unfold opNe
  rw [eqD_pl hx hy h1 h2]
  rfl
theorem plkAll_map {α : Type} {n : Nat} {f : α → PyData} {xs : List α} (h : ∀ x ∈ xs, plk n (f x) = true) : plkAll n (xs.map f) = true := by
  induction xs with
  | nil => rfl
  | cons x r ih =>
    simp only [List.map_cons, plkAll, Bool.and_eq_true]
    exact ⟨h x List.mem_cons_self, ih fun y hy => h y (List.mem_cons_of_mem _ hy)⟩
theorem mulOk_bits {i j : Int} {a b : Nat} (ha : i.natAbs < 2 ^ a) (hb : j.natAbs < 2 ^ b) (h : a + b ≤ 900000) : mulOk i j = true := by
  refine mulOk_iff.mpr (CMulW.ok ?_)
  have h1 : i.natAbs.log2 ≤ a := by
    by_cases z : i.natAbs = 0
    · rw [z]; simp
    · exact Nat.le_of_lt ((Nat.log2_lt z).mpr ha)
  have h2 : j.natAbs.log2 ≤ b := by
    by_cases z : j.natAbs = 0
    · rw [z]; simp
    · exact Nat.le_of_lt ((Nat.log2_lt z).mpr hb)
  show i.natAbs.log2 + j.natAbs.log2 < 1000000
  omega
theorem bits64 {j : Int} (h : j.natAbs < 2 ^ 64) : Builtin.Int.intBits j ≤ 64 := by
  unfold Builtin.Int.intBits
  split
  · omega
  · rename_i z
    have : j.natAbs ≠ 0 := by
      intro e
      have : j = 0 := by omega
      simp [this] at z
    have := (Nat.log2_lt this).mpr h
    omega
theorem mulOk_r {i j : Int} (h : j.natAbs < 2 ^ 64) : mulOk i j = true := by
  unfold mulOk shortFactorBits
  have := bits64 h
  simp; omega
theorem mulOk_l {i j : Int} (h : i.natAbs < 2 ^ 64) : mulOk i j = true := by
  unfold mulOk shortFactorBits
  have := bits64 h
  simp; omega
theorem divOk_of {i j : Int} (h : j ≠ 0) (hb : j.natAbs < 2 ^ 9000) : divOk i j = true := by
  unfold divOk
  rw [decide_eq_true h, Bool.true_and]
  have h0 : j.natAbs ≠ 0 := by omega
  have := (Nat.log2_lt h0).mpr hb
  have e : Builtin.divisionGoesByPylong i j = false := PyProof.noPylong_of_log2 this
  rw [e]
  rfl
end L3
namespace L3
open PySem
end L3
namespace L3
open PySem PySem.Spec PyProof.Rows L2
def fr (q : Rat) : PyData := .tuple [.int q.num, .int q.den]
def frs (qs : List Rat) : PyData := .list (qs.map fr)
theorem fr_def {q : Rat} : fr q = .tuple [.int q.num, .int q.den] := rfl
@[simp] theorem plk_fr {n : Nat} {q : Rat} : plk (n + 1) (fr q) = true := by simp [fr, plk, plkAll]
@[simp] theorem plk_frs {n : Nat} {qs : List Rat} : plk (n + 2) (frs qs) = true := by
  simp only [frs, plk]
  exact plkAll_map fun x _ => plk_fr
theorem pl_fr {q : Rat} : pl (fr q) := plk_fr
theorem pl_frs {q : List Rat} : pl (frs q) := plk_frs
def bl (n : Nat) : Nat := if n = 0 then 0 else n.log2 + 1
theorem bl_lt (n : Nat) : n < 2 ^ bl n := by
  unfold bl
  split
  · omega
  · exact Nat.lt_log2_self
theorem bl_le {n k : Nat} : bl n ≤ k ↔ n < 2 ^ k := by
  unfold bl
  split
  · rename_i h
    subst h
    simp [Nat.two_pow_pos]
  · rename_i h
    rw [← Nat.log2_lt h]
    omega
theorem bl_mono {m n : Nat} (h : m ≤ n) : bl m ≤ bl n := bl_le.mpr (Nat.lt_of_le_of_lt h (bl_lt n))
theorem bl_mul {m n : Nat} : bl (m * n) ≤ bl m + bl n := bl_le.mpr (by
  rw [Nat.pow_add]
  exact Nat.mul_lt_mul'' (bl_lt m) (bl_lt n))
theorem bl_add {m n : Nat} : bl (m + n) ≤ max (bl m) (bl n) + 1 := bl_le.mpr (by
  have h1 : m < 2 ^ max (bl m) (bl n) := Nat.lt_of_lt_of_le (bl_lt m) (Nat.pow_le_pow_right (by decide) (Nat.le_max_left _ _))
  have h2 : n < 2 ^ max (bl m) (bl n) := Nat.lt_of_lt_of_le (bl_lt n) (Nat.pow_le_pow_right (by decide) (Nat.le_max_right _ _))
  rw [Nat.pow_succ]
  omega)
def ib (i : Int) : Nat := bl i.natAbs
theorem ib_mul {i j : Int} : ib (i * j) ≤ ib i + ib j := by
  unfold ib
  rw [Int.natAbs_mul]
  exact bl_mul
theorem ib_add {i j : Int} : ib (i + j) ≤ max (ib i) (ib j) + 1 := Nat.le_trans (bl_mono (Int.natAbs_add_le i j)) bl_add
theorem ib_neg {i : Int} : ib (-i) = ib i := by unfold ib; rw [Int.natAbs_neg]
theorem ib_nat {n : Nat} : ib (n : Int) = bl n := by unfold ib; rw [Int.natAbs_natCast]
theorem ib_le {i : Int} {k : Nat} : ib i ≤ k ↔ i.natAbs < 2 ^ k := bl_le
theorem mulOk_ib {i j : Int} (h : ib i + ib j ≤ 900000) : mulOk i j = true := mulOk_bits (bl_lt _) (bl_lt _) h
theorem divOk_ib {i j : Int} (h : j ≠ 0) (hb : ib j ≤ 9000) : divOk i j = true := divOk_of h (ib_le.mp hb)
def hq (q : Rat) : Nat := max (ib q.num) (bl q.den)
theorem hq_num (q : Rat) : ib q.num ≤ hq q := Nat.le_max_left _ _
theorem hq_den (q : Rat) : bl q.den ≤ hq q := Nat.le_max_right _ _
theorem hq_denI (q : Rat) : ib (q.den : Int) ≤ hq q := by rw [ib_nat]; exact hq_den q
theorem hq_le {q : Rat} {k : Nat} : hq q ≤ k ↔ ib q.num ≤ k ∧ bl q.den ≤ k := by unfold hq; omega
theorem hq_divInt {t b : Int} {k : Nat} (h1 : ib t ≤ k) (h2 : ib b ≤ k) (hk : 1 ≤ k) : hq (Rat.divInt t b) ≤ k := by
  rw [hq_le, Rat.num_divInt, Rat.den_divInt]
  constructor
  · refine Nat.le_trans (bl_mono (Nat.le_trans (Int.natAbs_ediv_le_natAbs _ _) ?_)) h1
    rw [Int.natAbs_mul, Int.natAbs_sign]
    split <;> omega
  · split
    · unfold bl; simp; exact hk
    · exact Nat.le_trans (bl_mono (Nat.div_le_self _ _)) h2
theorem hq_pos (q : Rat) : 1 ≤ hq q := by
  have h := hq_den q
  have : bl q.den ≠ 0 := by
    unfold bl
    rw [if_neg q.den_nz]
    omega
  omega
theorem add_divInt (q r : Rat) : q + r = Rat.divInt (q.num * r.den + r.num * q.den) (q.den * r.den) := by
  rw [Rat.add_def', ← Rat.divInt_ofNat]
  simp
theorem mul_divInt (q r : Rat) : q * r = Rat.divInt (q.num * r.num) (q.den * r.den) := by
  rw [Rat.mul_def', ← Rat.divInt_ofNat]
  simp
theorem div_divInt (q r : Rat) : q / r = Rat.divInt (q.num * r.den) (q.den * r.num) := by
  have h : q / r = Rat.divInt q.num q.den / Rat.divInt r.num r.den := by rw [Rat.num_divInt_den, Rat.num_divInt_den]
  rw [h, Rat.div_def, Rat.inv_divInt, Rat.divInt_mul_divInt]
theorem hq_add (q r : Rat) : hq (q + r) ≤ hq q + hq r + 1 := by
  rw [add_divInt]
  have a := hq_num q
  have b := hq_num r
  have c := hq_denI q
  have d := hq_denI r
  have e := ib_add (i := q.num * r.den) (j := r.num * q.den)
  have f := ib_mul (i := q.num) (j := r.den)
  have g := ib_mul (i := r.num) (j := q.den)
  have h := ib_mul (i := (q.den : Int)) (j := r.den)
  exact hq_divInt (by omega) (by omega) (by omega)
theorem hq_mul (q r : Rat) : hq (q * r) ≤ hq q + hq r := by
  rw [mul_divInt]
  have a := hq_num q
  have b := hq_num r
  have c := hq_denI q
  have d := hq_denI r
  have g := ib_mul (i := q.num) (j := r.num)
  have h := ib_mul (i := (q.den : Int)) (j := r.den)
  have p := hq_pos q
  exact hq_divInt (by omega) (by omega) (by omega)
theorem hq_div (q r : Rat) : hq (q / r) ≤ hq q + hq r := by
  rw [div_divInt]
  have a := hq_num q
  have b := hq_num r
  have c := hq_denI q
  have d := hq_denI r
  have g := ib_mul (i := q.num) (j := r.den)
  have h := ib_mul (i := (q.den : Int)) (j := r.num)
  have p := hq_pos q
  exact hq_divInt (by omega) (by omega) (by omega)
theorem hq_neg (q : Rat) : hq (-q) = hq q := by
  unfold hq
  rw [Rat.neg_num, Rat.neg_den, ib_neg]
def lowM (t b : Int) : Int := if b < 0 then 0 - (Int.gcd t b : Int) else (Int.gcd t b : Int)
theorem lowM_ne {t b : Int} (hb : b ≠ 0) : lowM t b ≠ 0 := by
  have : Int.gcd t b ≠ 0 := by
    intro e
    exact hb (Int.gcd_eq_zero_iff.mp e).2
  unfold lowM
  split <;> omega
theorem lowM_ib {t b : Int} (hb : b ≠ 0) : ib (lowM t b) ≤ ib b := by
  have h1 : (lowM t b).natAbs = Int.gcd t b := by unfold lowM; split <;> omega
  unfold ib
  rw [h1]
  refine bl_mono (Nat.le_of_dvd (by omega) ?_)
  exact Int.gcd_dvd_natAbs_right t b
theorem lowM_num {t b : Int} (hb : b ≠ 0) : t.fdiv (lowM t b) = (Rat.divInt t b).num := by
  have hd : (Int.gcd t b : Int) ∣ t := Int.gcd_dvd_left t b
  rw [Rat.num_divInt, Int.gcd_comm b t]
  unfold lowM
  split
  · rename_i h
    rw [Int.sign_eq_neg_one_of_neg h, Int.zero_sub]
    rw [Int.fdiv_eq_ediv_of_dvd (by rw [Int.neg_dvd]; exact hd), Int.ediv_neg]
    rw [Int.neg_one_mul, Int.neg_ediv_of_dvd hd]
  · rename_i h
    rw [Int.sign_eq_one_of_pos (by omega), Int.one_mul, Int.fdiv_eq_ediv_of_dvd hd]
theorem lowM_den {t b : Int} (hb : b ≠ 0) : b.fdiv (lowM t b) = (Rat.divInt t b).den := by
  have hd : (Int.gcd t b : Int) ∣ b := Int.gcd_dvd_right t b
  rw [Rat.den_divInt, if_neg hb, Int.gcd_comm b t]
  unfold lowM
  split
  · rename_i h
    rw [Int.zero_sub, Int.fdiv_eq_ediv_of_dvd (by rw [Int.neg_dvd]; exact hd), Int.ediv_neg, ← Int.neg_ediv_of_dvd hd]
    have : -b = (b.natAbs : Int) := by omega
    rw [this]
    rfl
  · rename_i h
    rw [Int.fdiv_eq_ediv_of_dvd hd]
    have : b = (b.natAbs : Int) := by omega
    rw [this]
    simp
theorem fr_low {t b : Int} (hb : b ≠ 0) : PyData.tuple [.int (t.fdiv (lowM t b)), .int (b.fdiv (lowM t b))] = fr (Rat.divInt t b) := by
  rw [lowM_num hb, lowM_den hb]
  rfl
theorem gcd_fmod (a b : Int) : Int.gcd b (a.fmod b) = Int.gcd a b := by
  rw [Int.fmod_def, Int.gcd_sub_mul_left_right, Int.gcd_comm]
theorem fmod_abs (a b : Int) (h : b ≠ 0) : (a.fmod b).natAbs < b.natAbs := by
  rcases Int.lt_or_gt_of_ne h with z | z
  · have h1 := Int.fmod_nonneg_of_pos (-a) (b := -b) (by omega)
    have h2 := Int.fmod_lt_of_pos (-a) (b := -b) (by omega)
    rw [Int.neg_fmod_neg] at h1 h2
    omega
  · have h1 := Int.fmod_nonneg_of_pos a z
    have h2 := Int.fmod_lt_of_pos a z
    omega
def dq (q : Rat) : Nat := bl q.den
theorem dq_hq (q : Rat) : dq q ≤ hq q := hq_den q
def Ok2 (q r : Rat) : Prop := dq q + dq r ≤ 9000 ∧ hq q + hq r ≤ 400000
def OkD (q r : Rat) : Prop := dq q + ib r.num ≤ 9000 ∧ hq q + hq r ≤ 400000
instance {q r : Rat} : Decidable (Ok2 q r) := by unfold Ok2; infer_instance
instance {q r : Rat} : Decidable (OkD q r) := by unfold OkD; infer_instance
theorem ok2_of {q r : Rat} (h : hq q + hq r ≤ 9000) : Ok2 q r := ⟨by have := dq_hq q; have := dq_hq r; omega, by omega⟩
theorem okD_of {q r : Rat} (h : hq q + hq r ≤ 9000) : OkD q r := ⟨by have := dq_hq q; have := hq_num r; omega, by omega⟩
theorem dq_den (q : Rat) : ib (q.den : Int) = dq q := ib_nat
theorem dq_bot (q r : Rat) : ib ((q.den : Int) * r.den) ≤ dq q + dq r := by
  have := ib_mul (i := (q.den : Int)) (j := r.den)
  rw [dq_den, dq_den] at this
  exact this
end L3
namespace L3
open PySem PySem.Spec PyProof.Rows L2
section
variable {κ : Type} [DecidableEq κ]
def kAt : List κ → κ → Option Nat
  | [], _ => none
  | x :: r, k => if x = k then some 0 else (kAt r k).map (· + 1)
theorem kAt_lt : ∀ {ks : List κ} {k : κ} {n : Nat}, kAt ks k = some n → ks[n]? = some k
  | [], k, n, h => by cases h
  | x :: r, k, n, h => by
    unfold kAt at h
    by_cases e : x = k
    · rw [if_pos e] at h; cases h; simp [e]
    · rw [if_neg e] at h
      obtain ⟨m, e1, e2⟩ := Option.map_eq_some_iff.mp h
      subst e2
      simpa using kAt_lt e1
theorem kAt_none : ∀ {ks : List κ} {k : κ}, kAt ks k = none → k ∉ ks
  | [], k, h => by simp
  | x :: r, k, h => by
    unfold kAt at h
    by_cases e : x = k
    · rw [if_pos e] at h; cases h
    · rw [if_neg e] at h
      simp at h
      simp [kAt_none h, Ne.symm e]
theorem valV_at : ∀ {kvs : List (κ × V)} {k : κ} {n : Nat}, kAt (kvs.map Prod.fst) k = some n → ∃ v, kvs[n]? = some (k, v) ∧ valV kvs k = some v
  | [], k, n, h => by cases h
  | p :: r, k, n, h => by
    unfold kAt at h
    simp only [List.map_cons] at h
    by_cases e : p.1 = k
    · rw [if_pos e] at h; cases h
      exact ⟨p.2, by simp [← e], valV_pos e⟩
    · rw [if_neg e] at h
      obtain ⟨m, e1, e2⟩ := Option.map_eq_some_iff.mp h
      subst e2
      obtain ⟨v, h1, h2⟩ := valV_at e1
      exact ⟨v, by simpa using h1, by rw [valV_neg e]; exact h2⟩
theorem valV_no : ∀ {kvs : List (κ × V)} {k : κ}, kAt (kvs.map Prod.fst) k = none → valV kvs k = none
  | [], k, h => rfl
  | p :: r, k, h => by
    unfold kAt at h
    simp only [List.map_cons] at h
    by_cases e : p.1 = k
    · rw [if_pos e] at h; cases h
    · rw [if_neg e] at h
      simp at h
      rw [valV_neg e]
      exact valV_no h
theorem repl_none {k : κ} {v : V} : ∀ {kvs : List (κ × V)}, k ∉ kvs.map Prod.fst → kvs.map (fun kv => if kv.1 = k then (kv.1, v) else kv) = kvs
  | [], h => rfl
  | p :: r, h => by
    simp only [List.map_cons, List.mem_cons, not_or] at h
    rw [List.map_cons, if_neg (Ne.symm h.1), repl_none h.2]
theorem repl_at : ∀ {kvs : List (κ × V)} {k : κ} {n : Nat} {v : V}, (kvs.map Prod.fst).Nodup → kAt (kvs.map Prod.fst) k = some n →
    (kvs.map (fun kv => if kv.1 = k then (kv.1, v) else kv)).map Prod.fst = kvs.map Prod.fst ∧ (kvs.map (fun kv => if kv.1 = k then (kv.1, v) else kv)).map Prod.snd = (kvs.map Prod.snd).set n v
  | [], k, n, v, d, h => by cases h
  | p :: r, k, n, v, d, h => by
    unfold kAt at h
    simp only [List.map_cons] at h d
    by_cases e : p.1 = k
    · rw [if_pos e] at h; cases h
      have hn : k ∉ r.map Prod.fst := by rw [← e]; exact (List.nodup_cons.mp d).1
      rw [List.map_cons, if_pos e, repl_none hn]
      exact ⟨rfl, rfl⟩
    · rw [if_neg e] at h
      obtain ⟨m, e1, e2⟩ := Option.map_eq_some_iff.mp h
      subst e2
      obtain ⟨h1, h2⟩ := repl_at (v := v) (List.nodup_cons.mp d).2 e1
      rw [List.map_cons, if_neg e]
      simp only [List.map_cons, List.set_cons_succ]
      rw [h1, h2]
      exact ⟨rfl, rfl⟩
theorem putK_at {kvs : List (κ × V)} {k : κ} {n : Nat} {v : V} (d : (kvs.map Prod.fst).Nodup) (h : kAt (kvs.map Prod.fst) k = some n) : (putK kvs k v).map Prod.fst = kvs.map Prod.fst ∧ (putK kvs k v).map Prod.snd = (kvs.map Prod.snd).set n v := by
  unfold putK
  obtain ⟨u, h1, h2⟩ := valV_at h
  rw [valV_any, h2]
  simp only [Option.isSome_some, if_true]
  exact repl_at d h
end
def PyData.key : PyData → Option Key
  | .int i => some (.inl i)
  | .str x => some (.inr x)
  | _ => none
def T.key : T → Option Key
  | .d x => PyData.key x
  | _ => none
theorem key_rp {K : PySem.W.Frag} {F : Addr → Prop} {H : Hp} {v : V} {t : T} {A : List Addr} {k : Key} (h : Rp K F H v t A) (e : t.key = some k) : v = kV k := by
  cases h with
  | d h =>
    cases h with
    | int i => cases e; rfl
    | str x => cases e; rfl
    | _ => cases e
  | _ => cases e
inductive PK where
  | ix (j : Int) | key (k : Key) | fld (f : Str)
def T.atK : List PK → T → Option T
  | [], t => some t
  | .ix j :: r, .ol ts => (atI ts j).bind (T.atK r)
  | .ix j :: r, .ot ts => (atI ts j).bind (T.atK r)
  | .key k :: r, .od ks ts => (kAt ks k).bind fun n => (ts[n]?).bind (T.atK r)
  | .key k :: r, .fd _ ks ts => (kAt ks k).bind fun n => (ts[n]?).bind (T.atK r)
  | .fld f :: r, .ob _ fs ts => (kAt fs f).bind fun n => (ts[n]?).bind (T.atK r)
  | _ :: _, _ => none
def T.putK? : List PK → T → T → Option T
  | [], n, _ => some n
  | .ix j :: r, n, .ol ts => (ixN ts.length j).bind fun k => (ts[k]?).bind fun t => (T.putK? r n t).map fun t' => .ol (ts.set k t')
  | .ix j :: r, n, .ot ts => (ixN ts.length j).bind fun k => (ts[k]?).bind fun t => (T.putK? r n t).map fun t' => .ot (ts.set k t')
  | .key k :: r, n, .od ks ts => (kAt ks k).bind fun m => (ts[m]?).bind fun t => (T.putK? r n t).map fun t' => .od ks (ts.set m t')
  | .key k :: r, n, .fd a ks ts => (kAt ks k).bind fun m => (ts[m]?).bind fun t => (T.putK? r n t).map fun t' => .fd a ks (ts.set m t')
  | .fld f :: r, n, .ob x fs ts => (kAt fs f).bind fun m => (ts[m]?).bind fun t => (T.putK? r n t).map fun t' => .ob x fs (ts.set m t')
  | _ :: _, _, _ => none
inductive LocK (H : Hp) : V → List PK → V → Prop
  | here (v : V) : LocK H v [] v
  | lst {a : Addr} {vs : List V} {j : Int} {js : List PK} {v u : V} : H a = some (.lst vs) → atI vs j = some v → LocK H v js u → LocK H (.ref a) (.ix j :: js) u
  | tup {a : Addr} {vs : List V} {j : Int} {js : List PK} {v u : V} : H a = some (.tup vs) → atI vs j = some v → LocK H v js u → LocK H (.ref a) (.ix j :: js) u
  | dic {a : Addr} {kvs : List (Key × V)} {k : Key} {js : List PK} {v u : V} : H a = some (.dK kvs) → valV kvs k = some v → LocK H v js u → LocK H (.ref a) (.key k :: js) u
  | dif {a : Addr} {o : Obj} {kvs : List (Key × V)} {k : Key} {js : List PK} {v u : V} : H a = some (.frz o (.dK kvs)) → valV kvs k = some v → LocK H v js u → LocK H (.ref a) (.key k :: js) u
  | ins {a C dx : Addr} {kvs : List (Str × V)} {f : Str} {js : List PK} {v u : V} : H a = some (.ins C dx kvs) → kvs.lookup f = some v → LocK H v js u → LocK H (.ref a) (.fld f :: js) u
theorem LocK.uniq {H : Hp} : ∀ {v : V} {p : List PK} {u u' : V}, LocK H v p u → LocK H v p u' → u = u'
  | _, _, _, _, .here _, .here _ => rfl
  | _, _, _, _, .lst h1 h2 h3, .lst g1 g2 g3 => by
    rw [h1] at g1; cases g1
    rw [h2] at g2; cases g2
    exact h3.uniq g3
  | _, _, _, _, .tup h1 h2 h3, .tup g1 g2 g3 => by
    rw [h1] at g1; cases g1
    rw [h2] at g2; cases g2
    exact h3.uniq g3
  | _, _, _, _, .lst h1 _ _, .tup g1 _ _ => by rw [h1] at g1; cases g1
  | _, _, _, _, .tup h1 _ _, .lst g1 _ _ => by rw [h1] at g1; cases g1
  | _, _, _, _, .dic h1 h2 h3, .dic g1 g2 g3 => by
    rw [h1] at g1; cases g1
    rw [h2] at g2; cases g2
    exact h3.uniq g3
  | _, _, _, _, .dif h1 h2 h3, .dif g1 g2 g3 => by
    rw [h1] at g1; cases g1
    rw [h2] at g2; cases g2
    exact h3.uniq g3
  | _, _, _, _, .dic h1 _ _, .dif g1 _ _ => by rw [h1] at g1; cases g1
  | _, _, _, _, .dif h1 _ _, .dic g1 _ _ => by rw [h1] at g1; cases g1
  | _, _, _, _, .ins h1 h2 h3, .ins g1 g2 g3 => by
    rw [h1] at g1; cases g1
    rw [h2] at g2; cases g2
    exact h3.uniq g3
theorem LocK.grow {H H' : Hp} (s : Same H H') : ∀ {v : V} {p : List PK} {u : V}, LocK H v p u → LocK H' v p u
  | _, _, _, .here v => .here v
  | _, _, _, .lst h1 h2 h3 => .lst (s _ _ h1) h2 (h3.grow s)
  | _, _, _, .tup h1 h2 h3 => .tup (s _ _ h1) h2 (h3.grow s)
  | _, _, _, .dic h1 h2 h3 => .dic (s _ _ h1) h2 (h3.grow s)
  | _, _, _, .dif h1 h2 h3 => .dif (s _ _ h1) h2 (h3.grow s)
  | _, _, _, .ins h1 h2 h3 => .ins (s _ _ h1) h2 (h3.grow s)
theorem LocK.snoc {H : Hp} : ∀ {v : V} {p : List PK} {u w : V} {j : PK}, LocK H v p u → LocK H u [j] w → LocK H v (p ++ [j]) w
  | _, _, _, _, _, .here v, k => k
  | _, _, _, _, _, .lst h1 h2 h3, k => .lst h1 h2 (h3.snoc k)
  | _, _, _, _, _, .tup h1 h2 h3, k => .tup h1 h2 (h3.snoc k)
  | _, _, _, _, _, .dic h1 h2 h3, k => .dic h1 h2 (h3.snoc k)
  | _, _, _, _, _, .dif h1 h2 h3, k => .dif h1 h2 (h3.snoc k)
  | _, _, _, _, _, .ins h1 h2 h3, k => .ins h1 h2 (h3.snoc k)
theorem lookup_at : ∀ {kvs : List (Str × V)} {f : Str} {n : Nat}, kAt (kvs.map Prod.fst) f = some n → ∃ v, kvs[n]? = some (f, v) ∧ kvs.lookup f = some v
  | [], k, n, h => by cases h
  | p :: r, k, n, h => by
    unfold kAt at h
    simp only [List.map_cons] at h
    by_cases e : p.1 = k
    · rw [if_pos e] at h; cases h
      refine ⟨p.2, by simp [← e], ?_⟩
      obtain ⟨g, x⟩ := p
      have e : g = k := e
      subst e
      simp [List.lookup_cons]
    · rw [if_neg e] at h
      obtain ⟨m, e1, e2⟩ := Option.map_eq_some_iff.mp h
      subst e2
      obtain ⟨v, h1, h2⟩ := lookup_at e1
      refine ⟨v, by simpa using h1, ?_⟩
      obtain ⟨g, x⟩ := p
      have : (k == g) = false := by simp; exact Ne.symm e
      rw [List.lookup_cons, this]
      exact h2
section
variable {K : PySem.W.Frag} {F F' : Addr → Prop} {H H' : Hp}
theorem Rp.locK : ∀ {p : List PK} {v0 : V} {t0 t : T} {A0 : List Addr}, Rp K F H v0 t0 A0 → T.atK p t0 = some t → ∃ (v : V) (A1 B : List Addr), LocK H v0 p v ∧ Rp K F H v t A1 ∧ (∀ a, A0.count a = A1.count a + B.count a) ∧
    ∀ {F' : Addr → Prop} {H' : Hp}, Mono F F' H H' → (∀ a ∈ B, H' a = H a) → ∀ {t' : T} {A2 : List Addr}, Rp K F' H' v t' A2 → ∃ t0' C, T.putK? p t' t0 = some t0' ∧ Rp K F' H' v0 t0' C ∧ ∀ a, C.count a = A2.count a + B.count a
  | [], v0, t0, t, A0, h, e => by
    cases e
    exact ⟨v0, A0, [], .here v0, h, fun a => by simp, fun m k t' A2 x => ⟨t', A2, rfl, x, fun a => by simp⟩⟩
  | .ix j :: js, _, .ol ts, t, _, .ol (a := a0) (vs := vs) (A := A1) h r, e => by
    obtain ⟨t1, e1, e2⟩ := Option.bind_eq_some_iff.mp (show (atI ts j).bind (T.atK js) = some t from e)
    obtain ⟨k, ek, ev⟩ := atI_ix e1
    obtain ⟨v1, A2, B2, g1, g2, g3, g4⟩ := r.around ev
    obtain ⟨v, A3, B3, l, x, hc, pt⟩ := Rp.locK g2 e2
    have lv : atI vs j = some v1 := by
      show (ixN vs.length j).bind (fun k => vs[k]?) = _
      rw [r.len, ek]; exact g1
    refine ⟨v, A3, a0 :: (B3 ++ B2), .lst h lv l, x, fun a => by rw [List.count_cons, List.count_cons, List.count_append, g3 a, hc a]; omega, fun {F' H'} m kk t' A4 y => ?_⟩
    have k2 : ∀ a ∈ B2, H' a = H a := fun a ha => kk a (List.mem_cons_of_mem _ (List.mem_append_right _ ha))
    have k3 : ∀ a ∈ B3, H' a = H a := fun a ha => kk a (List.mem_cons_of_mem _ (List.mem_append_left _ ha))
    obtain ⟨t1', C, q1, q2, q3⟩ := pt m k3 y
    obtain ⟨C2, s, q4⟩ := g4.put m k2 q2
    have es : vs.set k v1 = vs := set_self g1
    rw [es] at s
    refine ⟨.ol (ts.set k t1'), a0 :: C2, ?_, .ol ((kk a0 List.mem_cons_self).trans h) s, fun a => by rw [List.count_cons, List.count_cons, List.count_append, q4 a, q3 a]; omega⟩
    show (ixN ts.length j).bind _ = _
    rw [ek]
    show (ts[k]?).bind _ = _
    rw [ev]
    show (T.putK? js t' t1).map _ = _
    rw [q1]
    rfl
  | .ix j :: js, _, .ot ts, t, _, .ot (a := a0) (vs := vs) (A := A1) h r, e => by
    obtain ⟨t1, e1, e2⟩ := Option.bind_eq_some_iff.mp (show (atI ts j).bind (T.atK js) = some t from e)
    obtain ⟨k, ek, ev⟩ := atI_ix e1
    obtain ⟨v1, A2, B2, g1, g2, g3, g4⟩ := r.around ev
    obtain ⟨v, A3, B3, l, x, hc, pt⟩ := Rp.locK g2 e2
    have lv : atI vs j = some v1 := by
      show (ixN vs.length j).bind (fun k => vs[k]?) = _
      rw [r.len, ek]; exact g1
    refine ⟨v, A3, B3 ++ B2, .tup h lv l, x, fun a => by rw [List.count_append, g3 a, hc a]; omega, fun {F' H'} m kk t' A4 y => ?_⟩
    have k2 : ∀ a ∈ B2, H' a = H a := fun a ha => kk a (List.mem_append_right _ ha)
    have k3 : ∀ a ∈ B3, H' a = H a := fun a ha => kk a (List.mem_append_left _ ha)
    obtain ⟨t1', C, q1, q2, q3⟩ := pt m k3 y
    obtain ⟨C2, s, q4⟩ := g4.put m k2 q2
    have es : vs.set k v1 = vs := set_self g1
    rw [es] at s
    refine ⟨.ot (ts.set k t1'), C2, ?_, .ot (m.still _ _ h trivial) s, fun a => by rw [q4 a, q3 a, List.count_append]; omega⟩
    show (ixN ts.length j).bind _ = _
    rw [ek]
    show (ts[k]?).bind _ = _
    rw [ev]
    show (T.putK? js t' t1).map _ = _
    rw [q1]
    rfl
  | .key k :: js, _, .od ks ts, t, _, .od (a := a0) (kvs := kvs) (A := A1) h e0 dd r, e => by
    obtain ⟨n, en, e⟩ := Option.bind_eq_some_iff.mp (show (kAt ks k).bind (fun n => (ts[n]?).bind (T.atK js)) = some t from e)
    obtain ⟨t1, ev, e2⟩ := Option.bind_eq_some_iff.mp e
    obtain ⟨v1, A2, B2, g1, g2, g3, g4⟩ := r.around ev
    obtain ⟨v, A3, B3, l, x, hc, pt⟩ := Rp.locK g2 e2
    have lv : valV kvs k = some v1 := by
      obtain ⟨u, h1, h2⟩ := valV_at (kvs := kvs) (k := k) (n := n) (by rw [e0]; exact en)
      rw [List.getElem?_map, h1] at g1
      cases g1
      exact h2
    refine ⟨v, A3, a0 :: (B3 ++ B2), .dic h lv l, x, fun a => by rw [List.count_cons, List.count_cons, List.count_append, g3 a, hc a]; omega, fun {F' H'} m kk t' A4 y => ?_⟩
    have k2 : ∀ a ∈ B2, H' a = H a := fun a ha => kk a (List.mem_cons_of_mem _ (List.mem_append_right _ ha))
    have k3 : ∀ a ∈ B3, H' a = H a := fun a ha => kk a (List.mem_cons_of_mem _ (List.mem_append_left _ ha))
    obtain ⟨t1', C, q1, q2, q3⟩ := pt m k3 y
    obtain ⟨C2, s, q4⟩ := g4.put m k2 q2
    have es : (kvs.map Prod.snd).set n v1 = kvs.map Prod.snd := set_self g1
    rw [es] at s
    refine ⟨.od ks (ts.set n t1'), a0 :: C2, ?_, .od ((kk a0 List.mem_cons_self).trans h) e0 dd s, fun a => by rw [List.count_cons, List.count_cons, List.count_append, q4 a, q3 a]; omega⟩
    show (kAt ks k).bind _ = _
    rw [en]
    show (ts[n]?).bind _ = _
    rw [ev]
    show (T.putK? js t' t1).map _ = _
    rw [q1]
    rfl
  | .key k :: js, _, .fd _ ks ts, t, _, .fd (a := a0) (kvs := kvs) (A := A1) h e0 dd r, e => by
    obtain ⟨n, en, e⟩ := Option.bind_eq_some_iff.mp (show (kAt ks k).bind (fun n => (ts[n]?).bind (T.atK js)) = some t from e)
    obtain ⟨t1, ev, e2⟩ := Option.bind_eq_some_iff.mp e
    obtain ⟨v1, A2, B2, g1, g2, g3, g4⟩ := r.around ev
    obtain ⟨v, A3, B3, l, x, hc, pt⟩ := Rp.locK g2 e2
    have lv : valV kvs k = some v1 := by
      obtain ⟨u, h1, h2⟩ := valV_at (kvs := kvs) (k := k) (n := n) (by rw [e0]; exact en)
      rw [List.getElem?_map, h1] at g1
      cases g1
      exact h2
    refine ⟨v, A3, B3 ++ B2, .dif h lv l, x, fun a => by rw [List.count_append, g3 a, hc a]; omega, fun {F' H'} m kk t' A4 y => ?_⟩
    have k2 : ∀ a ∈ B2, H' a = H a := fun a ha => kk a (List.mem_append_right _ ha)
    have k3 : ∀ a ∈ B3, H' a = H a := fun a ha => kk a (List.mem_append_left _ ha)
    obtain ⟨t1', C, q1, q2, q3⟩ := pt m k3 y
    obtain ⟨C2, s, q4⟩ := g4.put m k2 q2
    have es : (kvs.map Prod.snd).set n v1 = kvs.map Prod.snd := set_self g1
    rw [es] at s
    refine ⟨.fd a0 ks (ts.set n t1'), C2, ?_, .fd (m.still _ _ h trivial) e0 dd s, fun a => by rw [q4 a, q3 a, List.count_append]; omega⟩
    show (kAt ks k).bind _ = _
    rw [en]
    show (ts[n]?).bind _ = _
    rw [ev]
    show (T.putK? js t' t1).map _ = _
    rw [q1]
    rfl
  | .fld k :: js, _, .ob _ ks ts, t, _, .ob (a := a0) (x := xn) (kvs := kvs) (A := A1) h ec e0 r, e => by
    obtain ⟨n, en, e⟩ := Option.bind_eq_some_iff.mp (show (kAt ks k).bind (fun n => (ts[n]?).bind (T.atK js)) = some t from e)
    obtain ⟨t1, ev, e2⟩ := Option.bind_eq_some_iff.mp e
    obtain ⟨v1, A2, B2, g1, g2, g3, g4⟩ := r.around ev
    obtain ⟨v, A3, B3, l, x, hc, pt⟩ := Rp.locK g2 e2
    have lv : kvs.lookup k = some v1 := by
      obtain ⟨u, h1, h2⟩ := lookup_at (kvs := kvs) (f := k) (n := n) (by rw [e0]; exact en)
      rw [List.getElem?_map, h1] at g1
      cases g1
      exact h2
    refine ⟨v, A3, a0 :: (B3 ++ B2), .ins h lv l, x, fun a => by rw [List.count_cons, List.count_cons, List.count_append, g3 a, hc a]; omega, fun {F' H'} m kk t' A4 y => ?_⟩
    have k2 : ∀ a ∈ B2, H' a = H a := fun a ha => kk a (List.mem_cons_of_mem _ (List.mem_append_right _ ha))
    have k3 : ∀ a ∈ B3, H' a = H a := fun a ha => kk a (List.mem_cons_of_mem _ (List.mem_append_left _ ha))
    obtain ⟨t1', C, q1, q2, q3⟩ := pt m k3 y
    obtain ⟨C2, s, q4⟩ := g4.put m k2 q2
    have es : (kvs.map Prod.snd).set n v1 = kvs.map Prod.snd := set_self g1
    rw [es] at s
    refine ⟨.ob xn ks (ts.set n t1'), a0 :: C2, ?_, .ob ((kk a0 List.mem_cons_self).trans h) ec e0 s, fun a => by rw [List.count_cons, List.count_cons, List.count_append, q4 a, q3 a]; omega⟩
    show (kAt ks k).bind _ = _
    rw [en]
    show (ts[n]?).bind _ = _
    rw [ev]
    show (T.putK? js t' t1).map _ = _
    rw [q1]
    rfl
  | .ix _ :: _, _, .d _, _, _, _, e => by cases e
  | .ix _ :: _, _, .no _, _, _, _, e => by cases e
  | .ix _ :: _, _, .fk _ _ _, _, _, _, e => by cases e
  | .ix _ :: _, _, .od _ _, _, _, _, e => by cases e
  | .ix _ :: _, _, .fd _ _ _, _, _, _, e => by cases e
  | .ix _ :: _, _, .ob _ _ _, _, _, _, e => by cases e
  | .ix _ :: _, _, .rd _, _, _, _, e => by cases e
  | .ix _ :: _, _, .ex _, _, _, _, e => by cases e
  | .key _ :: _, _, .d _, _, _, _, e => by cases e
  | .key _ :: _, _, .no _, _, _, _, e => by cases e
  | .key _ :: _, _, .fk _ _ _, _, _, _, e => by cases e
  | .key _ :: _, _, .ol _, _, _, _, e => by cases e
  | .key _ :: _, _, .ot _, _, _, _, e => by cases e
  | .key _ :: _, _, .ob _ _ _, _, _, _, e => by cases e
  | .key _ :: _, _, .rd _, _, _, _, e => by cases e
  | .key _ :: _, _, .ex _, _, _, _, e => by cases e
  | .fld _ :: _, _, .d _, _, _, _, e => by cases e
  | .fld _ :: _, _, .no _, _, _, _, e => by cases e
  | .fld _ :: _, _, .fk _ _ _, _, _, _, e => by cases e
  | .fld _ :: _, _, .ol _, _, _, _, e => by cases e
  | .fld _ :: _, _, .ot _, _, _, _, e => by cases e
  | .fld _ :: _, _, .od _ _, _, _, _, e => by cases e
  | .fld _ :: _, _, .fd _ _ _, _, _, _, e => by cases e
  | .fld _ :: _, _, .rd _, _, _, _, e => by cases e
  | .fld _ :: _, _, .ex _, _, _, _, e => by cases e
end
end L3
namespace L3
open PySem PySem.Spec PyProof.Rows L2
section
variable {X : Cx} {E : Str → Hp → Prop} {e a b : Expr} {te ta tb : TE} {m ma mb : MP} {pos : Pos}
end
abbrev MLK := Env → Option (List PK)
def SimLK (K : PySem.W.Frag) (i : Nat) (te : TE) (mp : MLK) : Prop :=
  ∀ (c : C0) (H : Hp) (tv : List (Option V)) (td : Env) (σ : L2.St) (ρ : Env) (A : List Addr) (p : List PK) (t0 t : T), tv.length = td.length → StW K c H (tv ++ σ) (td ++ ρ) A → mp ρ = some p → ρ[i]? = some (some t0) → T.atK p t0 = some t → ∀ Q : VK,
    (∀ v0 v, σ[i]? = some (some v0) → LocK H v0 p v → Q v H) → te σ H Q
structure QLK (X : Cx) (i : Nat) (e : Expr) (te : TE) (mp : MLK) : Prop where
  pe : PE X e te
  sim : SimLK X.K i te mp
def kHere : MLK := fun _ => some []
section
variable {X : Cx} {E : Str → Hp → Prop} {a b : Expr} {ta tb : TE} {pos : Pos}
theorem qk_name (i : Nat) {x : Str} {pos : Pos} (hN : X.N[i]? = some x := by rfl) (hv : Vis X.env.scope x := by first | exact Or.inl rfl | exact Or.inr (Or.inl rfl) | exact Or.inr (Or.inr rfl)) (hd : (x == ("__debug__" : Str)) = false := by decide)
    (hcd : (x == ("__classdict__" : Str)) = false := by decide) : QLK X i (.Name x pos) (tVar i) kHere := ⟨pe_var hN hv hd hcd, fun c H tv td σ ρ A p t0 t hl w e1 e2 e3 Q q => by
  cases e1
  obtain ⟨v, A1, e4, _, _⟩ := w.see hl e2
  exact ⟨v, e4, q v v e4 (.here v)⟩⟩
end
def putAtK (i : Nat) (p : List PK) (tc : T) (ρ : Env) : Option Env := match ρ[i]? with
  | some (some t) => (T.putK? p tc t).map fun t' => ρ.set i (some t')
  | _ => none
def atKo (p : List PK) (o : Option (Option T)) : Option T := match o with
  | some (some t) => T.atK p t
  | _ => none
theorem atKo_some {p : List PK} {o : Option (Option T)} {tc : T} (h : atKo p o = some tc) : ∃ t, o = some (some t) ∧ T.atK p t = some tc := by
  unfold atKo at h
  split at h
  · exact ⟨_, rfl, h⟩
  · cases h
theorem StW.writeG {K : PySem.W.Frag} {c : C0} {H : Hp} {tv : List (Option V)} {td : Env} {σ : L2.St} {ρ : Env} {A Aa B : List Addr} (hl : tv.length = td.length) (u : ∀ a, A.count a ≤ 1) (ow : ∀ a ∈ A, a ∈ c.A0 ∨ c.H0 a = none) (k : KeepC c H) (hc : ∀ a, Aa.count a + B.count a ≤ A.count a)
    (s : Sl K (Fok c A) H (tv ++ σ) (td ++ ρ) B) {i : Nat} {p : List PK} {t0 tc : T} (e0 : ρ[i]? = some (some t0)) (e1 : T.atK p t0 = some tc) :
    ∃ (v0 v : V) (Al : List Addr), σ[i]? = some (some v0) ∧ LocK H v0 p v ∧ Rp K (Fok c A) H v tc Al ∧
      ∀ (a : Addr) (o' : HO) (A1 : List Addr), v = .ref a → (∀ b, Al.count b = (a :: A1).count b) → ∀ (res : V) (tr tc' : T) (C1 C2 : List Addr) (ρ' : Env), Rp K (Fok c A) H res tr C1 →
        (∀ {F' : Addr → Prop} {H' : Hp}, Mono (Fok c A) F' H H' → (∀ b ∈ C2, H' b = H b) → H' a = some o' → Rp K F' H' (.ref a) tc' (a :: C2)) → (∀ b, C1.count b + C2.count b ≤ A1.count b + Aa.count b) → putAtK i p tc' ρ = some ρ' →
        StR K c (upd H a o') (some res :: (tv ++ σ)) (some tr :: (td ++ ρ')) := by
  have hlen := s.len
  have hi : i < ρ.length := (List.getElem?_eq_some_iff.mp e0).1
  obtain ⟨B1, hb, ar, get⟩ := s.around (i := tv.length + i) (by rw [hlen, List.length_append]; omega)
  obtain ⟨v0, A0, e3, x, hc1⟩ := get t0 (by rw [app_at hl.symm, e0])
  rw [app_at rfl] at e3
  obtain ⟨v, Al, Bl, l, xl, hc2, pt⟩ := x.locK e1
  refine ⟨v0, v, Al, e3, l, xl, fun a o' A1 ev hal res tr tc' C1 C2 ρ' xr xs hC ep => ?_⟩
  subst ev
  have cc : ∀ b, Al.count b = A1.count b + (if a = b then 1 else 0) := fun b => by
    rw [hal, List.count_cons]
    by_cases e : a = b
    · simp [e]
    · simp [e]
  have tot : ∀ b, A1.count b + (if a = b then 1 else 0) + Bl.count b + B1.count b + Aa.count b ≤ A.count b := fun b => by
    have h1 := hc b
    have h2 := hc1 b
    have h3 := hc2 b
    have h4 := cc b
    omega
  have aA : a ∈ A := List.count_pos_iff.mp (by have := tot a; rw [if_pos rfl] at this; omega)
  obtain ⟨u0, ha, nst⟩ := xl.own a (List.count_pos_iff.mp (by have := cc a; rw [if_pos rfl] at this; omega))
  have ne : ∀ {C : List Addr}, (∀ b, C.count b + (if a = b then 1 else 0) ≤ A.count b) → ∀ b ∈ C, b ≠ a := fun {C} h b hb e => by
    subst e
    have h1 := h b
    have h2 := u b
    have h3 := List.count_pos_iff.mpr hb
    rw [if_pos rfl] at h1
    omega
  let H2 := upd H a o'
  have mo : Mono (Fok c A) (Fok c A) H H2 := ⟨fun b ws e f => ⟨by show upd H a _ b = _; rw [upd_ne (fun z => f.2 (by rw [z]; exact aA))]; exact e, f⟩, fun b uu e st => by
    show upd H a _ b = _
    rw [upd_ne (fun z => by rw [z, ha] at e; cases e; exact nst st)]
    exact e⟩
  have eqs : ∀ {C : List Addr}, (∀ b ∈ C, b ≠ a) → ∀ b ∈ C, H2 b = H b := fun h b hb => upd_ne (h b hb)
  have nC1 : ∀ b ∈ C1, b ≠ a := ne fun b => by have := hC b; have := tot b; omega
  have nC2 : ∀ b ∈ C2, b ≠ a := ne fun b => by have := hC b; have := tot b; omega
  have nBl : ∀ b ∈ Bl, b ≠ a := ne fun b => by have := tot b; omega
  have nB1 : ∀ b ∈ B1, b ≠ a := ne fun b => by have := tot b; omega
  obtain ⟨t0', C3, q1, q2, q3⟩ := pt mo (eqs nBl) (t' := tc') (A2 := a :: C2) (xs mo (eqs nC2) upd_same)
  obtain ⟨C4, s4, q4⟩ := ar.put mo (eqs nB1) q2
  rw [app_set rfl, set_self e3, app_set hl.symm] at s4
  have er : ρ' = ρ.set i (some t0') := by
    unfold putAtK at ep
    rw [e0] at ep
    dsimp only at ep
    rw [q1] at ep
    cases ep
    rfl
  subst er
  have fin : ∀ b, (C1 ++ C4).count b ≤ A.count b := fun b => by
    have h1 := q4 b
    have h2 := q3 b
    have h3 := hC b
    have h4 := tot b
    rw [List.count_append]
    rw [List.count_cons] at h2
    by_cases e : a = b
    · simp [e] at h2 h4; omega
    · simp [e] at h2 h4; omega
  refine ⟨C1 ++ C4, fun b => Nat.le_trans (fin b) (u b), ?_, fun b hb => ow b (List.count_pos_iff.mp (Nat.lt_of_lt_of_le (List.count_pos_iff.mpr hb) (fin b))), ⟨fun b o e n => ?_, fun b e => ?_⟩⟩
  · exact (Sl.cons (xr.mono mo (eqs nC1)) s4).mono (.sub fun b _ => Fok.sub fin b) fun _ _ => rfl
  · rw [upd_ne]
    · exact k.keep b o e n
    · intro z
      subst z
      rcases ow b aA with y | y
      · exact n y
      · rw [e] at y; cases y
  · by_cases z : b = a
    · subst z
      rw [upd_same] at e; cases e
    · rw [upd_ne z] at e
      exact k.there b e
def putT (ks : List Key) (ts : List T) (k : Key) (t : T) : List Key × List T := match kAt ks k with
  | some n => (ks, ts.set n t)
  | none => (ks ++ [k], ts ++ [t])
def mKeySet (i : Nat) (mp : MLK) (mk : MP) (me : MEx) : MS := fun ρ => (me ρ).bind fun r => (ofO (mp r.2)).bind fun p => (ofO ((mk r.2).bind T.key)).bind fun k => (ofO (atKo p r.2[i]?)).bind fun tc => match tc with
  | .od ks ts => guard (decide (ks.length < sLine)) ((ofO (putAtK i p (.od (putT ks ts k r.1).1 (putT ks ts k r.1).2) r.2)).bind fun ρ' => .ok (.next ρ'))
  | _ => .bad
theorem RpAll.snoc2 {K : PySem.W.Frag} {F : Addr → Prop} {H : Hp} {vs : List V} {ts : List T} {A B : List Addr} {v : V} {t : T} (r : RpAll K F H vs ts A) (x : Rp K F H v t B) : ∃ C, RpAll K F H (vs ++ [v]) (ts ++ [t]) C ∧ ∀ a, C.count a ≤ A.count a + B.count a := by
  obtain ⟨C, s, z⟩ := r.append (.cons x .nil)
  exact ⟨C, s, fun a => by rw [z a]; simp⟩
theorem put_od {K : PySem.W.Frag} {F : Addr → Prop} {H : Hp} {a : Addr} {kvs : List (Key × V)} {ks : List Key} {ts : List T} {A1 Aa : List Addr} {k : Key} {v : V} {t : T} (e0 : kvs.map Prod.fst = ks) (dd : ks.Nodup) (r : RpAll K F H (kvs.map Prod.snd) ts A1) (x : Rp K F H v t Aa) :
    ∃ C2, (∀ b, C2.count b ≤ A1.count b + Aa.count b) ∧ ∀ {F' : Addr → Prop} {H' : Hp}, Mono F F' H H' → (∀ b ∈ C2, H' b = H b) → H' a = some (.dK (putK kvs k v)) → Rp K F' H' (.ref a) (.od (putT ks ts k t).1 (putT ks ts k t).2) (a :: C2) := by
  unfold putT
  cases e : kAt ks k with
  | some n =>
    have hn : n < ts.length := by
      have h1 := kAt_lt e
      have h2 := (List.getElem?_eq_some_iff.mp h1).1
      have h3 := r.len
      rw [← e0] at h2
      simp at h2 h3
      omega
    obtain ⟨C, s, z⟩ := r.setk n hn x
    obtain ⟨g1, g2⟩ := putK_at (v := v) (by rw [e0]; exact dd) (by rw [e0]; exact e)
    refine ⟨C, fun b => z b, fun m hk ha => .od ha (g1.trans e0) dd ?_⟩
    rw [g2]
    exact s.mono m hk
  | none =>
    obtain ⟨C, s, z⟩ := r.snoc2 x
    have hv : valV kvs k = none := valV_no (by rw [e0]; exact e)
    refine ⟨C, fun b => z b, fun m hk ha => .od ha (ks := ks ++ [k]) (ts := ts ++ [t]) ?_ ?_ ?_⟩
    · rw [putK_new v hv, List.map_append, e0]; rfl
    · rw [List.nodup_append]
      exact ⟨dd, by simp, fun x hx y hy z => kAt_none e (by simp at hy; rw [← hy, ← z]; exact hx)⟩
    · rw [putK_new v hv, List.map_append]
      exact s.mono m hk
section
variable {X : Cx} {E : Str → Hp → Prop} {io : List Nat} {o k value : Expr} {to tk tv' : TE} {pos pos' : Pos}
theorem qs_keySet {i : Nat} {mp : MLK} {mk : MP} {me : MEx} {g : Bool} (hu : X.A.units + 1 < cLine) (ho : QLK X i o to mp) (hk : QP X k tk mk) (hv : QE X E g value tv' me) (hs : swapsWith value (some (.Subscript o k pos')) pos.line X.env = pure false := by rfl) :
    QS X E io (.Assign [.Subscript o k pos'] value pos) (sDPut to tk tv') (mKeySet i mp mk me) := by
  refine ⟨ps_dput hu ho.pe hk.pe hv.pe hs, fun c H tv td σ ρ hl st D q => ?_⟩
  unfold mKeySet at q
  refine hv.sim c H tv td σ ρ hl st _ ((then_bind.mp q).imp fun r q v H1 _ st1 => ?_)
  obtain ⟨p, e1, q⟩ := then_ofO.mp (then_bind.mp q)
  obtain ⟨kk, e2', q⟩ := then_ofO.mp (then_bind.mp q)
  obtain ⟨tj, e2, e20⟩ := Option.bind_eq_some_iff.mp e2'
  obtain ⟨tc, e3, q⟩ := then_ofO.mp (then_bind.mp q)
  obtain ⟨t0, e6, e7⟩ := atKo_some e3
  cases tc with
  | od ks ts =>
    obtain ⟨g1, q⟩ := then_guard.mp q
    have g1 := of_decide_eq_true g1
    obtain ⟨ρ', e5, q⟩ := then_ofO.mp (then_bind.mp q)
    obtain ⟨A, w⟩ := st1
    have w' : StW X.K c H1 ((some v :: tv) ++ σ) ((some r.1 :: td) ++ r.2) A := w
    refine ho.sim c H1 (some v :: tv) (some r.1 :: td) σ r.2 A p t0 _ (by simp [hl]) w' e1 e6 e7 _ fun v0 vo ev0 lo => ?_
    refine hk.sim c H1 (some v :: tv) (some r.1 :: td) σ r.2 A _ (by simp [hl]) w' e2 _ fun u Au ru _ => ?_
    have eu := key_rp ru e20
    obtain ⟨Aa, B, eA, x, s⟩ := w.top
    obtain ⟨v1, vc, Al, ev1, l1, rc, fin⟩ := StW.writeG (Aa := Aa) hl w.uniq w.own w.keep (fun a => by rw [eA, List.count_append]; exact Nat.le_refl _) s e6 e7
    rw [ev0] at ev1; cases ev1
    have := lo.uniq l1
    subst this
    cases rc with
    | @od a kvs _ _ A1 h e0 dd rr =>
      have hlen : kvs.length < sizeLine := by rw [← sLine_eq]; rw [← e0] at g1; simpa using g1
      subst eu
      obtain ⟨C2, hc2, mk⟩ := put_od (a := a) (k := kk) e0 dd rr x
      refine ⟨a, _, rfl, DPut.k h hlen, ?_⟩
      exact q σ _ .refl (fin a _ A1 rfl (fun _ => rfl) .non (.d .none) _ [] C2 ρ' (.d .non) mk (fun b => by simpa using hc2 b) e5).drop
  | _ => exact q.elim
end
theorem StR.push_od {K : PySem.W.Frag} {c : C0} {H : Hp} {sl : List (Option V)} {ρ : Env} {p : Addr} (h : StR K c H sl ρ) (hp : H p = none) : StR K c (upd H p (.dK [])) (some (.ref p) :: sl) (some (.od [] []) :: ρ) := by
  obtain ⟨A, w⟩ := h
  have sm := same_upd (o := .dK []) hp
  have m0 : Mono (Fok c A) (Fok c (p :: A)) H H := Fok.fresh hp
  have eq1 : ∀ a ∈ A, (upd H p (.dK [])) a = H a := fun a ha => upd_ne (fun z => w.not_mem_of_none hp (by rw [← z]; exact ha))
  have s2 := (w.slots.mono m0 fun _ _ => rfl).mono (.same sm) eq1
  have cc : Sl K (Fok c (p :: A)) (upd H p (.dK [])) (some (.ref p) :: sl) (some (.od [] []) :: ρ) ([p] ++ A) := .cons (.od (kvs := []) upd_same rfl List.nodup_nil .nil) s2
  refine ⟨p :: A, fun a => ?_, cc, fun a ha => ?_, w.keep.grow sm⟩
  · rw [List.count_cons]
    have h2 := w.uniq a
    by_cases e : p = a
    · subst e
      have : A.count p = 0 := List.count_eq_zero.mpr (w.not_mem_of_none hp)
      simp [this]
    · have e' : (p == a) = false := by simpa using e
      simp [e']; omega
  · rcases List.mem_cons.mp ha with z | z
    · exact .inr (by rw [z]; exact w.keep.there p hp)
    · exact w.own a z
def SimD (K : PySem.W.Frag) (E : Str → Hp → Prop) (ks : List Key) (trs : List (TE × TE)) (m : MA) : Prop :=
  ∀ (c : C0) (H : Hp) (tv : List (Option V)) (td : Env) (σ : L2.St) (ρ : Env), tv.length = td.length → StR K c H (tv ++ σ) (td ++ ρ) → ∀ Q : List (V × V) → Hp → Prop,
    Then (m ρ) (fun r => ∀ vs H', vs.length = r.1.length → ks.length = r.1.length → StR K c H' (vs.map some ++ (tv ++ σ)) (r.1.map some ++ (td ++ r.2)) → Q ((ks.zip vs).map fun kv => (kV kv.1, kv.2)) H') (fun x => ∀ H', KeepC c H' → E x H') → tPairs trs σ H Q
structure QD (X : Cx) (E : Str → Hp → Prop) (pos : Pos) (keys : List (Option Expr)) (values : List Expr) (ks : List Key) (trs : List (TE × TE)) (m : MA) : Prop where
  pps : PPs X pos keys values trs
  sim : SimD X.K E ks trs m
section
variable {X : Cx} {E : Str → Hp → Prop} {pos : Pos} {keys : List (Option Expr)} {values : List Expr} {ks : List Key} {trs : List (TE × TE)} {m : MA}
end
theorem u1 {k : Nat} {A : Around} (r : Room k A) : A.units + 1 < cLine := by have := r.un; omega
section
variable {X : Cx} {E : Str → Hp → Prop} {io : List Nat} {a b e : Expr} {ta tb te : TE} {pos tpos : Pos} {mi me : MP} {mp : ML}
end
end L3
namespace L3
open PySem PySem.Spec PyProof.Rows L2
structure KC (K : PySem.W.Frag) (u : Value) (v : V) (x : PyData) : Prop where
  rel : RelV v u
  fz : ∀ F H, Fz K F H v x
inductive CVs : List Value → List V → List PyData → Prop
  | nil : CVs [] [] []
  | int {i : Int} {t : Tok} {us : List Value} {vs : List V} {ds : List PyData} : CVs us vs ds → CVs (.int i t :: us) (.int i :: vs) (.int i :: ds)
  | str {x : Str} {t : Tok} {us : List Value} {vs : List V} {ds : List PyData} : CVs us vs ds → CVs (.str x t :: us) (.str x :: vs) (.str x :: ds)
theorem CVs.fz {K : PySem.W.Frag} {F : Addr → Prop} {H : Hp} : ∀ {us : List Value} {vs : List V} {ds : List PyData}, CVs us vs ds → FzAll K F H vs ds
  | _, _, _, .nil => .nil
  | _, _, _, .int r => .cons (.int _) r.fz
  | _, _, _, .str r => .cons (.str _) r.fz
def fzSlot (i : Nat) (ρ : Env) : R Env := match ρ[i]? with
  | some (some t) => (match t.fz with | some x => .ok (ρ.set i (some (.d x))) | none => .bad)
  | _ => .bad
theorem StR.fzSlot {K : PySem.W.Frag} {c : C0} {H : Hp} {tv : List (Option V)} {td : Env} {σ : L2.St} {ρ ρ' : Env} {i : Nat} (hl : tv.length = td.length) (st : StR K c H (tv ++ σ) (td ++ ρ)) (e : L3.fzSlot i ρ = .ok ρ') : StR K c H (tv ++ σ) (td ++ ρ') := by
  unfold L3.fzSlot at e
  cases e0 : ρ[i]? with
  | none => rw [e0] at e; cases e
  | some o =>
    cases o with
    | none => rw [e0] at e; cases e
    | some t =>
      rw [e0] at e
      dsimp only at e
      cases ef : t.fz with
      | none => rw [ef] at e; cases e
      | some x =>
        rw [ef] at e
        cases e
        have hs : (mVar i ρ) = .ok (.d x, ρ.set i (some (.d x))) := by
          unfold mVar
          rw [e0]
          cases t with
          | d y =>
            simp [T.fz] at ef
            subst ef
            dsimp only
            rw [set_self e0]
          | _ => dsimp only; rw [ef]
        have := sim_var (K := K) (E := fun _ _ => True) i c H tv td σ ρ hl st (fun v H' => H' = H → StR K c H (tv ++ σ) (td ++ ρ.set i (some (.d x)))) (by
          rw [hs]
          intro v H' sm st1 eh
          subst eh
          exact st1.drop)
        obtain ⟨v, _, q⟩ := this
        exact q rfl
def fzO : Option T → Option T
  | some t => t.fz.map T.d
  | none => none
def fzEnv (ρ : Env) : Env := ρ.map fzO
theorem Sl.fzEnv {K : PySem.W.Frag} {F F' : Addr → Prop} {H : Hp} (hF : ∀ a, F' a) : ∀ {sl : List (Option V)} {ρ : Env} {A : List Addr}, Sl K F H sl ρ A → Sl K F' H sl (L3.fzEnv ρ) []
  | _, _, _, .nil => .nil
  | _, _, _, .skip h => .skip (Sl.fzEnv hF h)
  | _, _, _, .cons (t := t) h r => by
    show Sl K F' H _ ((t.fz.map T.d) :: L3.fzEnv _) []
    cases e : t.fz with
    | none => exact .skip (Sl.fzEnv hF r)
    | some x => exact .cons (A := []) (.d (h.freeze (fun a _ _ => hF a) (fun a _ => hF a) e)) (Sl.fzEnv hF r)
theorem Sl.tail {K : PySem.W.Frag} {F : Addr → Prop} {H : Hp} {sl : List (Option V)} {ρ : Env} : ∀ {tv : List (Option V)} {td : Env} {A : List Addr}, tv.length = td.length → Sl K F H (tv ++ sl) (td ++ ρ) A → ∃ B, Sl K F H sl ρ B
  | [], [], _, _, h => ⟨_, h⟩
  | _ :: _, _ :: _, _, e, .skip h => Sl.tail (by simpa using e) h
  | _ :: _, _ :: _, _, e, .cons _ h => Sl.tail (by simpa using e) h
  | [], _ :: _, _, e, _ => by simp at e
  | _ :: _, [], _, e, _ => by simp at e
def lookC (H : Hp) : C0 := ⟨H, [], fun _ => True⟩
theorem KeepC.same {H H' : Hp} (k : KeepC (lookC H) H') : Same H H' := fun a o e => k.keep a o e (by simp [lookC])
end L3
namespace L3
open PySem PySem.Spec PyProof.Rows L2
structure ZAt (z TI TO i1 i2 l1 l2 : Addr) (xs ys : Array Value) (N : Nat) (Ts : List Addr) (h : Heap) : Prop where
  pTI : IsPair h TI (.ref i1) (.ref i2)
  it1 : h.IsListIter i1 l1 Ts.length
  it2 : h.IsListIter i2 l2 Ts.length
  li1 : h.IsList l1 xs
  li2 : h.IsList l2 ys
  own : (IsZip h z TI TO .none ∧ ∃ a b, IsPair h TO a b) ∨ ∃ T f oT, IsZipHeld h z TI TO T f ∧ h.get? T = some oT ∧ T ≠ z ∧ T ≠ i1 ∧ T ≠ i2 ∧ N ≤ T
structure ZGave (xs ys : Array Value) (N : Nat) (Ts : List Addr) (h : Heap) : Prop where
  up : Ts.Pairwise (· < ·)
  new : ∀ T ∈ Ts, N ≤ T ∧ T < h.objs.size
  is : ∀ (j : Nat) (T : Addr), Ts[j]? = some T → ∃ x y, IsPair h T x y ∧ xs[j]? = some x ∧ ys[j]? = some y
theorem ZAt.frame {z TI TO i1 i2 l1 l2 S : Addr} {xs ys : Array Value} {N : Nat} {Ts : List Addr} {h h' : Heap} (k : ZAt z TI TO i1 i2 l1 l2 xs ys N Ts h) (hS : S < N) (hn : S ∉ [z, TI, TO, i1, i2, l1, l2]) (e : ∀ b o, b ≠ S → h.get? b = some o → h'.get? b = some o) : ZAt z TI TO i1 i2 l1 l2 xs ys N Ts h' := by
  simp only [List.mem_cons, List.not_mem_nil, or_false, not_or] at hn
  obtain ⟨n1, n2, n3, n4, n5, n6, n7⟩ := hn
  refine ⟨e _ _ (Ne.symm n2) k.pTI, k.it1.at fun o q => e _ o (Ne.symm n4) q, k.it2.at fun o q => e _ o (Ne.symm n5) q, k.li1.at fun o q => e _ o (Ne.symm n6) q, k.li2.at fun o q => e _ o (Ne.symm n7) q, ?_⟩
  rcases k.own with ⟨hz, a, b, hTO⟩ | ⟨T, f, oT, hz, hT, r1, r2, r3, r4⟩
  · exact .inl ⟨e _ _ (Ne.symm n1) hz, a, b, e _ _ (Ne.symm n3) hTO⟩
  · exact .inr ⟨T, f, oT, e _ _ (Ne.symm n1) hz, e _ _ (fun q => Nat.not_le_of_lt hS (q ▸ r4)) hT, r1, r2, r3, r4⟩
theorem ZGave.frame {S : List Addr} {xs ys : Array Value} {N : Nat} {Ts : List Addr} {h h' : Heap} (k : ZGave xs ys N Ts h) (hS : ∀ b ∈ S, b < N) (hl : h.objs.size ≤ h'.objs.size) (e : ∀ b o, b ∉ S → h.get? b = some o → h'.get? b = some o) : ZGave xs ys N Ts h' := by
  refine ⟨k.up, fun T hT => ⟨(k.new T hT).1, Nat.lt_of_lt_of_le (k.new T hT).2 hl⟩, fun j T hj => ?_⟩
  obtain ⟨x, y, hp, ex, ey⟩ := k.is j T hj
  refine ⟨x, y, e _ _ (fun hm => ?_) hp, ex, ey⟩
  exact absurd (k.new T (List.mem_of_getElem? hj)).1 (Nat.not_le_of_lt (hS T hm))
theorem ZGave.snoc {xs ys : Array Value} {N : Nat} {Ts : List Addr} {h : Heap} {T : Addr} {x y : Value} (k : ZGave xs ys N Ts h) (hT : ∀ U ∈ Ts, U < T) (hN : N ≤ T) (hp : IsPair h T x y) (ex : xs[Ts.length]? = some x) (ey : ys[Ts.length]? = some y) : ZGave xs ys N (Ts ++ [T]) h := by
  refine ⟨List.pairwise_append.mpr ⟨k.up, List.pairwise_singleton .., fun a ha b hb => by simp at hb; subst hb; exact hT a ha⟩, fun U hU => ?_, fun j U hj => ?_⟩
  · rcases List.mem_append.mp hU with e | e
    · exact k.new U e
    · simp at e; subst e; exact ⟨hN, Heap.lt_size hp⟩
  · by_cases hj2 : j < Ts.length
    · rw [List.getElem?_append_left hj2] at hj
      exact k.is j U hj
    · have hj3 : j = Ts.length := by
        have := (List.getElem?_eq_some_iff.mp hj).1
        simp at this
        omega
      subst hj3
      rw [List.getElem?_append_right (Nat.le_refl _)] at hj
      simp at hj
      subst hj
      exact ⟨x, y, hp, ex, ey⟩
section
variable {prog : Program} {w : World} {A : Around} {R : Result → Shared → Prop} {z TI TO i1 i2 l1 l2 : Addr} {xs ys : Array Value}
end
section
variable {X : Cx} {pins : List (Addr × Obj)} {σ : L2.St}
end
end L3
namespace L3
open PySem PySem.Spec PyProof.Rows L2
section
variable {X : Cx} {x : Str} {C : Addr} {b₀ : Stmt} {body suite : List Stmt} {np pos pos' : Pos} {mb mh : MS} {xs : List Str} {E : Str → Hp → Prop}
end
theorem RpAll.rev {K : PySem.W.Frag} {F : Addr → Prop} {H : Hp} : ∀ {vs : List V} {ts : List T} {A : List Addr}, RpAll K F H vs ts A → ∃ B, RpAll K F H vs.reverse ts.reverse B ∧ ∀ a, B.count a = A.count a
  | _, _, _, .nil => ⟨[], .nil, fun _ => rfl⟩
  | _, _, _, .cons x r => by
    obtain ⟨B, h1, h2⟩ := RpAll.rev r
    obtain ⟨C, h3, h4⟩ := h1.snoc x
    refine ⟨C, by simpa using h3, fun a => ?_⟩
    rw [h4, h2, List.count_append]
    omega
section
variable {X : Cx} {E : Str → Hp → Prop} {o : Expr} {name : Str} {id : String} {to : TE} {i : Nat} {mp : ML} {op : List T → List T → Option (T × List T)} {rM : V → List V → Hp → VK → Prop} {apos cpos : Pos}
end
end L3
namespace L3
open PySem PySem.Spec PyProof.Rows L2
mutual
def calm : PyData → Bool
  | .none => true
  | .bool _ => true
  | .int _ => true
  | .str _ => true
  | .tuple xs => calmAll xs
  | _ => false
def calmAll : List PyData → Bool
  | [] => true
  | x :: xs => calm x && calmAll xs
end
section
variable {K : PySem.W.Frag} {F F' : Addr → Prop} {H : Hp}
mutual
theorem Fz.calm : ∀ {v : V} {x : PyData}, Fz K F H v x → L3.calm x = true → Fz K F' H v x
  | _, _, .non, _ => .non
  | _, _, .bl b, _ => .bl b
  | _, _, .int i, _ => .int i
  | _, _, .str x, _ => .str x
  | _, _, .lst _ _ _, h => by simp [L3.calm] at h
  | _, _, .tup h a, e => .tup h (FzAll.calm a (by simpa [L3.calm] using e))
theorem FzAll.calm : ∀ {vs : List V} {xs : List PyData}, FzAll K F H vs xs → calmAll xs = true → FzAll K F' H vs xs
  | _, _, .nil, _ => .nil
  | _, _, .cons h a, e => by
    simp only [calmAll, Bool.and_eq_true] at e
    exact .cons (Fz.calm h e.1) (FzAll.calm a e.2)
end
end
end L3
namespace L3
open PySem PyProof.Rows L2
section
variable {K : PySem.W.Frag} {F F' : Addr → Prop} {H H' : Hp}
theorem ixN_set {α : Type} {xs : List α} {j : Int} {k : Nat} {x : α} (h : ixN xs.length j = some k) : atI (xs.set k x) j = some x := by
  have := (ixN_seq h).2.1
  unfold atI
  rw [List.length_set, h]
  simp [this]
theorem atK_put : ∀ {p : List PK} {n t t' : T}, T.putK? p n t = some t' → T.atK p t' = some n
  | [], n, t, t', h => by cases h; rfl
  | .ix j :: p, n, .ol ts, t', h => by
    obtain ⟨k, e1, h⟩ := Option.bind_eq_some_iff.mp (show (ixN ts.length j).bind _ = some t' from h)
    obtain ⟨t1, e2, h⟩ := Option.bind_eq_some_iff.mp h
    obtain ⟨t2, e3, h⟩ := Option.map_eq_some_iff.mp h
    subst h
    show (atI (ts.set k t2) j).bind (T.atK p) = _
    rw [ixN_set e1]
    exact atK_put e3
  | .ix j :: p, n, .ot ts, t', h => by
    obtain ⟨k, e1, h⟩ := Option.bind_eq_some_iff.mp (show (ixN ts.length j).bind _ = some t' from h)
    obtain ⟨t1, e2, h⟩ := Option.bind_eq_some_iff.mp h
    obtain ⟨t2, e3, h⟩ := Option.map_eq_some_iff.mp h
    subst h
    show (atI (ts.set k t2) j).bind (T.atK p) = _
    rw [ixN_set e1]
    exact atK_put e3
  | .key k :: p, n, .od ks ts, t', h => by
    obtain ⟨m, e1, h⟩ := Option.bind_eq_some_iff.mp (show (kAt ks k).bind _ = some t' from h)
    obtain ⟨t1, e2, h⟩ := Option.bind_eq_some_iff.mp h
    obtain ⟨t2, e3, h⟩ := Option.map_eq_some_iff.mp h
    subst h
    show (kAt ks k).bind (fun m' => ((ts.set m t2)[m']?).bind (T.atK p)) = _
    have hm := (List.getElem?_eq_some_iff.mp e2).1
    rw [e1]
    show ((ts.set m t2)[m]?).bind _ = _
    rw [List.getElem?_set_self hm]
    exact atK_put e3
  | .key k :: p, n, .fd a ks ts, t', h => by
    obtain ⟨m, e1, h⟩ := Option.bind_eq_some_iff.mp (show (kAt ks k).bind _ = some t' from h)
    obtain ⟨t1, e2, h⟩ := Option.bind_eq_some_iff.mp h
    obtain ⟨t2, e3, h⟩ := Option.map_eq_some_iff.mp h
    subst h
    show (kAt ks k).bind (fun m' => ((ts.set m t2)[m']?).bind (T.atK p)) = _
    have hm := (List.getElem?_eq_some_iff.mp e2).1
    rw [e1]
    show ((ts.set m t2)[m]?).bind _ = _
    rw [List.getElem?_set_self hm]
    exact atK_put e3
  | .fld k :: p, n, .ob x ks ts, t', h => by
    obtain ⟨m, e1, h⟩ := Option.bind_eq_some_iff.mp (show (kAt ks k).bind _ = some t' from h)
    obtain ⟨t1, e2, h⟩ := Option.bind_eq_some_iff.mp h
    obtain ⟨t2, e3, h⟩ := Option.map_eq_some_iff.mp h
    subst h
    show (kAt ks k).bind (fun m' => ((ts.set m t2)[m']?).bind (T.atK p)) = _
    have hm := (List.getElem?_eq_some_iff.mp e2).1
    rw [e1]
    show ((ts.set m t2)[m]?).bind _ = _
    rw [List.getElem?_set_self hm]
    exact atK_put e3
  | .ix _ :: _, _, .d _, _, h => by cases h
  | .ix _ :: _, _, .od _ _, _, h => by cases h
  | .ix _ :: _, _, .fd _ _ _, _, h => by cases h
  | .ix _ :: _, _, .fk _ _ _, _, h => by cases h
  | .ix _ :: _, _, .no _, _, h => by cases h
  | .ix _ :: _, _, .ob _ _ _, _, h => by cases h
  | .ix _ :: _, _, .rd _, _, h => by cases h
  | .ix _ :: _, _, .ex _, _, h => by cases h
  | .key _ :: _, _, .d _, _, h => by cases h
  | .key _ :: _, _, .ol _, _, h => by cases h
  | .key _ :: _, _, .ot _, _, h => by cases h
  | .key _ :: _, _, .fk _ _ _, _, h => by cases h
  | .key _ :: _, _, .no _, _, h => by cases h
  | .key _ :: _, _, .ob _ _ _, _, h => by cases h
  | .key _ :: _, _, .rd _, _, h => by cases h
  | .key _ :: _, _, .ex _, _, h => by cases h
  | .fld _ :: _, _, .d _, _, h => by cases h
  | .fld _ :: _, _, .ol _, _, h => by cases h
  | .fld _ :: _, _, .ot _, _, h => by cases h
  | .fld _ :: _, _, .od _ _, _, h => by cases h
  | .fld _ :: _, _, .fd _ _ _, _, h => by cases h
  | .fld _ :: _, _, .fk _ _ _, _, h => by cases h
  | .fld _ :: _, _, .no _, _, h => by cases h
  | .fld _ :: _, _, .rd _, _, h => by cases h
  | .fld _ :: _, _, .ex _, _, h => by cases h
theorem putK_put : ∀ {p : List PK} {n m t t' : T}, T.putK? p n t = some t' → T.putK? p m t' = T.putK? p m t
  | [], n, m, t, t', h => rfl
  | .ix j :: p, n, m, .ol ts, t', h => by
    obtain ⟨k, e1, h⟩ := Option.bind_eq_some_iff.mp (show (ixN ts.length j).bind _ = some t' from h)
    obtain ⟨t1, e2, h⟩ := Option.bind_eq_some_iff.mp h
    obtain ⟨t2, e3, h⟩ := Option.map_eq_some_iff.mp h
    subst h
    have hm := (List.getElem?_eq_some_iff.mp e2).1
    show (ixN (ts.set k t2).length j).bind (fun k' => ((ts.set k t2)[k']?).bind fun t => (T.putK? p m t).map fun t' => T.ol ((ts.set k t2).set k' t')) = (ixN ts.length j).bind fun k => (ts[k]?).bind fun t => (T.putK? p m t).map fun t' => T.ol (ts.set k t')
    rw [List.length_set, e1]
    simp only [Option.bind_some]
    rw [List.getElem?_set_self hm, e2]
    simp only [Option.bind_some]
    rw [putK_put e3]
    simp only [List.set_set]
  | .ix j :: p, n, m, .ot ts, t', h => by
    obtain ⟨k, e1, h⟩ := Option.bind_eq_some_iff.mp (show (ixN ts.length j).bind _ = some t' from h)
    obtain ⟨t1, e2, h⟩ := Option.bind_eq_some_iff.mp h
    obtain ⟨t2, e3, h⟩ := Option.map_eq_some_iff.mp h
    subst h
    have hm := (List.getElem?_eq_some_iff.mp e2).1
    show (ixN (ts.set k t2).length j).bind (fun k' => ((ts.set k t2)[k']?).bind fun t => (T.putK? p m t).map fun t' => T.ot ((ts.set k t2).set k' t')) = (ixN ts.length j).bind fun k => (ts[k]?).bind fun t => (T.putK? p m t).map fun t' => T.ot (ts.set k t')
    rw [List.length_set, e1]
    simp only [Option.bind_some]
    rw [List.getElem?_set_self hm, e2]
    simp only [Option.bind_some]
    rw [putK_put e3]
    simp only [List.set_set]
  | .key k :: p, n, m, .od ks ts, t', h => by
    obtain ⟨j, e1, h⟩ := Option.bind_eq_some_iff.mp (show (kAt ks k).bind _ = some t' from h)
    obtain ⟨t1, e2, h⟩ := Option.bind_eq_some_iff.mp h
    obtain ⟨t2, e3, h⟩ := Option.map_eq_some_iff.mp h
    subst h
    have hm := (List.getElem?_eq_some_iff.mp e2).1
    show (kAt ks k).bind (fun k' => ((ts.set j t2)[k']?).bind fun t => (T.putK? p m t).map fun t' => T.od ks ((ts.set j t2).set k' t')) = (kAt ks k).bind fun k => (ts[k]?).bind fun t => (T.putK? p m t).map fun t' => T.od ks (ts.set k t')
    rw [e1]
    simp only [Option.bind_some]
    rw [List.getElem?_set_self hm, e2]
    simp only [Option.bind_some]
    rw [putK_put e3]
    simp only [List.set_set]
  | .key k :: p, n, m, .fd a ks ts, t', h => by
    obtain ⟨j, e1, h⟩ := Option.bind_eq_some_iff.mp (show (kAt ks k).bind _ = some t' from h)
    obtain ⟨t1, e2, h⟩ := Option.bind_eq_some_iff.mp h
    obtain ⟨t2, e3, h⟩ := Option.map_eq_some_iff.mp h
    subst h
    have hm := (List.getElem?_eq_some_iff.mp e2).1
    show (kAt ks k).bind (fun k' => ((ts.set j t2)[k']?).bind fun t => (T.putK? p m t).map fun t' => T.fd a ks ((ts.set j t2).set k' t')) = (kAt ks k).bind fun k => (ts[k]?).bind fun t => (T.putK? p m t).map fun t' => T.fd a ks (ts.set k t')
    rw [e1]
    simp only [Option.bind_some]
    rw [List.getElem?_set_self hm, e2]
    simp only [Option.bind_some]
    rw [putK_put e3]
    simp only [List.set_set]
  | .fld k :: p, n, m, .ob x ks ts, t', h => by
    obtain ⟨j, e1, h⟩ := Option.bind_eq_some_iff.mp (show (kAt ks k).bind _ = some t' from h)
    obtain ⟨t1, e2, h⟩ := Option.bind_eq_some_iff.mp h
    obtain ⟨t2, e3, h⟩ := Option.map_eq_some_iff.mp h
    subst h
    have hm := (List.getElem?_eq_some_iff.mp e2).1
    show (kAt ks k).bind (fun k' => ((ts.set j t2)[k']?).bind fun t => (T.putK? p m t).map fun t' => T.ob x ks ((ts.set j t2).set k' t')) = (kAt ks k).bind fun k => (ts[k]?).bind fun t => (T.putK? p m t).map fun t' => T.ob x ks (ts.set k t')
    rw [e1]
    simp only [Option.bind_some]
    rw [List.getElem?_set_self hm, e2]
    simp only [Option.bind_some]
    rw [putK_put e3]
    simp only [List.set_set]
  | .ix _ :: _, _, _, .d _, _, h => by cases h
  | .ix _ :: _, _, _, .od _ _, _, h => by cases h
  | .ix _ :: _, _, _, .fd _ _ _, _, h => by cases h
  | .ix _ :: _, _, _, .fk _ _ _, _, h => by cases h
  | .ix _ :: _, _, _, .no _, _, h => by cases h
  | .ix _ :: _, _, _, .ob _ _ _, _, h => by cases h
  | .ix _ :: _, _, _, .rd _, _, h => by cases h
  | .ix _ :: _, _, _, .ex _, _, h => by cases h
  | .key _ :: _, _, _, .d _, _, h => by cases h
  | .key _ :: _, _, _, .ol _, _, h => by cases h
  | .key _ :: _, _, _, .ot _, _, h => by cases h
  | .key _ :: _, _, _, .fk _ _ _, _, h => by cases h
  | .key _ :: _, _, _, .no _, _, h => by cases h
  | .key _ :: _, _, _, .ob _ _ _, _, h => by cases h
  | .key _ :: _, _, _, .rd _, _, h => by cases h
  | .key _ :: _, _, _, .ex _, _, h => by cases h
  | .fld _ :: _, _, _, .d _, _, h => by cases h
  | .fld _ :: _, _, _, .ol _, _, h => by cases h
  | .fld _ :: _, _, _, .ot _, _, h => by cases h
  | .fld _ :: _, _, _, .od _ _, _, h => by cases h
  | .fld _ :: _, _, _, .fd _ _ _, _, h => by cases h
  | .fld _ :: _, _, _, .fk _ _ _, _, h => by cases h
  | .fld _ :: _, _, _, .no _, _, h => by cases h
  | .fld _ :: _, _, _, .rd _, _, h => by cases h
  | .fld _ :: _, _, _, .ex _, _, h => by cases h
theorem Sl.takeK {tv : List (Option V)} {td : Env} {σ : L2.St} {ρ : Env} {A : List Addr} {i : Nat} {p : List PK} {t0 tc : T} (hl : tv.length = td.length) (s : Sl K F H (tv ++ σ) (td ++ ρ) A) (e0 : ρ[i]? = some (some t0)) (e1 : T.atK p t0 = some tc) :
    ∃ (v0 v : V) (Al B : List Addr) (tn : T), σ[i]? = some (some v0) ∧ LocK H v0 p v ∧ Rp K F H v tc Al ∧ (∀ b, A.count b = Al.count b + B.count b) ∧ T.putK? p (.no v) t0 = some tn ∧ Sl K F H (tv ++ σ) (td ++ ρ.set i (some tn)) B := by
  have hlen := s.len
  have hi : i < ρ.length := (List.getElem?_eq_some_iff.mp e0).1
  obtain ⟨B1, hb, ar, get⟩ := s.around (i := tv.length + i) (by rw [hlen, List.length_append]; omega)
  obtain ⟨v0, A0, e3, x, hc1⟩ := get t0 (by rw [app_at hl.symm, e0])
  rw [app_at rfl] at e3
  obtain ⟨v, Al, Bl, l, xl, hc2, pt⟩ := x.locK e1
  obtain ⟨tn, C3, q1, q2, q3⟩ := pt (.same (Same.refl H)) (fun _ _ => rfl) (t' := .no v) (A2 := []) (.no v)
  obtain ⟨C4, s4, q4⟩ := ar.put (.same (Same.refl H)) (fun _ _ => rfl) q2
  rw [app_set rfl, set_self e3, app_set hl.symm] at s4
  exact ⟨v0, v, Al, C4, tn, e3, l, xl, fun b => by have := q3 b; rw [List.count_nil] at this; rw [hc1 b, hc2 b, q4 b, this]; omega, q1, s4⟩
theorem Sl.putK {tv : List (Option V)} {td : Env} {σ : L2.St} {ρ : Env} {B : List Addr} {i : Nat} {p : List PK} {tn t' : T} {v : V} {A2 : List Addr} (hl : tv.length = td.length) (s : Sl K F H (tv ++ σ) (td ++ ρ) B) (e0 : ρ[i]? = some (some tn)) (e1 : T.atK p tn = some (.no v))
    (m : Mono F F' H H') (k : ∀ b ∈ B, H' b = H b) (x : Rp K F' H' v t' A2) : ∃ (C : List Addr) (t1 : T), T.putK? p t' tn = some t1 ∧ Sl K F' H' (tv ++ σ) (td ++ ρ.set i (some t1)) C ∧ ∀ b, C.count b = A2.count b + B.count b := by
  have hlen := s.len
  have hi : i < ρ.length := (List.getElem?_eq_some_iff.mp e0).1
  obtain ⟨B1, hb, ar, get⟩ := s.around (i := tv.length + i) (by rw [hlen, List.length_append]; omega)
  obtain ⟨v0, A0, e3, x0, hc1⟩ := get tn (by rw [app_at hl.symm, e0])
  rw [app_at rfl] at e3
  obtain ⟨v', Al, Bl, l, xl, hc2, pt⟩ := x0.locK e1
  cases xl
  obtain ⟨t1, C3, q1, q2, q3⟩ := pt m (fun b hb' => k b (List.count_pos_iff.mp (by have := List.count_pos_iff.mpr hb'; have := hc1 b; have := hc2 b; omega))) x
  obtain ⟨C4, s4, q4⟩ := ar.put m (fun b hb' => k b (List.count_pos_iff.mp (by have := List.count_pos_iff.mpr hb'; have := hc1 b; omega))) q2
  rw [app_set rfl, set_self e3, app_set hl.symm] at s4
  exact ⟨C4, t1, q1, s4, fun b => by have := hc2 b; rw [List.count_nil] at this; rw [q4 b, q3 b, hc1 b, this]; omega⟩
end
end L3
namespace L3
open PySem PyProof.Rows L2
section
variable {K : PySem.W.Frag} {c : C0} {H1 : Hp} {A A1 B : List Addr} {vs : List V} {ts : List T} {sl : List (Option V)} {rl : Env} {rz : Bool} {cl : Str → Option Addr} {n : Nat} {io : List Nat} {fm : List T → R (T × List T)}
end
inductive AK where
  | v (t : T) | pl (i : Nat) (p : List PK)
def AK.slot : AK → Option T
  | .v t => some t
  | .pl _ _ => none
def AK.isPl : AK → Bool
  | .v _ => false
  | .pl _ _ => true
abbrev MBK := Env → R (List AK × Env)
def SimBK (K : PySem.W.Frag) (E : Str → Hp → Prop) (pat : List Bool) (ta : TA) (m : MBK) : Prop :=
  ∀ (c : C0) (H : Hp) (tv : List (Option V)) (td : Env) (σ : L2.St) (ρ : Env), tv.length = td.length → StR K c H (tv ++ σ) (td ++ ρ) → ∀ Q : List V → Hp → Prop,
    Then (m ρ) (fun r => ∀ vs H', Same H H' → vs.length = r.1.length → r.1.map AK.isPl = pat → (∀ (j i : Nat) (p : List PK), r.1[j]? = some (.pl i p) → ∃ v0 v, vs[j]? = some v ∧ σ[i]? = some (some v0) ∧ LocK H' v0 p v) → StR K c H' (vs.map some ++ (tv ++ σ)) (r.1.map AK.slot ++ (td ++ r.2)) → Q vs H') (fun x => ∀ H', KeepC c H' → E x H') → ta σ H Q
structure QBK (X : Cx) (E : Str → Hp → Prop) (pat : List Bool) (es : List Expr) (ta : TA) (m : MBK) : Prop where
  pa : PA X es ta
  sim : SimBK X.K E pat ta m
section
variable {X : Cx} {E : Str → Hp → Prop} {e : Expr} {es : List Expr} {te : TE} {t : TA} {m : MEx} {r : MBK} {pat : List Bool} {pos : Pos}
end
inductive Holes : List (Nat × List PK × V) → Env → Env → Prop
  | nil {ρ : Env} : Holes [] ρ ρ
  | cons {i : Nat} {p : List PK} {v : V} {r : List (Nat × List PK × V)} {ρ ρn : Env} {t0 tn : T} : ρ[i]? = some (some t0) → T.putK? p (.no v) t0 = some tn → Holes r (ρ.set i (some tn)) ρn → i ∉ r.map Prod.fst → Holes ((i, p, v) :: r) ρ ρn
theorem Holes.get_ne : ∀ {r : List (Nat × List PK × V)} {ρ ρn : Env}, Holes r ρ ρn → ∀ {j : Nat}, j ∉ r.map Prod.fst → ρn[j]? = ρ[j]?
  | _, _, _, .nil, _, _ => rfl
  | _, _, _, .cons (i := i) _ _ h _, j, hj => by
    simp at hj
    rw [h.get_ne (by simpa using hj.2), List.getElem?_set_ne (fun z => hj.1 z.symm)]
theorem Holes.set : ∀ {r : List (Nat × List PK × V)} {ρ ρn : Env}, Holes r ρ ρn → ∀ {j : Nat} {o : Option T}, j ∉ r.map Prod.fst → Holes r (ρ.set j o) (ρn.set j o)
  | _, _, _, .nil, _, _, _ => .nil
  | _, _, _, .cons (i := i) e1 e2 h h', j, o, hj => by
    have hj' := hj
    simp at hj'
    have ne : i ≠ j := fun z => hj'.1 z.symm
    refine .cons (by rw [List.getElem?_set_ne (fun z => ne z.symm)]; exact e1) e2 ?_ h'
    rw [List.set_comm _ _ (fun z => ne z.symm)]
    exact h.set (by simpa using hj'.2)
def fillPk : List AK → Env → Option (List T)
  | [], _ => some []
  | .v t :: ks, ρ => (fillPk ks ρ).map fun r => t :: r
  | .pl i p :: ks, ρ => (atKo p ρ[i]?).bind fun t => (fillPk ks (ρ.set i none)).map fun r => t :: r
def putKs : List AK → List T → Env → Option Env
  | [], [], ρ => some ρ
  | .v _ :: ks, os, ρ => putKs ks os ρ
  | .pl i p :: ks, o :: os, ρ => (putAtK i p o ρ).bind (putKs ks os)
  | _, _, _ => none
def holesOf : List AK → List V → List (Nat × List PK × V)
  | [], _ => []
  | .v _ :: ks, vs => holesOf ks vs.tail
  | .pl i p :: ks, v :: vs => (i, p, v) :: holesOf ks vs
  | .pl _ _ :: ks, [] => holesOf ks []
theorem fillPk_set : ∀ {ks : List AK} {vs : List V} {ρ : Env} {i : Nat} {ts : List T} (o : Option T), vs.length = ks.length → fillPk ks (ρ.set i none) = some ts → fillPk ks (ρ.set i o) = some ts ∧ i ∉ (holesOf ks vs).map Prod.fst
  | [], vs, ρ, i, ts, o, _, h => ⟨h, by simp [holesOf]⟩
  | .v t :: ks, v :: vs, ρ, i, ts, o, hl, h => by
    obtain ⟨r, e, e2⟩ := Option.map_eq_some_iff.mp (show (fillPk ks _).map _ = some ts from h)
    obtain ⟨h1, h2⟩ := fillPk_set (vs := vs) o (by simpa using hl) e
    exact ⟨by show (fillPk ks _).map _ = _; rw [h1, ← e2]; rfl, h2⟩
  | .pl j p :: ks, v :: vs, ρ, i, ts, o, hl, h => by
    obtain ⟨t, e0, h⟩ := Option.bind_eq_some_iff.mp (show (atKo p (ρ.set i none)[j]?).bind _ = some ts from h)
    obtain ⟨r, e, e2⟩ := Option.map_eq_some_iff.mp h
    have ne : i ≠ j := fun z => by
      subst z
      obtain ⟨t0, e3, _⟩ := atKo_some e0
      have hlt : i < (ρ.set i none).length := (List.getElem?_eq_some_iff.mp e3).1
      rw [List.getElem?_set_self (by simpa using hlt)] at e3
      cases e3
    rw [List.set_comm _ _ ne] at e
    obtain ⟨h1, h2⟩ := fillPk_set (vs := vs) o (by simpa using hl) e
    refine ⟨?_, ?_⟩
    · show (atKo p (ρ.set i o)[j]?).bind _ = _
      rw [List.getElem?_set_ne ne] at e0 ⊢
      rw [e0]
      show (fillPk ks ((ρ.set i o).set j none)).map _ = _
      rw [List.set_comm _ _ ne, h1, ← e2]
      rfl
    · show i ∉ (((j, p, v) :: holesOf ks vs).map Prod.fst)
      simp only [List.map_cons, List.mem_cons]
      exact fun z => z.elim ne h2
theorem Sl.fillPk {K : PySem.W.Frag} {F : Addr → Prop} {H : Hp} {σ : L2.St} : ∀ {ks : List AK} {vs : List V} {ρ : Env} {ts : List T} {A : List Addr} {tv : List (Option V)} {td : Env}, tv.length = td.length → vs.length = ks.length → (∀ (j i : Nat) (p : List PK), ks[j]? = some (.pl i p) → ∃ v0 v, vs[j]? = some v ∧ σ[i]? = some (some v0) ∧ LocK H v0 p v) →
    L3.fillPk ks ρ = some ts → Sl K F H (vs.map some ++ (tv ++ σ)) (ks.map AK.slot ++ (td ++ ρ)) A → ∃ A1 B ρn, RpAll K F H vs ts A1 ∧ Sl K F H (tv ++ σ) (td ++ ρn) B ∧ (∀ a, A1.count a + B.count a = A.count a) ∧ Holes (holesOf ks vs) ρ ρn
  | [], [], ρ, ts, A, tv, td, _, _, _, e, s => by cases e; exact ⟨[], A, ρ, .nil, s, fun a => by simp, .nil⟩
  | .v t :: ks, v :: vs, ρ, ts, A, tv, td, hl, hvs, hk, e, s => by
    obtain ⟨r, e1, e2⟩ := Option.map_eq_some_iff.mp (show (L3.fillPk ks ρ).map _ = some ts from e)
    subst e2
    cases s with
    | cons x s =>
      obtain ⟨A1, B, ρn, h1, h2, h3, h4⟩ := Sl.fillPk hl (by simpa using hvs) (fun j i p z => hk (j + 1) i p (by simpa using z)) e1 s
      exact ⟨_, B, ρn, .cons x h1, h2, fun a => by have := h3 a; rw [List.count_append, List.count_append]; omega, h4⟩
  | .pl i p :: ks, v :: vs, ρ, ts, A, tv, td, hl, hvs, hk, e, s => by
    obtain ⟨t, e0, e⟩ := Option.bind_eq_some_iff.mp (show (atKo p ρ[i]?).bind _ = some ts from e)
    obtain ⟨r, e1, e2⟩ := Option.map_eq_some_iff.mp e
    subst e2
    obtain ⟨t0, e6, e7⟩ := atKo_some e0
    have hvs' : vs.length = ks.length := by simpa using hvs
    cases s with
    | skip s =>
      have s' : Sl K F H ((vs.map some ++ tv) ++ σ) ((ks.map AK.slot ++ td) ++ ρ) A := by simpa [List.append_assoc] using s
      obtain ⟨v0, v', Al, B0, tn, g1, g2, g3, g4, g5, g6⟩ := s'.takeK (i := i) (p := p) (by simp [hl, hvs']) e6 e7
      obtain ⟨w0, w, k1, k2, k3⟩ := hk 0 i p rfl
      have ev : v = w := by simpa using k1
      subst ev
      rw [g1] at k2; cases k2
      have := g2.uniq k3
      subst this
      obtain ⟨f1, f2⟩ := fillPk_set (vs := vs) (some tn) hvs' e1
      obtain ⟨A1, B, ρn, h1, h2, h3, h4⟩ := Sl.fillPk hl hvs' (fun j i p z => hk (j + 1) i p (by simpa using z)) f1 (by simpa [List.append_assoc] using g6)
      exact ⟨_, B, ρn, .cons g3 h1, h2, fun a => by have := h3 a; have := g4 a; rw [List.count_append]; omega, .cons e6 g5 h4 f2⟩
theorem Sl.putKs {K : PySem.W.Frag} {F : Addr → Prop} {H : Hp} {tv : List (Option V)} {td : Env} {σ : L2.St} (hl : tv.length = td.length) : ∀ {ks : List AK} {vs : List V} {os : List T} {ρ ρn ρ' : Env} {B C1 : List Addr}, vs.length = ks.length → Holes (holesOf ks vs) ρ ρn → Sl K F H (tv ++ σ) (td ++ ρn) B → RpAll K F H ((holesOf ks vs).map fun h => h.2.2) os C1 → L3.putKs ks os ρ = some ρ' →
    ∃ C2, Sl K F H (tv ++ σ) (td ++ ρ') C2 ∧ ∀ a, C2.count a = C1.count a + B.count a
  | [], _, os, ρ, ρn, ρ', B, C1, _, hh, s, r, e => by
    cases hh
    cases r
    cases e
    exact ⟨B, s, fun a => by simp⟩
  | .v t :: ks, v :: vs, os, ρ, ρn, ρ', B, C1, hvs, hh, s, r, e => Sl.putKs hl (vs := vs) (by simpa using hvs) hh s r e
  | .pl i p :: ks, v :: vs, os, ρ, ρn, ρ', B, C1, hvs, hh, s, r, e => by
    have hh : Holes ((i, p, v) :: holesOf ks vs) ρ ρn := hh
    have r : RpAll K F H (v :: (holesOf ks vs).map fun h => h.2.2) os C1 := r
    cases r with
    | @cons _ _ o os' A2 B2 x r2 =>
      obtain ⟨ρ1, e1, e⟩ := Option.bind_eq_some_iff.mp (show (putAtK i p o ρ).bind _ = some ρ' from e)
      cases hh with
      | @cons _ _ _ _ _ _ t0 tn g1 g2 g3 g4 =>
        have hi : i < ρ.length := (List.getElem?_eq_some_iff.mp g1).1
        have hn : ρn[i]? = some (some tn) := by rw [g3.get_ne g4, List.getElem?_set_self hi]
        obtain ⟨C, t1, q1, q2, q3⟩ := s.putK hl hn (atK_put g2) (.same (Same.refl H)) (fun _ _ => rfl) x
        have ep : putAtK i p o ρ = some (ρ.set i (some t1)) := by
          unfold putAtK
          rw [g1]
          show (T.putK? p o t0).map _ = _
          rw [← putK_put g2, q1]
          rfl
        rw [ep] at e1
        cases e1
        have g5 := g3.set (j := i) (o := some t1) g4
        rw [List.set_set] at g5
        obtain ⟨C2, z1, z2⟩ := Sl.putKs hl (vs := vs) (by simpa using hvs) g5 q2 r2 e
        exact ⟨C2, z1, fun a => by rw [z2 a, q3 a, List.count_append]; omega⟩
end L3
namespace L3
open PySem PyProof.Rows L2
section
variable {K : PySem.W.Frag} {cl : Str → Option Addr} {Ek : XK} {rz : Bool} {n : Nat} {fm : List T → R (T × List T)}
end
section
variable {X : Cx} {CX : CXT} {k : Nat} {f C : Addr} {fd : FuncData} {ps : List Str} {Ek : XK} {cl : Str → Option Addr} {x m : Str} {p pos apos : Pos} {o e : Expr} {es : List Expr} {ta : TE} {t : TA} {mb : MBK} {pat : List Bool} {io : List Nat} {fm : List T → R (T × List T)} {rz : Bool} {n : Nat} {i : Nat} {mp : MLK}
end
end L3
namespace L3
open PySem PyProof.Rows L2
section
variable {K : PySem.W.Frag}
end
section
variable {X : Cx} {E : Str → Hp → Prop} {o e : Expr} {es : List Expr} {to : TE} {t : TA} {name : Str} {apos cpos : Pos} {id : String} {rM : V → List V → Hp → VK → Prop} {op : List T → List T → Option (T × List T)}
end
section
variable {X : Cx} {a b : Expr} {ta tb : TE} {pos : Pos} {pr : Nat → Bool}
end
section
variable {X : Cx} {E : Str → Hp → Prop} {io : List Nat} {o value : Expr} {to tv' : TE} {pos pos' : Pos}
end
section
variable {K : PySem.W.Frag}
end
section
variable {X : Cx} {E : Str → Hp → Prop} {o e f : Expr} {td' ty tx : TE} {apos cpos : Pos} {i : Nat} {mp : MLK} {mk md : MP}
end
end L3
namespace L3
open PySem PyProof.Rows L2
def getT (ks : List Key) (ts : List T) (k : Key) (d : T) : Option T := match kAt ks k with
  | some n => ts[n]?
  | none => some d
def pGet2 (ma mk md : MP) : MP := fun ρ => (ma ρ).bind fun t => ((mk ρ).bind T.key).bind fun k => (md ρ).bind fun d => match t with
  | .od ks ts => getT ks ts k d
  | .fd _ ks ts => getT ks ts k d
  | _ => none
section
variable {X : Cx} {E : Str → Hp → Prop} {o e f : Expr} {td' ty tx : TE} {apos cpos pos : Pos} {ma mk md : MP}
theorem qp_get2 (hu : X.A.units + 1 < cLine) (m : M2 X o "get" apos e f cpos) (ho : QP X o td' ma) (hk : QP X e ty mk) (hd : QP X f tx md) : QP X (.Call (.Attribute o "get" apos) [e, f] [] cpos) (tDGet2 td' ty tx) (pGet2 ma mk md) := by
  refine ⟨pe_dget2 hu ho.pe hk.pe hd.pe m, fun c H tv td σ ρ A t hl w e0 Q q => ?_⟩
  unfold pGet2 at e0
  obtain ⟨tc, e1, e0⟩ := Option.bind_eq_some_iff.mp e0
  obtain ⟨k, e2', e0⟩ := Option.bind_eq_some_iff.mp e0
  obtain ⟨tj, e2, e20⟩ := Option.bind_eq_some_iff.mp e2'
  obtain ⟨d, e3, e0⟩ := Option.bind_eq_some_iff.mp e0
  refine ho.sim c H tv td σ ρ A _ hl w e1 _ fun v A1 r1 h1 => ?_
  have go : ∀ {a : Addr} {kvs : List (Key × V)} {ks : List Key} {ts : List T} {B1 : List Addr}, Rd H a (.dK kvs) → kvs.map Prod.fst = ks → RpAll X.K (Fok c A) H (kvs.map Prod.snd) ts B1 → (∀ b ∈ B1, b ∈ A) → getT ks ts k d = some t →
      ∃ a', V.ref a = V.ref a' ∧ IsD H a' ∧ ty σ H fun y H2 => tx σ H2 fun z H3 => ∃ o, DGet H3 a' y o ∧ Q (o.getD z) H3 := by
    intro a kvs ks ts B1 hr e3' rr hB e4
    refine ⟨a, rfl, .inl ⟨kvs, hr⟩, ?_⟩
    refine hk.sim c H tv td σ ρ A _ hl w e2 _ fun u Au ru _ => ?_
    have eu := key_rp ru e20
    refine hd.sim c H tv td σ ρ A _ hl w e3 _ fun z Az rz hz => ?_
    unfold getT at e4
    cases en : kAt ks k with
    | some n =>
      rw [en] at e4
      dsimp only at e4
      obtain ⟨w', A2, B2, g1, g2, g3, _⟩ := rr.around e4
      obtain ⟨u', h1', h2'⟩ := valV_at (kvs := kvs) (k := k) (n := n) (by rw [e3']; exact en)
      rw [List.getElem?_map, h1'] at g1
      cases g1
      exact ⟨some u', .inl ⟨kvs, k, hr, eu, h2'.symm⟩, q u' A2 g2 fun b hb => hB b (List.count_pos_iff.mp (by have := List.count_pos_iff.mpr hb; have := g3 b; omega))⟩
    | none =>
      rw [en] at e4
      cases e4
      exact ⟨none, .inl ⟨kvs, k, hr, eu, (valV_no (by rw [e3']; exact en)).symm⟩, q z Az rz hz⟩
  split at e0
  · cases r1 with
    | od h e3' dd rr => exact go (.inl h) e3' rr (fun b hb => h1 b (List.mem_cons_of_mem _ hb)) e0
  · cases r1 with
    | fd h e3' dd rr => exact go (.inr ⟨_, h⟩) e3' rr h1 e0
  · cases e0
def mDispE : MEx := fun ρ => .ok (.od [] [], ρ)
theorem qe_dispE : QE X E true (.Dict [] [] pos) tDNewK mDispE := ⟨pe_dnewK, fun c H tv td σ ρ hl st Q q p hp => q (.ref p) _ (fun _ => same_upd hp) (st.push_od hp)⟩
end
section
variable {X : Cx} {E : Str → Hp → Prop} {x : Str} {p pos : Pos} {id : String} {rr : List V → Hp → VK → Prop} {op : List T → R RV} {e : Expr} {es : List Expr} {t : TA}
end
end L3
namespace L3
open PySem PyProof.Rows L2
instance : DecidableEq PK := fun a b => match a, b with
  | .ix i, .ix j => if h : i = j then .isTrue (by rw [h]) else .isFalse fun z => h (by injection z)
  | .key i, .key j => if h : i = j then .isTrue (by rw [h]) else .isFalse fun z => h (by injection z)
  | .fld i, .fld j => if h : i = j then .isTrue (by rw [h]) else .isFalse fun z => h (by injection z)
  | .ix _, .key _ => .isFalse nofun
  | .ix _, .fld _ => .isFalse nofun
  | .key _, .ix _ => .isFalse nofun
  | .key _, .fld _ => .isFalse nofun
  | .fld _, .ix _ => .isFalse nofun
  | .fld _, .key _ => .isFalse nofun
mutual
def T.noFd : T → Bool
  | .d _ => true
  | .ol ts => T.noFdA ts
  | .ot ts => T.noFdA ts
  | .od _ ts => T.noFdA ts
  | .fd _ _ _ => false
  | .fk _ _ _ => false
  | .no _ => true
  | .rd _ => true
  | .ex _ => true
  | .ob _ _ ts => T.noFdA ts
def T.noFdA : List T → Bool
  | [] => true
  | t :: r => t.noFd && T.noFdA r
end
mutual
inductive Avd (a : Addr) : T → Prop
  | d (x : PyData) : Avd a (.d x)
  | ol {ts : List T} : AvdA a ts → Avd a (.ol ts)
  | ot {ts : List T} : AvdA a ts → Avd a (.ot ts)
  | od {ks : List Key} {ts : List T} : AvdA a ts → Avd a (.od ks ts)
  | fd {b : Addr} {ks : List Key} {ts : List T} : b ≠ a → AvdA a ts → Avd a (.fd b ks ts)
  | fk {b : Addr} {o : Obj} {kvs : List (Key × V)} : b ≠ a → Avd a (.fk b o kvs)
  | no (v : V) : Avd a (.no v)
  | rd (xs : List PyData) : Avd a (.rd xs)
  | ex (x : Str) : Avd a (.ex x)
  | ob {x : Str} {fs : List Str} {ts : List T} : AvdA a ts → Avd a (.ob x fs ts)
inductive AvdA (a : Addr) : List T → Prop
  | nil : AvdA a []
  | cons {t : T} {ts : List T} : Avd a t → AvdA a ts → AvdA a (t :: ts)
end
def AvdE (a : Addr) (ρ : Env) : Prop := ∀ t, some t ∈ ρ → Avd a t
mutual
theorem T.noFd_avd (a : Addr) : ∀ (t : T), t.noFd = true → Avd a t
  | .d x, _ => .d x
  | .ol ts, h => .ol (T.noFdA_avd a ts (by simpa [T.noFd] using h))
  | .ot ts, h => .ot (T.noFdA_avd a ts (by simpa [T.noFd] using h))
  | .od _ ts, h => .od (T.noFdA_avd a ts (by simpa [T.noFd] using h))
  | .fd _ _ _, h => by simp [T.noFd] at h
  | .fk _ _ _, h => by simp [T.noFd] at h
  | .no v, _ => .no v
  | .rd x, _ => .rd x
  | .ex x, _ => .ex x
  | .ob _ _ ts, h => .ob (T.noFdA_avd a ts (by simpa [T.noFd] using h))
theorem T.noFdA_avd (a : Addr) : ∀ (ts : List T), T.noFdA ts = true → AvdA a ts
  | [], _ => .nil
  | t :: r, h => by
    simp only [T.noFdA, Bool.and_eq_true] at h
    exact .cons (T.noFd_avd a t h.1) (T.noFdA_avd a r h.2)
end
section
variable {K : PySem.W.Frag} {F F' : Addr → Prop} {H : Hp} {a : Addr}
mutual
theorem Rp.avd (h0 : ∀ o kvs, H a ≠ some (.frz o (.dK kvs))) : ∀ {v : V} {t : T} {A : List Addr}, Rp K F H v t A → Avd a t
  | _, _, _, .d _ => .d _
  | _, _, _, .ol _ r => .ol (RpAll.avd h0 r)
  | _, _, _, .ot _ r => .ot (RpAll.avd h0 r)
  | _, _, _, .od _ _ _ r => .od (RpAll.avd h0 r)
  | _, _, _, .fd h _ _ r => .fd (fun e => h0 _ _ (by rw [← e]; exact h)) (RpAll.avd h0 r)
  | _, _, _, .fk h => .fk (fun e => h0 _ _ (by rw [← e]; exact h))
  | _, _, _, .no v => .no v
  | _, _, _, .rd _ _ => .rd _
  | _, _, _, .ob _ _ _ r => .ob (RpAll.avd h0 r)
  | _, _, _, .ex _ _ _ => .ex _
theorem RpAll.avd (h0 : ∀ o kvs, H a ≠ some (.frz o (.dK kvs))) : ∀ {vs : List V} {ts : List T} {A : List Addr}, RpAll K F H vs ts A → AvdA a ts
  | _, _, _, .nil => .nil
  | _, _, _, .cons x r => .cons (Rp.avd h0 x) (RpAll.avd h0 r)
end
theorem Sl.avd (h0 : ∀ o kvs, H a ≠ some (.frz o (.dK kvs))) : ∀ {sl : List (Option V)} {ρ : Env} {A : List Addr}, Sl K F H sl ρ A → AvdE a ρ
  | _, _, _, .nil => fun t ht => by simp at ht
  | _, _, _, .skip r => fun t ht => by
    rcases List.mem_cons.mp ht with e | e
    · cases e
    · exact Sl.avd h0 r t e
  | _, _, _, .cons x r => fun t ht => by
    rcases List.mem_cons.mp ht with e | e
    · cases e; exact x.avd h0
    · exact Sl.avd h0 r t e
section
variable {o : Obj} {kvs : List (Key × V)} (ha : H a = some (.frz o (.dK kvs))) (hF : ∀ b, b ≠ a → F b → F' b)
include ha hF
mutual
theorem Fz.unl : ∀ {v : V} {x : PyData}, Fz K F H v x → Fz K F' (upd H a (.dK kvs)) v x
  | _, _, .non => .non
  | _, _, .bl b => .bl b
  | _, _, .int i => .int i
  | _, _, .str x => .str x
  | _, _, .lst (a := b) h f r => by
    have ne : b ≠ a := fun e => by rw [e, ha] at h; cases h
    exact .lst (by rw [upd_ne ne]; exact h) (hF b ne f) (FzAll.unl r)
  | _, _, .tup (a := b) h r => by
    refine .tup ?_ (FzAll.unl r)
    rcases h with (h | ⟨o', h⟩) | h
    · have ne : b ≠ a := fun e => by rw [e, ha] at h; cases h
      exact .inl (.inl (by rw [upd_ne ne]; exact h))
    · have ne : b ≠ a := fun e => by rw [e, ha] at h; cases h
      exact .inl (.inr ⟨o', by rw [upd_ne ne]; exact h⟩)
    · exact .inr h
theorem FzAll.unl : ∀ {vs : List V} {xs : List PyData}, FzAll K F H vs xs → FzAll K F' (upd H a (.dK kvs)) vs xs
  | _, _, .nil => .nil
  | _, _, .cons x r => .cons (Fz.unl x) (FzAll.unl r)
end
theorem RdL.unl {b : Addr} {vs : List V} (h : RdL K H b vs) : RdL K (upd H a (.dK kvs)) b vs := by
  rcases h with ⟨o', h⟩ | h
  · have ne : b ≠ a := fun e => by rw [e, ha] at h; cases h
    exact .inl ⟨o', by rw [upd_ne ne]; exact h⟩
  · exact .inr h
mutual
theorem Rp.unl : ∀ {v : V} {t : T} {A : List Addr}, Rp K F H v t A → Avd a t → Rp K F' (upd H a (.dK kvs)) v t A
  | _, _, _, .d h, _ => .d (h.unl ha hF)
  | _, _, _, .ol (a := b) h r, v => by
    cases v with
    | ol v =>
      have ne : b ≠ a := fun e => by rw [e, ha] at h; cases h
      exact .ol (by rw [upd_ne ne]; exact h) (RpAll.unl r v)
  | _, _, _, .ot (a := b) h r, v => by
    cases v with
    | ot v =>
      have ne : b ≠ a := fun e => by rw [e, ha] at h; cases h
      exact .ot (by rw [upd_ne ne]; exact h) (RpAll.unl r v)
  | _, _, _, .od (a := b) h e d r, v => by
    cases v with
    | od v =>
      have ne : b ≠ a := fun e => by rw [e, ha] at h; cases h
      exact .od (by rw [upd_ne ne]; exact h) e d (RpAll.unl r v)
  | _, _, _, .fd (a := b) h e d r, v => by
    cases v with
    | fd ne v => exact .fd (by rw [upd_ne ne]; exact h) e d (RpAll.unl r v)
  | _, _, _, .fk (a := b) h, v => by
    cases v with
    | fk ne => exact .fk (by rw [upd_ne ne]; exact h)
  | _, _, _, .no v, _ => .no v
  | _, _, _, .rd h r, _ => .rd (h.unl ha hF) (r.unl ha hF)
  | _, _, _, .ob (a := b) h c e r, v => by
    cases v with
    | ob v =>
      have ne : b ≠ a := fun e => by rw [e, ha] at h; cases h
      exact .ob (by rw [upd_ne ne]; exact h) c e (RpAll.unl r v)
  | _, _, _, .ex (a := b) h c e, _ => by
    have ne : b ≠ a := fun e => by rw [e, ha] at h; cases h
    exact .ex (by rw [upd_ne ne]; exact h) c e
theorem RpAll.unl : ∀ {vs : List V} {ts : List T} {A : List Addr}, RpAll K F H vs ts A → AvdA a ts → RpAll K F' (upd H a (.dK kvs)) vs ts A
  | _, _, _, .nil, _ => .nil
  | _, _, _, .cons x r, v => by
    cases v with
    | cons v1 v2 => exact .cons (Rp.unl x v1) (RpAll.unl r v2)
end
theorem Sl.unl : ∀ {sl : List (Option V)} {ρ : Env} {A : List Addr}, Sl K F H sl ρ A → AvdE a ρ → Sl K F' (upd H a (.dK kvs)) sl ρ A
  | _, _, _, .nil, _ => .nil
  | _, _, _, .skip r, v => .skip (Sl.unl r fun t ht => v t (List.mem_cons_of_mem _ ht))
  | _, _, _, .cons x r, v => .cons (x.unl ha hF (v _ List.mem_cons_self)) (Sl.unl r fun t ht => v t (List.mem_cons_of_mem _ ht))
end
end
section
variable {K : PySem.W.Frag} {c : C0}
end
section
variable {X : Cx} {E : Str → Hp → Prop} {io : List Nat} {pos : Pos}
end
end L3
namespace L3
open PySem PySem.Spec PyProof.Rows L2
section
variable {X : Cx} {E : Str → Hp → Prop} {x : Str} {p pos : Pos} {rr : List V → Hp → VK → Prop} {op : List T → R RV} {e : Expr} {es : List Expr} {t : TA}
end
end L3
namespace L2
open PySem PySem.Spec PyProof.Rows
end L2
namespace L3
open PySem PySem.Spec PyProof.Rows L2
def errAt (a : Addr) (b : Bool) : T → Option PyData
  | .no (.ref x) => if x = a then some (.bool b) else none
  | _ => none
@[simp] theorem errAt_at {a : Addr} {b : Bool} : errAt a b (.no (.ref a)) = some (.bool b) := by
  show (if a = a then _ else _) = _
  rw [if_pos rfl]
section
variable {X : Cx} {E : Str → Hp → Prop} {e : Expr} {te : TE} {ma : MP} {p p2 pos : Pos} {y : Str} {C D a : Addr} {n : String} {Cs : List Addr} {oe : Obj} {pn : List (Addr × Obj)} {b : Bool}
end
section
variable {X : Cx} {x n z : Str} {C D : Addr} {i j : Nat} {b₀ : Stmt} {body suite : List Stmt} {np pos pos' : Pos} {mb : MS} {t : T} {mh : Addr → MS} {E : Str → Hp → Prop}
end
end L3
namespace L3
open PySem PySem.Spec PyProof.Rows L2
section
variable {X : Cx} {E : Str → Hp → Prop} {a b : Expr} {ta tb : TE} {ma mb : MEx} {g g2 : Bool} {p p2 pos pos2 : Pos}
end
end L3
namespace L3
open PySem PySem.Spec PyProof.Rows L2
section
variable {X : Cx} {E : Str → Hp → Prop} {tg a b : Expr} {ta tb : TE} {ma mb : MEx} {g g2 : Bool} {p p2 pos pos2 : Pos}
end
end L3
namespace L3
open PySem PySem.Spec PyProof.Rows L2 RT
end L3
namespace Sr
open PySem PySem.Spec PyProof.Rows L2 L3
@[irreducible] noncomputable def m_divisor : List T → R (T × List T) := mFn [] 0 (
    mSeq (mWhile (mTest (mLift (pBin opNe (pVar 1) (pC (.int 0))))) (mPar 0 1 (mCons (mVar 1) (mCons (mLift (pBin opMod (pVar 0) (pVar 1))) (mNil))))) <|
    mRet (mLift (pCallB opAbs (pCons (pVar 0) (pNil)))))
@[irreducible] noncomputable def m_below : List T → R (T × List T) := mFn [] 0 (
    mRet (mLift (pBin opLt (pBin opMulI (pBin opIdx (pVar 0) (pC (.int 0))) (pBin opIdx (pVar 1) (pC (.int 1)))) (pBin opMulI (pBin opIdx (pVar 1) (pC (.int 0))) (pBin opIdx (pVar 0) (pC (.int 1)))))))
@[irreducible] noncomputable def m__law_deck : List T → R (T × List T) := mFn [] 1 (
    mSeq (mAsg (mFz (mCallB opListOf (mCons (mFz (mSl opSlL (pVar 0) (oNone) (oSome (pC (.int 63))))) (mNil)))) (mgName 1)) <|
    mSeq (mIfS (mTest (mBin opEq (mVar 1) (mFz (mLst (mNil))))) (mAsg (mFz (mLst (mCons (mLift (pC (.int 0))) (mNil)))) (mgName 1)) (mNext)) <|
    mRet (mFz (mLst (mCons (mVar 1) (mCons (mLift (pBin opMod (pCallB opLen (pCons (pVar 0) (pNil))) (pC (.int 2)))) (mCons (mLift (pC (.int 0))) (mNil)))))))
@[irreducible] noncomputable def m__law_draw : List T → R (T × List T) := mFn [0] 3 (
    mSeq (mAsg (mLift (pBin opMod (pBin opIdx (pVar 0) (pC (.int 2))) (pCallB opLen (pCons (pBin opIdx (pVar 0) (pC (.int 0))) (pNil))))) (mgName 2)) <|
    mSeq (mAsg (mLift (pBin opAdd (pBin opIdx (pVar 0) (pC (.int 2))) (pC (.int 1)))) (mgItem 0 (lHere) (pC (.int 2)))) <|
    mSeq (mIfS (mTest (mLift (pBin opEq (pBin opIdx (pVar 0) (pC (.int 1))) (pC (.int 0))))) (mSeq (mAsg (mLift (pBin opMod (pBin opIdx (pBin opIdx (pVar 0) (pC (.int 0))) (pVar 2)) (pVar 1))) (mgName 4)) <|
    mSeq (mAsg (mLift (pBin opFdiv (pBin opIdx (pBin opIdx (pVar 0) (pC (.int 0))) (pVar 2)) (pVar 1))) (mgItem 0 (lIx (lHere) (pC (.int 0))) (pVar 2))) <|
    mRet (mVar 4)) (mNext)) <|
    mSeq (mAsg (mLift (pBin opMod (pBin opAdd (pBin opMulI (pBin opMod (pBin opIdx (pBin opIdx (pVar 0) (pC (.int 0))) (pVar 2)) (pC (.int 1000000021))) (pC (.int 6563))) (pBin opMulI (pBin opIdx (pVar 0) (pC (.int 2))) (pC (.int 130363)))) (pC (.int 1000000033)))) (mgName 3)) <|
    mSeq (mAsg (mLift (pBin opMod (pBin opMulI (pVar 3) (pVar 3)) (pC (.int 469762049)))) (mgName 3)) <|
    mRet (mLift (pBin opMod (pBin opFdiv (pBin opMod (pBin opAdd (pBin opMulI (pVar 3) (pC (.int 29443))) (pBin opIdx (pVar 0) (pC (.int 2)))) (pC (.int 167772161))) (pC (.int 3))) (pVar 1))))
@[irreducible] noncomputable def m__law_divisor : List T → R (T × List T) := mFn [] 0 (
    mSeq (mWhile (mTest (mLift (pBin opNe (pVar 1) (pC (.int 0))))) (mPar 0 1 (mCons (mVar 1) (mCons (mLift (pBin opMod (pVar 0) (pVar 1))) (mNil))))) <|
    mRet (mLift (pCallB opAbs (pCons (pVar 0) (pNil)))))
@[irreducible] noncomputable def m_fraction : List T → R (T × List T) := mFn [] 1 (
    mSeq (mIfS (mTest (mLift (pBin opEq (pVar 1) (pC (.int 0))))) (mNever) (mNext)) <|
    mSeq (mAsg (mCallF false false 2 m_divisor [none, none] (mbCons (mVar 0) (mbCons (mVar 1) (mbNil)))) (mgName 2)) <|
    mSeq (mIfS (mTest (mLift (pBin opLt (pVar 1) (pC (.int 0))))) (mAsg (mLift (pBin opSub (pC (.int 0)) (pVar 2))) (mgName 2)) (mNext)) <|
    mRet (mTup (mCons (mLift (pBin opFdiv (pVar 0) (pVar 2))) (mCons (mLift (pBin opFdiv (pVar 1) (pVar 2))) (mNil)))))
@[irreducible] noncomputable def m__law_low : List T → R (T × List T) := mFn [] 1 (
    mSeq (mAsg (mCallF false false 2 m__law_divisor [none, none] (mbCons (mVar 0) (mbCons (mVar 1) (mbNil)))) (mgName 2)) <|
    mSeq (mIfS (mTest (mLift (pBin opLt (pVar 1) (pC (.int 0))))) (mAsg (mLift (pBin opSub (pC (.int 0)) (pVar 2))) (mgName 2)) (mNext)) <|
    mRet (mTup (mCons (mLift (pBin opFdiv (pVar 0) (pVar 2))) (mCons (mLift (pBin opFdiv (pVar 1) (pVar 2))) (mNil)))))
@[irreducible] noncomputable def m__law_far : List T → R (T × List T) := mFn [0] 2 (
    mSeq (mAsg (mLift (pC (.int 0))) (mgName 1)) <|
    mSeq (mFor (miR1 (mCons (mLift (pC (.int 3))) (mNil))) (mgName 2) (mAsg (mBin opAdd (mBin opAdd (mLift (pBin opMulI (pVar 1) (pBin opPow (pC (.int 10)) (pC (.int 12))))) (mBin opMulI (mCallF false false 2 m__law_draw [some 0, none] (mbIo 0 (mbCons (mLift (pBin opPow (pC (.int 10)) (pC (.int 6)))) (mbNil)))) (mLift (pBin opPow (pC (.int 10)) (pC (.int 6)))))) (mCallF false false 2 m__law_draw [some 0, none] (mbIo 0 (mbCons (mLift (pBin opPow (pC (.int 10)) (pC (.int 6)))) (mbNil))))) (mgName 1))) <|
    mRet (mBin opMulI (mVar 1) (mBin opIdx (mLst (mCons (mLift (pC (.int 1))) (mCons (mLift (pUn opNeg (pC (.int 1)))) (mNil)))) (mCallF false false 2 m__law_draw [some 0, none] (mbIo 0 (mbCons (mLift (pC (.int 2))) (mbNil)))))))
@[irreducible] noncomputable def m__law_is : List T → R (T × List T) := mFn [] 1 (
    mSeq (mIfS (mOr (mNot (mTest (mLift (pIsa "tuple" (pVar 0))))) (mTest (mLift (pBin opNe (pCallB opLen (pCons (pVar 0) (pNil))) (pC (.int 2)))))) (mRet (mLift (pC (.bool false)))) (mNext)) <|
    mSeq (mIfS (mTest (mBin opNe (mFz (mLc (miT (mVar 0)) (mgName 3) (mOr (mNot (mTest (mLift (pIsa "int" (pVar 3))))) (mTest (mLift (pIsa "bool" (pVar 3))))) (mVar 3) [3])) (mFz (mLst (mNil))))) (mRet (mLift (pC (.bool false)))) (mNext)) <|
    mRet (mAndV (mLift (pBin opGt (pBin opIdx (pVar 0) (pC (.int 1))) (pC (.int 0)))) (mAndV (mLift (pBin opEq (pBin opMulI (pBin opIdx (pVar 0) (pC (.int 0))) (pVar 2)) (pBin opMulI (pVar 1) (pBin opIdx (pVar 0) (pC (.int 1)))))) (mBin opEq (mCallF false false 2 m__law_divisor [none, none] (mbCons (mLift (pBin opIdx (pVar 0) (pC (.int 0)))) (mbCons (mLift (pBin opIdx (pVar 0) (pC (.int 1)))) (mbNil)))) (mLift (pC (.int 1)))))))
@[irreducible] noncomputable def m_plus : List T → R (T × List T) := mFn [] 0 (
    mRet (mCallF false false 2 m_fraction [none, none] (mbCons (mLift (pBin opAdd (pBin opMulI (pBin opIdx (pVar 0) (pC (.int 0))) (pBin opIdx (pVar 1) (pC (.int 1)))) (pBin opMulI (pBin opIdx (pVar 1) (pC (.int 0))) (pBin opIdx (pVar 0) (pC (.int 1)))))) (mbCons (mLift (pBin opMulI (pBin opIdx (pVar 0) (pC (.int 1))) (pBin opIdx (pVar 1) (pC (.int 1))))) (mbNil)))))
@[irreducible] noncomputable def m_minus : List T → R (T × List T) := mFn [] 0 (
    mRet (mCallF false false 2 m_fraction [none, none] (mbCons (mLift (pBin opSub (pBin opMulI (pBin opIdx (pVar 0) (pC (.int 0))) (pBin opIdx (pVar 1) (pC (.int 1)))) (pBin opMulI (pBin opIdx (pVar 1) (pC (.int 0))) (pBin opIdx (pVar 0) (pC (.int 1)))))) (mbCons (mLift (pBin opMulI (pBin opIdx (pVar 0) (pC (.int 1))) (pBin opIdx (pVar 1) (pC (.int 1))))) (mbNil)))))
@[irreducible] noncomputable def m_times : List T → R (T × List T) := mFn [] 0 (
    mRet (mCallF false false 2 m_fraction [none, none] (mbCons (mLift (pBin opMulI (pBin opIdx (pVar 0) (pC (.int 0))) (pBin opIdx (pVar 1) (pC (.int 0))))) (mbCons (mLift (pBin opMulI (pBin opIdx (pVar 0) (pC (.int 1))) (pBin opIdx (pVar 1) (pC (.int 1))))) (mbNil)))))
@[irreducible] noncomputable def m_over : List T → R (T × List T) := mFn [] 0 (
    mRet (mCallF false false 2 m_fraction [none, none] (mbCons (mLift (pBin opMulI (pBin opIdx (pVar 0) (pC (.int 0))) (pBin opIdx (pVar 1) (pC (.int 1))))) (mbCons (mLift (pBin opMulI (pBin opIdx (pVar 0) (pC (.int 1))) (pBin opIdx (pVar 1) (pC (.int 0))))) (mbNil)))))
@[irreducible] noncomputable def m__law_whole : List T → R (T × List T) := mFn [0] 1 (
    mSeq (mAsg (mBin opIdx (mLst (mCons (mCallF false false 1 m__law_far [some 0] (mbIo 0 (mbNil))) (mCons (mBin opSub (mLift (pBin opSub (pBin opPow (pC (.int 10)) (pC (.int 40))) (pC (.int 1)))) (mCallF false false 2 m__law_draw [some 0, none] (mbIo 0 (mbCons (mLift (pC (.int 9))) (mbNil))))) (mCons (mLift (pBin opSub (pC (.int 1)) (pBin opPow (pC (.int 10)) (pC (.int 40))))) (mNil))))) (mCallF false false 2 m__law_draw [some 0, none] (mbIo 0 (mbCons (mLift (pC (.int 3))) (mbNil))))) (mgName 1)) <|
    mRet (mBin opIdx (mLst (mCons (mBin opSub (mCallF false false 2 m__law_draw [some 0, none] (mbIo 0 (mbCons (mLift (pC (.int 5))) (mbNil)))) (mLift (pC (.int 2)))) (mCons (mBin opSub (mCallF false false 2 m__law_draw [some 0, none] (mbIo 0 (mbCons (mLift (pC (.int 61))) (mbNil)))) (mLift (pC (.int 30)))) (mCons (mVar 1) (mNil))))) (mBin opIdx (mLst (mCons (mLift (pC (.int 0))) (mCons (mLift (pC (.int 1))) (mCons (mLift (pC (.int 1))) (mCons (mLift (pC (.int 2))) (mNil)))))) (mCallF false false 2 m__law_draw [some 0, none] (mbIo 0 (mbCons (mLift (pC (.int 4))) (mbNil)))))))
@[irreducible] noncomputable def m__law_fraction : List T → R (T × List T) := mFn [0] 2 (
    mSeq (mAsg (mBin opIdx (mLst (mCons (mBin opAdd (mLift (pC (.int 1))) (mCallB opAbs (mCons (mCallF false false 1 m__law_far [some 0] (mbIo 0 (mbNil))) (mNil)))) (mCons (mBin opSub (mLift (pBin opSub (pBin opPow (pC (.int 10)) (pC (.int 40))) (pC (.int 1)))) (mCallF false false 2 m__law_draw [some 0, none] (mbIo 0 (mbCons (mLift (pC (.int 9))) (mbNil))))) (mNil)))) (mCallB opInt1 (mCons (mBin opEq (mCallF false false 2 m__law_draw [some 0, none] (mbIo 0 (mbCons (mLift (pC (.int 4))) (mbNil)))) (mLift (pC (.int 3)))) (mNil)))) (mgName 1)) <|
    mSeq (mAsg (mBin opIdx (mLst (mCons (mLift (pC (.int 1))) (mCons (mBin opAdd (mLift (pC (.int 1))) (mCallF false false 2 m__law_draw [some 0, none] (mbIo 0 (mbCons (mLift (pC (.int 12))) (mbNil))))) (mCons (mVar 1) (mNil))))) (mBin opIdx (mLst (mCons (mLift (pC (.int 0))) (mCons (mLift (pC (.int 0))) (mCons (mLift (pC (.int 1))) (mCons (mLift (pC (.int 2))) (mNil)))))) (mCallF false false 2 m__law_draw [some 0, none] (mbIo 0 (mbCons (mLift (pC (.int 4))) (mbNil)))))) (mgName 2)) <|
    mRet (mCallF false false 2 m__law_low [none, none] (mbCons (mCallF false false 1 m__law_whole [some 0] (mbIo 0 (mbNil))) (mbCons (mVar 2) (mbNil)))))
@[irreducible] noncomputable def m__law_good : List T → R (T × List T) := mFn [] 5 (
    mSeq (mAsg (mVar 0) (mgTup 2 (mgCons (mgName 3) (mgCons (mgName 4) (mgNil))))) <|
    mSeq (mAsg (mVar 1) (mgTup 2 (mgCons (mgName 5) (mgCons (mgName 6) (mgNil))))) <|
    mSeq (mIfS (mOr (mNot (mTest (mCallF false false 3 m__law_is [none, none, none] (mbCons (mCallF false false 2 m_plus [none, none] (mbCons (mVar 0) (mbCons (mVar 1) (mbNil)))) (mbCons (mLift (pBin opAdd (pBin opMulI (pVar 3) (pVar 6)) (pBin opMulI (pVar 5) (pVar 4)))) (mbCons (mLift (pBin opMulI (pVar 4) (pVar 6))) (mbNil))))))) (mNot (mTest (mCallF false false 3 m__law_is [none, none, none] (mbCons (mCallF false false 2 m_minus [none, none] (mbCons (mVar 0) (mbCons (mVar 1) (mbNil)))) (mbCons (mLift (pBin opSub (pBin opMulI (pVar 3) (pVar 6)) (pBin opMulI (pVar 5) (pVar 4)))) (mbCons (mLift (pBin opMulI (pVar 4) (pVar 6))) (mbNil)))))))) (mRet (mLift (pC (.bool false)))) (mNext)) <|
    mSeq (mIfS (mOr (mNot (mTest (mCallF false false 3 m__law_is [none, none, none] (mbCons (mCallF false false 2 m_times [none, none] (mbCons (mVar 0) (mbCons (mVar 1) (mbNil)))) (mbCons (mLift (pBin opMulI (pVar 3) (pVar 5))) (mbCons (mLift (pBin opMulI (pVar 4) (pVar 6))) (mbNil))))))) (mAnd (mTest (mLift (pBin opNe (pVar 5) (pC (.int 0))))) (mNot (mTest (mCallF false false 3 m__law_is [none, none, none] (mbCons (mCallF false false 2 m_over [none, none] (mbCons (mVar 0) (mbCons (mVar 1) (mbNil)))) (mbCons (mLift (pBin opMulI (pVar 3) (pVar 6))) (mbCons (mLift (pBin opMulI (pVar 4) (pVar 5))) (mbNil))))))))) (mRet (mLift (pC (.bool false)))) (mNext)) <|
    mSeq (mAsg (mCallF false false 2 m_below [none, none] (mbCons (mVar 0) (mbCons (mVar 1) (mbNil)))) (mgName 2)) <|
    mRet (mAndV (mLift (pIsa "bool" (pVar 2))) (mLift (pBin opEq (pVar 2) (pBin opLt (pBin opMulI (pVar 3) (pVar 6)) (pBin opMulI (pVar 5) (pVar 4)))))))
@[irreducible] noncomputable def m_show : List T → R (T × List T) := mFn [] 0 (
    mSeq (mIfS (mTest (mLift (pBin opEq (pBin opIdx (pVar 0) (pC (.int 1))) (pC (.int 1))))) (mRet (mCallB opStrI (mCons (mLift (pBin opIdx (pVar 0) (pC (.int 0)))) (mNil)))) (mNext)) <|
    mRet (mBin opAdd (mBin opAdd (mCallB opStrI (mCons (mLift (pBin opIdx (pVar 0) (pC (.int 0)))) (mNil))) (mLift (pC (.str "/")))) (mCallB opStrI (mCons (mLift (pBin opIdx (pVar 0) (pC (.int 1)))) (mNil)))))
@[irreducible] noncomputable def m__law_figures : List T → R (T × List T) := mFn [] 1 (
    mSeq (mAsg (mLift (pC (.str ""))) (mgName 1)) <|
    mSeq (mWhile (mTest (mLift (pBin opGt (pVar 0) (pC (.int 0))))) (mSeq (mAsg (mLift (pBin opAdd (pBin opIdx (pC (.str "0123456789")) (pBin opMod (pVar 0) (pC (.int 10)))) (pVar 1))) (mgName 1)) <|
    mAsg (mLift (pBin opFdiv (pVar 0) (pC (.int 10)))) (mgName 0))) <|
    mRet (mBin opIdx (mLst (mCons (mVar 1) (mCons (mLift (pC (.str "0"))) (mNil)))) (mLift (pCallB opInt1 (pCons (pBin opEq (pVar 1) (pC (.str ""))) (pNil))))))
@[irreducible] noncomputable def m__law_text : List T → R (T × List T) := mFn [] 1 (
    mSeq (mAsg (mBin opAdd (mBin opIdx (mLst (mCons (mLift (pC (.str ""))) (mCons (mLift (pC (.str "-"))) (mNil)))) (mLift (pCallB opInt1 (pCons (pBin opLt (pBin opIdx (pVar 0) (pC (.int 0))) (pC (.int 0))) (pNil))))) (mCallF false false 1 m__law_figures [none] (mbCons (mLift (pCallB opAbs (pCons (pBin opIdx (pVar 0) (pC (.int 0))) (pNil)))) (mbNil)))) (mgName 1)) <|
    mSeq (mIfS (mTest (mLift (pBin opGt (pBin opIdx (pVar 0) (pC (.int 1))) (pC (.int 1))))) (mAsg (mBin opAdd (mLift (pBin opAdd (pVar 1) (pC (.str "/")))) (mCallF false false 1 m__law_figures [none] (mbCons (mLift (pBin opIdx (pVar 0) (pC (.int 1)))) (mbNil)))) (mgName 1)) (mNext)) <|
    mRet (mVar 1))
end Sr
namespace L3
open PySem PySem.Spec PyProof.Rows L2
end L3
namespace Sr
open PySem PySem.Spec PyProof.Rows L2 L3
@[irreducible] noncomputable def m_law_39 : List T → R (T × List T) := mFn [] 9 (
    mSeq (mAsg (mBin opIdx (mCallF false false 1 m__law_deck [none] (mbCons (mRd 0) (mbNil))) (mLift (pC (.int 0)))) (mgName 1)) <|
    mSeq (mAsg (mDispE) (mgName 2)) <|
    mSeq (mFor (miR1 (mCons (mLift (pCallB opLen (pCons (pVar 1) (pNil)))) (mNil))) (mgName 3) (mSeq (mAsg (mLst (mCons (mLst (mCons (mLift (pBin opIdx (pVar 1) (pVar 3))) (mNil))) (mCons (mLift (pBin opMod (pCallB opLen (pCons (pVar 0) (pNil))) (pC (.int 2)))) (mCons (mLift (pBin opMulI (pC (.int 7)) (pVar 3))) (mNil))))) (mgName 4)) <|
    mSeq (mAsg (mCallF false false 1 m__law_fraction [some 4] (mbIo 4 (mbNil))) (mgName 5)) <|
    mSeq (mAsg (mCallF false false 2 m__law_low [none, none] (mbCons (mCallF false false 1 m__law_far [some 4] (mbIo 4 (mbNil))) (mbCons (mBin opAdd (mLift (pC (.int 1))) (mCallB opAbs (mCons (mCallF false false 1 m__law_far [some 4] (mbIo 4 (mbNil))) (mNil)))) (mbNil)))) (mgName 6)) <|
    mSeq (mAsg (mLst (mCons (mVar 5) (mCons (mTup (mCons (mLift (pBin opSub (pC (.int 0)) (pBin opIdx (pVar 5) (pC (.int 0))))) (mCons (mLift (pBin opIdx (pVar 5) (pC (.int 1)))) (mNil)))) (mCons (mTup (mCons (mLift (pBin opIdx (pVar 5) (pC (.int 0)))) (mCons (mLift (pC (.int 1))) (mNil)))) (mCons (mCallF false false 2 m_plus [none, none] (mbCons (mVar 5) (mbCons (mVar 6) (mbNil)))) (mCons (mCallF false false 2 m_times [none, none] (mbCons (mVar 5) (mbCons (mCallF false false 2 m_plus [none, none] (mbCons (mVar 5) (mbCons (mVar 6) (mbNil)))) (mbNil)))) (mNil))))))) (mgName 7)) <|
    mSeq (mIfS (mTest (mLift (pBin opNe (pBin opIdx (pVar 6) (pC (.int 0))) (pC (.int 0))))) (mDrop (mMeth 7 (lHere) opAppend (mCons (mCallF false false 2 m_over [none, none] (mbCons (mCallF false false 2 m_times [none, none] (mbCons (mVar 5) (mbCons (mVar 5) (mbNil)))) (mbCons (mVar 6) (mbNil)))) (mNil)))) (mNext)) <|
    mFor (miL (mVar 7)) (mgName 8) (mSeq (mAsg (mCallF false false 1 m_show [none] (mbCons (mVar 8) (mbNil))) (mgName 9)) <|
    mSeq (mIfS (mOr (mNot (mTest (mLift (pIsa "str" (pVar 9))))) (mOr (mTest (mBin opNe (mVar 9) (mCallF false false 1 m__law_text [none] (mbCons (mVar 8) (mbNil))))) (mTest (mLift (pBin opNe (pGet2 (pVar 2) (pVar 9) (pVar 8)) (pVar 8)))))) (mRet (mLift (pC (.bool false)))) (mNext)) <|
    mKeySet 2 (kHere) (pVar 9) (mMove 8)))) <|
    mRet (mBin opEq (mCallF false false 1 m_show [none] (mbCons (mTup (mCons (mLift (pC (.int 0))) (mCons (mLift (pC (.int 1))) (mNil)))) (mbNil))) (mLift (pC (.str "0")))))
end Sr
namespace Sr
open PySem PySem.Spec PyProof.Rows L2 L3
def topS (i : Nat) : Stmt := PySem.Challenge.pw_shimright_k04_fractions_shown.main.body.getD i (.Pass ⟨0, 0, 0, 0⟩)
abbrev s_divisor : Stmt := topS 4
abbrev N_divisor : List Str := ["one", "other"]
theorem sc_divisor : FnScope N_divisor ["one", "other"] (defScope s_divisor) := ⟨rfl, rfl, rfl, by decide +kernel, rfl, by decide +kernel, by decide +kernel⟩
abbrev s_show : Stmt := topS 9
abbrev N_show : List Str := ["q"]
theorem sc_show : FnScope N_show ["q"] (defScope s_show) := ⟨rfl, rfl, rfl, by decide +kernel, rfl, by decide +kernel, by decide +kernel⟩
abbrev s__law_deck : Stmt := topS 11
abbrev N__law_deck : List Str := ["script", "cells"]
theorem sc__law_deck : FnScope N__law_deck ["script"] (defScope s__law_deck) := ⟨rfl, rfl, rfl, by decide +kernel, rfl, by decide +kernel, by decide +kernel⟩
abbrev s__law_draw : Stmt := topS 12
abbrev N__law_draw : List Str := ["deck", "many", "at", "number", "found"]
theorem sc__law_draw : FnScope N__law_draw ["deck", "many"] (defScope s__law_draw) := ⟨rfl, rfl, rfl, by decide +kernel, rfl, by decide +kernel, by decide +kernel⟩
abbrev s__law_divisor : Stmt := topS 13
abbrev N__law_divisor : List Str := ["one", "other"]
theorem sc__law_divisor : FnScope N__law_divisor ["one", "other"] (defScope s__law_divisor) := ⟨rfl, rfl, rfl, by decide +kernel, rfl, by decide +kernel, by decide +kernel⟩
abbrev s__law_figures : Stmt := topS 18
abbrev N__law_figures : List Str := ["number", "found"]
theorem sc__law_figures : FnScope N__law_figures ["number"] (defScope s__law_figures) := ⟨rfl, rfl, rfl, by decide +kernel, rfl, by decide +kernel, by decide +kernel⟩
abbrev s_fraction : Stmt := topS 5
abbrev N_fraction : List Str := ["top", "bottom", "many"]
theorem sc_fraction : FnScope N_fraction ["top", "bottom"] (defScope s_fraction) := ⟨rfl, rfl, rfl, by decide +kernel, rfl, by decide +kernel, by decide +kernel⟩
abbrev s__law_low : Stmt := topS 14
abbrev N__law_low : List Str := ["top", "bottom", "many"]
theorem sc__law_low : FnScope N__law_low ["top", "bottom"] (defScope s__law_low) := ⟨rfl, rfl, rfl, by decide +kernel, rfl, by decide +kernel, by decide +kernel⟩
abbrev s__law_far : Stmt := topS 15
abbrev N__law_far : List Str := ["deck", "found", "k"]
theorem sc__law_far : FnScope N__law_far ["deck"] (defScope s__law_far) := ⟨rfl, rfl, rfl, by decide +kernel, rfl, by decide +kernel, by decide +kernel⟩
abbrev s__law_text : Stmt := topS 19
abbrev N__law_text : List Str := ["q", "found"]
theorem sc__law_text : FnScope N__law_text ["q"] (defScope s__law_text) := ⟨rfl, rfl, rfl, by decide +kernel, rfl, by decide +kernel, by decide +kernel⟩
abbrev s_plus : Stmt := topS 6
abbrev N_plus : List Str := ["q", "r"]
theorem sc_plus : FnScope N_plus ["q", "r"] (defScope s_plus) := ⟨rfl, rfl, rfl, by decide +kernel, rfl, by decide +kernel, by decide +kernel⟩
abbrev s_times : Stmt := topS 7
abbrev N_times : List Str := ["q", "r"]
theorem sc_times : FnScope N_times ["q", "r"] (defScope s_times) := ⟨rfl, rfl, rfl, by decide +kernel, rfl, by decide +kernel, by decide +kernel⟩
abbrev s_over : Stmt := topS 8
abbrev N_over : List Str := ["q", "r"]
theorem sc_over : FnScope N_over ["q", "r"] (defScope s_over) := ⟨rfl, rfl, rfl, by decide +kernel, rfl, by decide +kernel, by decide +kernel⟩
abbrev s__law_whole : Stmt := topS 16
abbrev N__law_whole : List Str := ["deck", "far"]
theorem sc__law_whole : FnScope N__law_whole ["deck"] (defScope s__law_whole) := ⟨rfl, rfl, rfl, by decide +kernel, rfl, by decide +kernel, by decide +kernel⟩
abbrev s__law_fraction : Stmt := topS 17
abbrev N__law_fraction : List Str := ["deck", "far", "bottom"]
theorem sc__law_fraction : FnScope N__law_fraction ["deck"] (defScope s__law_fraction) := ⟨rfl, rfl, rfl, by decide +kernel, rfl, by decide +kernel, by decide +kernel⟩
abbrev s_law : Stmt := topS 20
abbrev N_law : List Str := ["script", "cells", "told", "k", "deck", "q", "r", "some", "one", "found"]
theorem sc_law : FnScope N_law ["script"] (defScope s_law) := ⟨rfl, rfl, rfl, by decide +kernel, rfl, by decide +kernel, by decide +kernel⟩
structure Tx (K : PySem.W.Frag) (mg : Str → Option Value) where
  f_divisor : Addr
  d_divisor : FuncData
  F_divisor : Fun K "divisor" "divisor" s_divisor f_divisor d_divisor
  b_divisor : Binds K d_divisor ["one", "other"] []
  g_divisor : mg "divisor" = some (.ref f_divisor)
  f_show : Addr
  d_show : FuncData
  F_show : Fun K "show" "show" s_show f_show d_show
  b_show : Binds K d_show ["q"] []
  g_show : mg "show" = some (.ref f_show)
  f__law_deck : Addr
  d__law_deck : FuncData
  F__law_deck : Fun K "_law_deck" "_law_deck" s__law_deck f__law_deck d__law_deck
  b__law_deck : Binds K d__law_deck ["script"] []
  g__law_deck : mg "_law_deck" = some (.ref f__law_deck)
  f__law_draw : Addr
  d__law_draw : FuncData
  F__law_draw : Fun K "_law_draw" "_law_draw" s__law_draw f__law_draw d__law_draw
  b__law_draw : Binds K d__law_draw ["deck", "many"] []
  g__law_draw : mg "_law_draw" = some (.ref f__law_draw)
  f__law_divisor : Addr
  d__law_divisor : FuncData
  F__law_divisor : Fun K "_law_divisor" "_law_divisor" s__law_divisor f__law_divisor d__law_divisor
  b__law_divisor : Binds K d__law_divisor ["one", "other"] []
  g__law_divisor : mg "_law_divisor" = some (.ref f__law_divisor)
  f__law_figures : Addr
  d__law_figures : FuncData
  F__law_figures : Fun K "_law_figures" "_law_figures" s__law_figures f__law_figures d__law_figures
  b__law_figures : Binds K d__law_figures ["number"] []
  g__law_figures : mg "_law_figures" = some (.ref f__law_figures)
  f_fraction : Addr
  d_fraction : FuncData
  F_fraction : Fun K "fraction" "fraction" s_fraction f_fraction d_fraction
  b_fraction : Binds K d_fraction ["top", "bottom"] []
  g_fraction : mg "fraction" = some (.ref f_fraction)
  f__law_low : Addr
  d__law_low : FuncData
  F__law_low : Fun K "_law_low" "_law_low" s__law_low f__law_low d__law_low
  b__law_low : Binds K d__law_low ["top", "bottom"] []
  g__law_low : mg "_law_low" = some (.ref f__law_low)
  f__law_far : Addr
  d__law_far : FuncData
  F__law_far : Fun K "_law_far" "_law_far" s__law_far f__law_far d__law_far
  b__law_far : Binds K d__law_far ["deck"] []
  g__law_far : mg "_law_far" = some (.ref f__law_far)
  f__law_text : Addr
  d__law_text : FuncData
  F__law_text : Fun K "_law_text" "_law_text" s__law_text f__law_text d__law_text
  b__law_text : Binds K d__law_text ["q"] []
  g__law_text : mg "_law_text" = some (.ref f__law_text)
  f_plus : Addr
  d_plus : FuncData
  F_plus : Fun K "plus" "plus" s_plus f_plus d_plus
  b_plus : Binds K d_plus ["q", "r"] []
  g_plus : mg "plus" = some (.ref f_plus)
  f_times : Addr
  d_times : FuncData
  F_times : Fun K "times" "times" s_times f_times d_times
  b_times : Binds K d_times ["q", "r"] []
  g_times : mg "times" = some (.ref f_times)
  f_over : Addr
  d_over : FuncData
  F_over : Fun K "over" "over" s_over f_over d_over
  b_over : Binds K d_over ["q", "r"] []
  g_over : mg "over" = some (.ref f_over)
  f__law_whole : Addr
  d__law_whole : FuncData
  F__law_whole : Fun K "_law_whole" "_law_whole" s__law_whole f__law_whole d__law_whole
  b__law_whole : Binds K d__law_whole ["deck"] []
  g__law_whole : mg "_law_whole" = some (.ref f__law_whole)
  f__law_fraction : Addr
  d__law_fraction : FuncData
  F__law_fraction : Fun K "_law_fraction" "_law_fraction" s__law_fraction f__law_fraction d__law_fraction
  b__law_fraction : Binds K d__law_fraction ["deck"] []
  g__law_fraction : mg "_law_fraction" = some (.ref f__law_fraction)
  f_law : Addr
  d_law : FuncData
  F_law : Fun K "law" "law" s_law f_law d_law
  b_law : Binds K d_law ["script"] []
  g_law : mg "law" = some (.ref f_law)
  z_abs : mg "abs" = none
  z_int : mg "int" = none
  z_isinstance : mg "isinstance" = none
  z_len : mg "len" = none
  z_list : mg "list" = none
  z_range : mg "range" = none
  z_str : mg "str" = none
section
variable {P : Program} {w : World} {K : PySem.W.Frag} {mg : Str → Option Value} {base : Heap}
theorem ok_divisor (T : Tx K mg) : FnOk P w K mg base CX0 1 T.f_divisor T.d_divisor ["one", "other"] (spT K false (fun _ => none) 2 [] m_divisor) := by
  unfold m_divisor
  refine fnT (N := N_divisor) (ps := ["one", "other"]) (k := 0) T.F_divisor sc_divisor (by decide) (by decide) fun cdv A outer s H E hr => ?_
  exact ⟨_, qss_cons (qs_while PassesOwn.never (qt_pcmp (op_neA hr.units) opNe_v (qp_var 1) (qp_int) (nomark _)) (qss_one (qs_par (i := 0) (j := 1) rfl sc_divisor.nd (qa_cons (qe_var 1) (qa_cons (QP.lift (qp_op op_modA opMod_v (qp_var 0) (qp_var 1))) (qa_nil)))))) <|
    qss_one (qs_ret (QP.lift (qp_callB call_absA opAbs_v T.z_abs bt_abs (qpa_cons (qp_var 0) (qpa_nil)))))⟩
theorem ok_show (T : Tx K mg) : FnOk P w K mg base CX0 1 T.f_show T.d_show ["q"] (spT K false (fun _ => none) 1 [] m_show) := by
  unfold m_show
  refine fnT (N := N_show) (ps := ["q"]) (k := 0) T.F_show sc_show (by decide) (by decide) fun cdv A outer s H E hr => ?_
  exact ⟨_, qss_cons (qs_if (qt_pcmp (op_eqA hr.units) opEq_v (qp_ix (qp_var 0) (qp_int)) (qp_int) (nomark _)) (qss_one (qs_ret (qe_callTy call_strI opStrI_v opStrI_nox T.z_str bt_str (qa_cons (QP.lift (qp_ix (qp_var 0) (qp_int))) (qa_nil))))) (qss_nil)) <|
    qss_one (qs_ret (qe_op op_addA opAdd_v opAdd_nox (qe_op op_addA opAdd_v opAdd_nox (qe_callTy call_strI opStrI_v opStrI_nox T.z_str bt_str (qa_cons (QP.lift (qp_ix (qp_var 0) (qp_int))) (qa_nil))) (QP.lift (qp_str))) (qe_callTy call_strI opStrI_v opStrI_nox T.z_str bt_str (qa_cons (QP.lift (qp_ix (qp_var 0) (qp_int))) (qa_nil)))))⟩
theorem ok__law_deck (T : Tx K mg) : FnOk P w K mg base CX0 1 T.f__law_deck T.d__law_deck ["script"] (spT K false (fun _ => none) 1 [] m__law_deck) := by
  unfold m__law_deck
  refine fnT (N := N__law_deck) (ps := ["script"]) (k := 0) T.F__law_deck sc__law_deck (by decide) (by decide) fun cdv A outer s H E hr => ?_
  exact ⟨_, qss_cons (qs_set (i := 1) sc__law_deck.nd (QE.fz (qe_callTy call_listOf opListOf_v opListOf_nox T.z_list bt_list (qa_cons (QE.fz (qe_slL (qp_var 0) (qo_none) (qo_some (qp_int)))) (qa_nil))))) <|
    qss_cons (qs_if (qt_cmp (op_eqA hr.units) opEq_v opEq_nox (qe_var 1) (QE.fz (qe_lst (qa_nil))) (nomark _)) (qss_one (qs_set (i := 1) sc__law_deck.nd (QE.fz (qe_lst (qa_cons (QP.lift (qp_int)) (qa_nil)))))) (qss_nil)) <|
    qss_one (qs_ret (QE.fz (qe_lst (qa_cons (qe_var 1) (qa_cons (QP.lift (qp_op op_modA opMod_v (qp_callB call_lenA opLen_v T.z_len bt_len (qpa_cons (qp_var 0) (qpa_nil))) (qp_int))) (qa_cons (QP.lift (qp_int)) (qa_nil)))))))⟩
theorem ok__law_draw (T : Tx K mg) : FnOk P w K mg base CX0 1 T.f__law_draw T.d__law_draw ["deck", "many"] (spT K false (fun _ => none) 2 [0] m__law_draw) := by
  unfold m__law_draw
  refine fnT (N := N__law_draw) (ps := ["deck", "many"]) (k := 0) T.F__law_draw sc__law_draw (by decide) (by decide) fun cdv A outer s H E hr => ?_
  exact ⟨_, qss_cons (qs_set (i := 2) sc__law_draw.nd (QP.lift (qp_op op_modA opMod_v (qp_ix (qp_var 0) (qp_int)) (qp_callB call_lenA opLen_v T.z_len bt_len (qpa_cons (qp_ix (qp_var 0) (qp_int)) (qpa_nil)))))) <|
    qss_cons (qs_asg (QP.lift (qp_op op_addA opAdd_v (qp_ix (qp_var 0) (qp_int)) (qp_int))) (qg_item (ql_name 0) (qp_int))) <|
    qss_cons (qs_if (qt_pcmp (op_eqA hr.units) opEq_v (qp_ix (qp_var 0) (qp_int)) (qp_int) (nomark _)) (qss_cons (qs_set (i := 4) sc__law_draw.nd (QP.lift (qp_op op_modA opMod_v (qp_ix (qp_ix (qp_var 0) (qp_int)) (qp_var 2)) (qp_var 1)))) <|
    qss_cons (qs_asg (QP.lift (qp_op op_fdivA opFdiv_v (qp_ix (qp_ix (qp_var 0) (qp_int)) (qp_var 2)) (qp_var 1))) (qg_item (ql_ix (ql_name 0) (qp_int)) (qp_var 2))) <|
    qss_one (qs_ret (qe_var 4))) (qss_nil)) <|
    qss_cons (qs_set (i := 3) sc__law_draw.nd (QP.lift (qp_op op_modA opMod_v (qp_op op_addA opAdd_v (qp_op op_mulA opMulI_v (qp_op op_modA opMod_v (qp_ix (qp_ix (qp_var 0) (qp_int)) (qp_var 2)) (qp_int)) (qp_int)) (qp_op op_mulA opMulI_v (qp_ix (qp_var 0) (qp_int)) (qp_int))) (qp_int)))) <|
    qss_cons (qs_set (i := 3) sc__law_draw.nd (QP.lift (qp_op op_modA opMod_v (qp_op op_mulA opMulI_v (qp_var 3) (qp_var 3)) (qp_int)))) <|
    qss_one (qs_ret (QP.lift (qp_op op_modA opMod_v (qp_op op_fdivA opFdiv_v (qp_op op_modA opMod_v (qp_op op_addA opAdd_v (qp_op op_mulA opMulI_v (qp_var 3) (qp_int)) (qp_ix (qp_var 0) (qp_int))) (qp_int)) (qp_int)) (qp_var 1))))⟩
theorem ok__law_divisor (T : Tx K mg) : FnOk P w K mg base CX0 1 T.f__law_divisor T.d__law_divisor ["one", "other"] (spT K false (fun _ => none) 2 [] m__law_divisor) := by
  unfold m__law_divisor
  refine fnT (N := N__law_divisor) (ps := ["one", "other"]) (k := 0) T.F__law_divisor sc__law_divisor (by decide) (by decide) fun cdv A outer s H E hr => ?_
  exact ⟨_, qss_cons (qs_while PassesOwn.never (qt_pcmp (op_neA hr.units) opNe_v (qp_var 1) (qp_int) (nomark _)) (qss_one (qs_par (i := 0) (j := 1) rfl sc__law_divisor.nd (qa_cons (qe_var 1) (qa_cons (QP.lift (qp_op op_modA opMod_v (qp_var 0) (qp_var 1))) (qa_nil)))))) <|
    qss_one (qs_ret (QP.lift (qp_callB call_absA opAbs_v T.z_abs bt_abs (qpa_cons (qp_var 0) (qpa_nil)))))⟩
theorem ok__law_figures (T : Tx K mg) : FnOk P w K mg base CX0 1 T.f__law_figures T.d__law_figures ["number"] (spT K false (fun _ => none) 1 [] m__law_figures) := by
  unfold m__law_figures
  refine fnT (N := N__law_figures) (ps := ["number"]) (k := 0) T.F__law_figures sc__law_figures (by decide) (by decide) fun cdv A outer s H E hr => ?_
  exact ⟨_, qss_cons (qs_set (i := 1) sc__law_figures.nd (QP.lift (qp_str))) <|
    qss_cons (qs_while PassesOwn.never (qt_pcmp op_gtA opGt_v (qp_var 0) (qp_int) (nomark _)) (qss_cons (qs_set (i := 1) sc__law_figures.nd (QP.lift (qp_op op_addA opAdd_v (qp_ix (qp_str) (qp_op op_modA opMod_v (qp_var 0) (qp_int))) (qp_var 1)))) <|
    qss_one (qs_set (i := 0) sc__law_figures.nd (QP.lift (qp_op op_fdivA opFdiv_v (qp_var 0) (qp_int)))))) <|
    qss_one (qs_ret (qe_ix (qe_lst (qa_cons (qe_var 1) (qa_cons (QP.lift (qp_str)) (qa_nil)))) (QP.lift (qp_callTy call_int1A opInt1_v T.z_int bt_int (qpa_cons (qp_cmp (op_eqA hr.units) opEq_v (qp_var 1) (qp_str) (nomark _)) (qpa_nil))))))⟩
theorem ok_fraction (T : Tx K mg) : FnOk P w K mg base CX0 2 T.f_fraction T.d_fraction ["top", "bottom"] (spT K false (fun _ => none) 2 [] m_fraction) := by
  unfold m_fraction
  refine fnT (N := N_fraction) (ps := ["top", "bottom"]) (k := 1) T.F_fraction sc_fraction (by decide) (by decide) fun cdv A outer s H E hr => ?_
  exact ⟨_, qss_cons (qs_if (qt_pcmp (op_eqA hr.units) opEq_v (qp_var 1) (qp_int) (nomark _)) (qss_one (qs_never)) (qss_nil)) <|
    qss_cons (qs_set (i := 2) sc_fraction.nd (qe_call (ok_divisor T) hr T.g_divisor T.F_divisor.kp T.b_divisor pass0 (qb_cons (qe_var 0) (qb_cons (qe_var 1) (qb_nil))))) <|
    qss_cons (qs_if (qt_pcmp op_ltA opLt_v (qp_var 1) (qp_int) (nomark _)) (qss_one (qs_set (i := 2) sc_fraction.nd (QP.lift (qp_op op_subA opSub_v (qp_int) (qp_var 2))))) (qss_nil)) <|
    qss_one (qs_ret (qe_tup (qa_cons (QP.lift (qp_op op_fdivA opFdiv_v (qp_var 0) (qp_var 2))) (qa_cons (QP.lift (qp_op op_fdivA opFdiv_v (qp_var 1) (qp_var 2))) (qa_nil)))))⟩
theorem ok__law_low (T : Tx K mg) : FnOk P w K mg base CX0 2 T.f__law_low T.d__law_low ["top", "bottom"] (spT K false (fun _ => none) 2 [] m__law_low) := by
  unfold m__law_low
  refine fnT (N := N__law_low) (ps := ["top", "bottom"]) (k := 1) T.F__law_low sc__law_low (by decide) (by decide) fun cdv A outer s H E hr => ?_
  exact ⟨_, qss_cons (qs_set (i := 2) sc__law_low.nd (qe_call (ok__law_divisor T) hr T.g__law_divisor T.F__law_divisor.kp T.b__law_divisor pass0 (qb_cons (qe_var 0) (qb_cons (qe_var 1) (qb_nil))))) <|
    qss_cons (qs_if (qt_pcmp op_ltA opLt_v (qp_var 1) (qp_int) (nomark _)) (qss_one (qs_set (i := 2) sc__law_low.nd (QP.lift (qp_op op_subA opSub_v (qp_int) (qp_var 2))))) (qss_nil)) <|
    qss_one (qs_ret (qe_tup (qa_cons (QP.lift (qp_op op_fdivA opFdiv_v (qp_var 0) (qp_var 2))) (qa_cons (QP.lift (qp_op op_fdivA opFdiv_v (qp_var 1) (qp_var 2))) (qa_nil)))))⟩
theorem ok__law_far (T : Tx K mg) : FnOk P w K mg base CX0 2 T.f__law_far T.d__law_far ["deck"] (spT K false (fun _ => none) 1 [0] m__law_far) := by
  unfold m__law_far
  refine fnT (N := N__law_far) (ps := ["deck"]) (k := 1) T.F__law_far sc__law_far (by decide) (by decide) fun cdv A outer s H E hr => ?_
  exact ⟨_, qss_cons (qs_set (i := 1) sc__law_far.nd (QP.lift (qp_int))) <|
    qss_cons (qs_for rfl PassesOwn.never (qi_range1 T.z_range (qa_cons (QP.lift (qp_int)) (qa_nil))) (qg_name (i := 2) sc__law_far.nd) (qss_one (qs_set (i := 1) sc__law_far.nd (qe_op op_addA opAdd_v opAdd_nox (qe_op op_addA opAdd_v opAdd_nox (QP.lift (qp_op op_mulA opMulI_v (qp_var 1) (qp_op op_powA opPow_v (qp_int) (qp_int)))) (qe_op op_mulA opMulI_v opI2_nox (qe_call (ok__law_draw T) hr T.g__law_draw T.F__law_draw.kp T.b__law_draw pass0 (qb_io 0 (qb_cons (QP.lift (qp_op op_powA opPow_v (qp_int) (qp_int))) (qb_nil)))) (QP.lift (qp_op op_powA opPow_v (qp_int) (qp_int))))) (qe_call (ok__law_draw T) hr T.g__law_draw T.F__law_draw.kp T.b__law_draw pass0 (qb_io 0 (qb_cons (QP.lift (qp_op op_powA opPow_v (qp_int) (qp_int))) (qb_nil)))))))) <|
    qss_one (qs_ret (qe_op op_mulA opMulI_v opI2_nox (qe_var 1) (qe_ix (qe_lst (qa_cons (QP.lift (qp_int)) (qa_cons (QP.lift (qp_neg (qp_int))) (qa_nil)))) (qe_call (ok__law_draw T) hr T.g__law_draw T.F__law_draw.kp T.b__law_draw pass0 (qb_io 0 (qb_cons (QP.lift (qp_int)) (qb_nil)))))))⟩
theorem ok__law_text (T : Tx K mg) : FnOk P w K mg base CX0 2 T.f__law_text T.d__law_text ["q"] (spT K false (fun _ => none) 1 [] m__law_text) := by
  unfold m__law_text
  refine fnT (N := N__law_text) (ps := ["q"]) (k := 1) T.F__law_text sc__law_text (by decide) (by decide) fun cdv A outer s H E hr => ?_
  exact ⟨_, qss_cons (qs_set (i := 1) sc__law_text.nd (qe_op op_addA opAdd_v opAdd_nox (qe_ix (qe_lst (qa_cons (QP.lift (qp_str)) (qa_cons (QP.lift (qp_str)) (qa_nil)))) (QP.lift (qp_callTy call_int1A opInt1_v T.z_int bt_int (qpa_cons (qp_cmp op_ltA opLt_v (qp_ix (qp_var 0) (qp_int)) (qp_int) (nomark _)) (qpa_nil))))) (qe_call (ok__law_figures T) hr T.g__law_figures T.F__law_figures.kp T.b__law_figures pass0 (qb_cons (QP.lift (qp_callB call_absA opAbs_v T.z_abs bt_abs (qpa_cons (qp_ix (qp_var 0) (qp_int)) (qpa_nil)))) (qb_nil))))) <|
    qss_cons (qs_if (qt_pcmp op_gtA opGt_v (qp_ix (qp_var 0) (qp_int)) (qp_int) (nomark _)) (qss_one (qs_set (i := 1) sc__law_text.nd (qe_op op_addA opAdd_v opAdd_nox (QP.lift (qp_op op_addA opAdd_v (qp_var 1) (qp_str))) (qe_call (ok__law_figures T) hr T.g__law_figures T.F__law_figures.kp T.b__law_figures pass0 (qb_cons (QP.lift (qp_ix (qp_var 0) (qp_int))) (qb_nil)))))) (qss_nil)) <|
    qss_one (qs_ret (qe_var 1))⟩
theorem ok_plus (T : Tx K mg) : FnOk P w K mg base CX0 3 T.f_plus T.d_plus ["q", "r"] (spT K false (fun _ => none) 2 [] m_plus) := by
  unfold m_plus
  refine fnT (N := N_plus) (ps := ["q", "r"]) (k := 2) T.F_plus sc_plus (by decide) (by decide) fun cdv A outer s H E hr => ?_
  exact ⟨_, qss_one (qs_ret (qe_call (ok_fraction T) hr T.g_fraction T.F_fraction.kp T.b_fraction pass0 (qb_cons (QP.lift (qp_op op_addA opAdd_v (qp_op op_mulA opMulI_v (qp_ix (qp_var 0) (qp_int)) (qp_ix (qp_var 1) (qp_int))) (qp_op op_mulA opMulI_v (qp_ix (qp_var 1) (qp_int)) (qp_ix (qp_var 0) (qp_int))))) (qb_cons (QP.lift (qp_op op_mulA opMulI_v (qp_ix (qp_var 0) (qp_int)) (qp_ix (qp_var 1) (qp_int)))) (qb_nil)))))⟩
theorem ok_times (T : Tx K mg) : FnOk P w K mg base CX0 3 T.f_times T.d_times ["q", "r"] (spT K false (fun _ => none) 2 [] m_times) := by
  unfold m_times
  refine fnT (N := N_times) (ps := ["q", "r"]) (k := 2) T.F_times sc_times (by decide) (by decide) fun cdv A outer s H E hr => ?_
  exact ⟨_, qss_one (qs_ret (qe_call (ok_fraction T) hr T.g_fraction T.F_fraction.kp T.b_fraction pass0 (qb_cons (QP.lift (qp_op op_mulA opMulI_v (qp_ix (qp_var 0) (qp_int)) (qp_ix (qp_var 1) (qp_int)))) (qb_cons (QP.lift (qp_op op_mulA opMulI_v (qp_ix (qp_var 0) (qp_int)) (qp_ix (qp_var 1) (qp_int)))) (qb_nil)))))⟩
theorem ok_over (T : Tx K mg) : FnOk P w K mg base CX0 3 T.f_over T.d_over ["q", "r"] (spT K false (fun _ => none) 2 [] m_over) := by
  unfold m_over
  refine fnT (N := N_over) (ps := ["q", "r"]) (k := 2) T.F_over sc_over (by decide) (by decide) fun cdv A outer s H E hr => ?_
  exact ⟨_, qss_one (qs_ret (qe_call (ok_fraction T) hr T.g_fraction T.F_fraction.kp T.b_fraction pass0 (qb_cons (QP.lift (qp_op op_mulA opMulI_v (qp_ix (qp_var 0) (qp_int)) (qp_ix (qp_var 1) (qp_int)))) (qb_cons (QP.lift (qp_op op_mulA opMulI_v (qp_ix (qp_var 0) (qp_int)) (qp_ix (qp_var 1) (qp_int)))) (qb_nil)))))⟩
theorem ok__law_whole (T : Tx K mg) : FnOk P w K mg base CX0 3 T.f__law_whole T.d__law_whole ["deck"] (spT K false (fun _ => none) 1 [0] m__law_whole) := by
  unfold m__law_whole
  refine fnT (N := N__law_whole) (ps := ["deck"]) (k := 2) T.F__law_whole sc__law_whole (by decide) (by decide) fun cdv A outer s H E hr => ?_
  exact ⟨_, qss_cons (qs_set (i := 1) sc__law_whole.nd (qe_ix (qe_lst (qa_cons (qe_call (ok__law_far T) hr T.g__law_far T.F__law_far.kp T.b__law_far pass0 (qb_io 0 (qb_nil))) (qa_cons (qe_op op_subA opSub_v opI2_nox (QP.lift (qp_op op_subA opSub_v (qp_op op_powA opPow_v (qp_int) (qp_int)) (qp_int))) (qe_call (ok__law_draw T) (hr.mono (by decide)) T.g__law_draw T.F__law_draw.kp T.b__law_draw pass0 (qb_io 0 (qb_cons (QP.lift (qp_int)) (qb_nil))))) (qa_cons (QP.lift (qp_op op_subA opSub_v (qp_int) (qp_op op_powA opPow_v (qp_int) (qp_int)))) (qa_nil))))) (qe_call (ok__law_draw T) (hr.mono (by decide)) T.g__law_draw T.F__law_draw.kp T.b__law_draw pass0 (qb_io 0 (qb_cons (QP.lift (qp_int)) (qb_nil)))))) <|
    qss_one (qs_ret (qe_ix (qe_lst (qa_cons (qe_op op_subA opSub_v opI2_nox (qe_call (ok__law_draw T) (hr.mono (by decide)) T.g__law_draw T.F__law_draw.kp T.b__law_draw pass0 (qb_io 0 (qb_cons (QP.lift (qp_int)) (qb_nil)))) (QP.lift (qp_int))) (qa_cons (qe_op op_subA opSub_v opI2_nox (qe_call (ok__law_draw T) (hr.mono (by decide)) T.g__law_draw T.F__law_draw.kp T.b__law_draw pass0 (qb_io 0 (qb_cons (QP.lift (qp_int)) (qb_nil)))) (QP.lift (qp_int))) (qa_cons (qe_var 1) (qa_nil))))) (qe_ix (qe_lst (qa_cons (QP.lift (qp_int)) (qa_cons (QP.lift (qp_int)) (qa_cons (QP.lift (qp_int)) (qa_cons (QP.lift (qp_int)) (qa_nil)))))) (qe_call (ok__law_draw T) (hr.mono (by decide)) T.g__law_draw T.F__law_draw.kp T.b__law_draw pass0 (qb_io 0 (qb_cons (QP.lift (qp_int)) (qb_nil)))))))⟩
theorem ok__law_fraction (T : Tx K mg) : FnOk P w K mg base CX0 4 T.f__law_fraction T.d__law_fraction ["deck"] (spT K false (fun _ => none) 1 [0] m__law_fraction) := by
  unfold m__law_fraction
  refine fnT (N := N__law_fraction) (ps := ["deck"]) (k := 3) T.F__law_fraction sc__law_fraction (by decide) (by decide) fun cdv A outer s H E hr => ?_
  exact ⟨_, qss_cons (qs_set (i := 1) sc__law_fraction.nd (qe_ix (qe_lst (qa_cons (qe_op op_addA opAdd_v opAdd_nox (QP.lift (qp_int)) (qe_callB call_absA opAbs_v opAbs_nox T.z_abs bt_abs (qa_cons (qe_call (ok__law_far T) (hr.mono (by decide)) T.g__law_far T.F__law_far.kp T.b__law_far pass0 (qb_io 0 (qb_nil))) (qa_nil)))) (qa_cons (qe_op op_subA opSub_v opI2_nox (QP.lift (qp_op op_subA opSub_v (qp_op op_powA opPow_v (qp_int) (qp_int)) (qp_int))) (qe_call (ok__law_draw T) (hr.mono (by decide)) T.g__law_draw T.F__law_draw.kp T.b__law_draw pass0 (qb_io 0 (qb_cons (QP.lift (qp_int)) (qb_nil))))) (qa_nil)))) (qe_callTy call_int1A opInt1_v opInt1_nox T.z_int bt_int (qa_cons (qe_cmp (op_eqA hr.units) opEq_v opEq_nox (qe_call (ok__law_draw T) (hr.mono (by decide)) T.g__law_draw T.F__law_draw.kp T.b__law_draw pass0 (qb_io 0 (qb_cons (QP.lift (qp_int)) (qb_nil)))) (QP.lift (qp_int)) (nomark _)) (qa_nil))))) <|
    qss_cons (qs_set (i := 2) sc__law_fraction.nd (qe_ix (qe_lst (qa_cons (QP.lift (qp_int)) (qa_cons (qe_op op_addA opAdd_v opAdd_nox (QP.lift (qp_int)) (qe_call (ok__law_draw T) (hr.mono (by decide)) T.g__law_draw T.F__law_draw.kp T.b__law_draw pass0 (qb_io 0 (qb_cons (QP.lift (qp_int)) (qb_nil))))) (qa_cons (qe_var 1) (qa_nil))))) (qe_ix (qe_lst (qa_cons (QP.lift (qp_int)) (qa_cons (QP.lift (qp_int)) (qa_cons (QP.lift (qp_int)) (qa_cons (QP.lift (qp_int)) (qa_nil)))))) (qe_call (ok__law_draw T) (hr.mono (by decide)) T.g__law_draw T.F__law_draw.kp T.b__law_draw pass0 (qb_io 0 (qb_cons (QP.lift (qp_int)) (qb_nil))))))) <|
    qss_one (qs_ret (qe_call (ok__law_low T) (hr.mono (by decide)) T.g__law_low T.F__law_low.kp T.b__law_low pass0 (qb_cons (qe_call (ok__law_whole T) hr T.g__law_whole T.F__law_whole.kp T.b__law_whole pass0 (qb_io 0 (qb_nil))) (qb_cons (qe_var 2) (qb_nil)))))⟩
theorem ok_law (T : Tx K mg) : FnOk P w K mg base CX0 5 T.f_law T.d_law ["script"] (spT K false (fun _ => none) 1 [] m_law_39) := by
  unfold m_law_39
  refine fnT (N := N_law) (ps := ["script"]) (k := 4) T.F_law sc_law (by decide) (by decide) fun cdv A outer s H E hr => ?_
  exact ⟨_, qss_cons (qs_set (i := 1) sc_law.nd (qe_ix (qe_call (ok__law_deck T) (hr.mono (by decide)) T.g__law_deck T.F__law_deck.kp T.b__law_deck pass0 (qb_cons (qe_rd 0) (qb_nil))) (QP.lift (qp_int)))) <|
    qss_cons (qs_set (i := 2) sc_law.nd (qe_dispE)) <|
    qss_cons (qs_for rfl PassesOwn.never (qi_range1 T.z_range (qa_cons (QP.lift (qp_callB call_lenA opLen_v T.z_len bt_len (qpa_cons (qp_var 1) (qpa_nil)))) (qa_nil))) (qg_name (i := 3) sc_law.nd) (qss_cons (qs_set (i := 4) sc_law.nd (qe_lst (qa_cons (qe_lst (qa_cons (QP.lift (qp_ix (qp_var 1) (qp_var 3))) (qa_nil))) (qa_cons (QP.lift (qp_op op_modA opMod_v (qp_callB call_lenA opLen_v T.z_len bt_len (qpa_cons (qp_var 0) (qpa_nil))) (qp_int))) (qa_cons (QP.lift (qp_op op_mulA opMulI_v (qp_int) (qp_var 3))) (qa_nil)))))) <|
    qss_cons (qs_set (i := 5) sc_law.nd (qe_call (ok__law_fraction T) hr T.g__law_fraction T.F__law_fraction.kp T.b__law_fraction pass0 (qb_io 4 (qb_nil)))) <|
    qss_cons (qs_set (i := 6) sc_law.nd (qe_call (ok__law_low T) (hr.mono (by decide)) T.g__law_low T.F__law_low.kp T.b__law_low pass0 (qb_cons (qe_call (ok__law_far T) (hr.mono (by decide)) T.g__law_far T.F__law_far.kp T.b__law_far pass0 (qb_io 4 (qb_nil))) (qb_cons (qe_op op_addA opAdd_v opAdd_nox (QP.lift (qp_int)) (qe_callB call_absA opAbs_v opAbs_nox T.z_abs bt_abs (qa_cons (qe_call (ok__law_far T) (hr.mono (by decide)) T.g__law_far T.F__law_far.kp T.b__law_far pass0 (qb_io 4 (qb_nil))) (qa_nil)))) (qb_nil))))) <|
    qss_cons (qs_set (i := 7) sc_law.nd (qe_lst (qa_cons (qe_var 5) (qa_cons (qe_tup (qa_cons (QP.lift (qp_op op_subA opSub_v (qp_int) (qp_ix (qp_var 5) (qp_int)))) (qa_cons (QP.lift (qp_ix (qp_var 5) (qp_int))) (qa_nil)))) (qa_cons (qe_tup (qa_cons (QP.lift (qp_ix (qp_var 5) (qp_int))) (qa_cons (QP.lift (qp_int)) (qa_nil)))) (qa_cons (qe_call (ok_plus T) (hr.mono (by decide)) T.g_plus T.F_plus.kp T.b_plus pass0 (qb_cons (qe_var 5) (qb_cons (qe_var 6) (qb_nil)))) (qa_cons (qe_call (ok_times T) (hr.mono (by decide)) T.g_times T.F_times.kp T.b_times pass0 (qb_cons (qe_var 5) (qb_cons (qe_call (ok_plus T) (hr.mono (by decide)) T.g_plus T.F_plus.kp T.b_plus pass0 (qb_cons (qe_var 5) (qb_cons (qe_var 6) (qb_nil)))) (qb_nil)))) (qa_nil)))))))) <|
    qss_cons (qs_if (qt_pcmp (op_neA hr.units) opNe_v (qp_ix (qp_var 6) (qp_int)) (qp_int) (nomark _)) (qss_one (qs_expr (qe_meth (i := 7) PySem.F.slot_list_append PySem.F.type_list_append mt_append append_v (ql_name 7) (qa_cons (qe_call (ok_over T) (hr.mono (by decide)) T.g_over T.F_over.kp T.b_over pass0 (qb_cons (qe_call (ok_times T) (hr.mono (by decide)) T.g_times T.F_times.kp T.b_times pass0 (qb_cons (qe_var 5) (qb_cons (qe_var 5) (qb_nil)))) (qb_cons (qe_var 6) (qb_nil)))) (qa_nil)) (.inr fun _ _ => lHere_nil)))) (qss_nil)) <|
    qss_one (qs_for rfl PassesOwn.never (qi_list (qe_var 7)) (qg_name (i := 8) sc_law.nd) (qss_cons (qs_set (i := 9) sc_law.nd (qe_call (ok_show T) (hr.mono (by decide)) T.g_show T.F_show.kp T.b_show pass0 (qb_cons (qe_var 8) (qb_nil)))) <|
    qss_cons (qs_if (QW.qt (qw_or (qt_not (qt_val (QP.lift (qp_isi (n := "str") (qp_var 9) T.z_isinstance T.z_str bt_str)))) (qw_or (qt_cmp (op_neA hr.units) opNe_v opNe_nox (qe_var 9) (qe_call (ok__law_text T) (hr.mono (by decide)) T.g__law_text T.F__law_text.kp T.b__law_text pass0 (qb_cons (qe_var 8) (qb_nil))) (nomark _)) (qw_or1 (qt_pcmp (op_neA hr.units) opNe_v (qp_get2 (u1 hr) ⟨rfl, rfl, rfl, rfl⟩ (qp_var 2) (qp_var 9) (qp_var 8)) (qp_var 8) (nomark _)))))) (qss_one (qs_ret (QP.lift (qp_bl)))) (qss_nil)) <|
    qss_one (qs_keySet (i := 2) (u1 hr) (qk_name 2) (qp_var 9) (qe_move 8)))))) <|
    qss_one (qs_ret (qe_cmp (op_eqA hr.units) opEq_v opEq_nox (qe_call (ok_show T) (hr.mono (by decide)) T.g_show T.F_show.kp T.b_show pass0 (qb_cons (qe_tup (qa_cons (QP.lift (qp_int)) (qa_cons (QP.lift (qp_int)) (qa_nil)))) (qb_nil))) (QP.lift (qp_str)) (nomark _)))⟩
end
theorem all_mk {l : PySem.W.OpenLaw} {w : World} {K : PySem.W.Frag} {h : Heap} {mg : Str → Option Value} {fa : Addr} (X : K.In h) (G : h.Ns mainGlobals mg) (hfa : mg "law" = some (.ref fa))
    {od0 an0 : Option Addr} {sl0 : Array (Option Value)} {oc0 kV0 dc0 pm0 cd0 ct0 : Value} {f0 : Addr} (a0 : PySem.W.nsIn K mainGlobals "divisor" = some (some (.ref f0))) (l0 : K.lookup f0 = some ⟨oc0, od0, .func (PySem.W.fnOf "divisor" "divisor" (defArgs s_divisor) (defBody s_divisor) (defScope s_divisor) .none kV0 dc0 pm0 an0 cd0 ct0), sl0⟩) (c0 : PySem.W.codeIn K cd0 "divisor" = true) (k0 : PySem.W.keepIn K (.ref f0) = true)
    {od1 an1 : Option Addr} {sl1 : Array (Option Value)} {oc1 kV1 dc1 pm1 cd1 ct1 : Value} {f1 : Addr} (a1 : PySem.W.nsIn K mainGlobals "show" = some (some (.ref f1))) (l1 : K.lookup f1 = some ⟨oc1, od1, .func (PySem.W.fnOf "show" "show" (defArgs s_show) (defBody s_show) (defScope s_show) .none kV1 dc1 pm1 an1 cd1 ct1), sl1⟩) (c1 : PySem.W.codeIn K cd1 "show" = true) (k1 : PySem.W.keepIn K (.ref f1) = true)
    {od2 an2 : Option Addr} {sl2 : Array (Option Value)} {oc2 kV2 dc2 pm2 cd2 ct2 : Value} {f2 : Addr} (a2 : PySem.W.nsIn K mainGlobals "_law_deck" = some (some (.ref f2))) (l2 : K.lookup f2 = some ⟨oc2, od2, .func (PySem.W.fnOf "_law_deck" "_law_deck" (defArgs s__law_deck) (defBody s__law_deck) (defScope s__law_deck) .none kV2 dc2 pm2 an2 cd2 ct2), sl2⟩) (c2 : PySem.W.codeIn K cd2 "_law_deck" = true) (k2 : PySem.W.keepIn K (.ref f2) = true)
    {od3 an3 : Option Addr} {sl3 : Array (Option Value)} {oc3 kV3 dc3 pm3 cd3 ct3 : Value} {f3 : Addr} (a3 : PySem.W.nsIn K mainGlobals "_law_draw" = some (some (.ref f3))) (l3 : K.lookup f3 = some ⟨oc3, od3, .func (PySem.W.fnOf "_law_draw" "_law_draw" (defArgs s__law_draw) (defBody s__law_draw) (defScope s__law_draw) .none kV3 dc3 pm3 an3 cd3 ct3), sl3⟩) (c3 : PySem.W.codeIn K cd3 "_law_draw" = true) (k3 : PySem.W.keepIn K (.ref f3) = true)
    {od4 an4 : Option Addr} {sl4 : Array (Option Value)} {oc4 kV4 dc4 pm4 cd4 ct4 : Value} {f4 : Addr} (a4 : PySem.W.nsIn K mainGlobals "_law_divisor" = some (some (.ref f4))) (l4 : K.lookup f4 = some ⟨oc4, od4, .func (PySem.W.fnOf "_law_divisor" "_law_divisor" (defArgs s__law_divisor) (defBody s__law_divisor) (defScope s__law_divisor) .none kV4 dc4 pm4 an4 cd4 ct4), sl4⟩) (c4 : PySem.W.codeIn K cd4 "_law_divisor" = true) (k4 : PySem.W.keepIn K (.ref f4) = true)
    {od5 an5 : Option Addr} {sl5 : Array (Option Value)} {oc5 kV5 dc5 pm5 cd5 ct5 : Value} {f5 : Addr} (a5 : PySem.W.nsIn K mainGlobals "_law_figures" = some (some (.ref f5))) (l5 : K.lookup f5 = some ⟨oc5, od5, .func (PySem.W.fnOf "_law_figures" "_law_figures" (defArgs s__law_figures) (defBody s__law_figures) (defScope s__law_figures) .none kV5 dc5 pm5 an5 cd5 ct5), sl5⟩) (c5 : PySem.W.codeIn K cd5 "_law_figures" = true) (k5 : PySem.W.keepIn K (.ref f5) = true)
    {od6 an6 : Option Addr} {sl6 : Array (Option Value)} {oc6 kV6 dc6 pm6 cd6 ct6 : Value} {f6 : Addr} (a6 : PySem.W.nsIn K mainGlobals "fraction" = some (some (.ref f6))) (l6 : K.lookup f6 = some ⟨oc6, od6, .func (PySem.W.fnOf "fraction" "fraction" (defArgs s_fraction) (defBody s_fraction) (defScope s_fraction) .none kV6 dc6 pm6 an6 cd6 ct6), sl6⟩) (c6 : PySem.W.codeIn K cd6 "fraction" = true) (k6 : PySem.W.keepIn K (.ref f6) = true)
    {od7 an7 : Option Addr} {sl7 : Array (Option Value)} {oc7 kV7 dc7 pm7 cd7 ct7 : Value} {f7 : Addr} (a7 : PySem.W.nsIn K mainGlobals "_law_low" = some (some (.ref f7))) (l7 : K.lookup f7 = some ⟨oc7, od7, .func (PySem.W.fnOf "_law_low" "_law_low" (defArgs s__law_low) (defBody s__law_low) (defScope s__law_low) .none kV7 dc7 pm7 an7 cd7 ct7), sl7⟩) (c7 : PySem.W.codeIn K cd7 "_law_low" = true) (k7 : PySem.W.keepIn K (.ref f7) = true)
    {od8 an8 : Option Addr} {sl8 : Array (Option Value)} {oc8 kV8 dc8 pm8 cd8 ct8 : Value} {f8 : Addr} (a8 : PySem.W.nsIn K mainGlobals "_law_far" = some (some (.ref f8))) (l8 : K.lookup f8 = some ⟨oc8, od8, .func (PySem.W.fnOf "_law_far" "_law_far" (defArgs s__law_far) (defBody s__law_far) (defScope s__law_far) .none kV8 dc8 pm8 an8 cd8 ct8), sl8⟩) (c8 : PySem.W.codeIn K cd8 "_law_far" = true) (k8 : PySem.W.keepIn K (.ref f8) = true)
    {od9 an9 : Option Addr} {sl9 : Array (Option Value)} {oc9 kV9 dc9 pm9 cd9 ct9 : Value} {f9 : Addr} (a9 : PySem.W.nsIn K mainGlobals "_law_text" = some (some (.ref f9))) (l9 : K.lookup f9 = some ⟨oc9, od9, .func (PySem.W.fnOf "_law_text" "_law_text" (defArgs s__law_text) (defBody s__law_text) (defScope s__law_text) .none kV9 dc9 pm9 an9 cd9 ct9), sl9⟩) (c9 : PySem.W.codeIn K cd9 "_law_text" = true) (k9 : PySem.W.keepIn K (.ref f9) = true)
    {od10 an10 : Option Addr} {sl10 : Array (Option Value)} {oc10 kV10 dc10 pm10 cd10 ct10 : Value} {f10 : Addr} (a10 : PySem.W.nsIn K mainGlobals "plus" = some (some (.ref f10))) (l10 : K.lookup f10 = some ⟨oc10, od10, .func (PySem.W.fnOf "plus" "plus" (defArgs s_plus) (defBody s_plus) (defScope s_plus) .none kV10 dc10 pm10 an10 cd10 ct10), sl10⟩) (c10 : PySem.W.codeIn K cd10 "plus" = true) (k10 : PySem.W.keepIn K (.ref f10) = true)
    {od11 an11 : Option Addr} {sl11 : Array (Option Value)} {oc11 kV11 dc11 pm11 cd11 ct11 : Value} {f11 : Addr} (a11 : PySem.W.nsIn K mainGlobals "times" = some (some (.ref f11))) (l11 : K.lookup f11 = some ⟨oc11, od11, .func (PySem.W.fnOf "times" "times" (defArgs s_times) (defBody s_times) (defScope s_times) .none kV11 dc11 pm11 an11 cd11 ct11), sl11⟩) (c11 : PySem.W.codeIn K cd11 "times" = true) (k11 : PySem.W.keepIn K (.ref f11) = true)
    {od12 an12 : Option Addr} {sl12 : Array (Option Value)} {oc12 kV12 dc12 pm12 cd12 ct12 : Value} {f12 : Addr} (a12 : PySem.W.nsIn K mainGlobals "over" = some (some (.ref f12))) (l12 : K.lookup f12 = some ⟨oc12, od12, .func (PySem.W.fnOf "over" "over" (defArgs s_over) (defBody s_over) (defScope s_over) .none kV12 dc12 pm12 an12 cd12 ct12), sl12⟩) (c12 : PySem.W.codeIn K cd12 "over" = true) (k12 : PySem.W.keepIn K (.ref f12) = true)
    {od13 an13 : Option Addr} {sl13 : Array (Option Value)} {oc13 kV13 dc13 pm13 cd13 ct13 : Value} {f13 : Addr} (a13 : PySem.W.nsIn K mainGlobals "_law_whole" = some (some (.ref f13))) (l13 : K.lookup f13 = some ⟨oc13, od13, .func (PySem.W.fnOf "_law_whole" "_law_whole" (defArgs s__law_whole) (defBody s__law_whole) (defScope s__law_whole) .none kV13 dc13 pm13 an13 cd13 ct13), sl13⟩) (c13 : PySem.W.codeIn K cd13 "_law_whole" = true) (k13 : PySem.W.keepIn K (.ref f13) = true)
    {od14 an14 : Option Addr} {sl14 : Array (Option Value)} {oc14 kV14 dc14 pm14 cd14 ct14 : Value} {f14 : Addr} (a14 : PySem.W.nsIn K mainGlobals "_law_fraction" = some (some (.ref f14))) (l14 : K.lookup f14 = some ⟨oc14, od14, .func (PySem.W.fnOf "_law_fraction" "_law_fraction" (defArgs s__law_fraction) (defBody s__law_fraction) (defScope s__law_fraction) .none kV14 dc14 pm14 an14 cd14 ct14), sl14⟩) (c14 : PySem.W.codeIn K cd14 "_law_fraction" = true) (k14 : PySem.W.keepIn K (.ref f14) = true)
    {od15 an15 : Option Addr} {sl15 : Array (Option Value)} {oc15 kV15 dc15 pm15 cd15 ct15 : Value} {f15 : Addr} (a15 : PySem.W.nsIn K mainGlobals "law" = some (some (.ref f15))) (l15 : K.lookup f15 = some ⟨oc15, od15, .func (PySem.W.fnOf "law" "law" (defArgs s_law) (defBody s_law) (defScope s_law) .none kV15 dc15 pm15 an15 cd15 ct15), sl15⟩) (c15 : PySem.W.codeIn K cd15 "law" = true) (k15 : PySem.W.keepIn K (.ref f15) = true)
    (z0 : PySem.W.nsIn K mainGlobals "abs" = some none)
    (z1 : PySem.W.nsIn K mainGlobals "int" = some none)
    (z2 : PySem.W.nsIn K mainGlobals "isinstance" = some none)
    (z3 : PySem.W.nsIn K mainGlobals "len" = some none)
    (z4 : PySem.W.nsIn K mainGlobals "list" = some none)
    (z5 : PySem.W.nsIn K mainGlobals "range" = some none)
    (z6 : PySem.W.nsIn K mainGlobals "str" = some none) :
    ∃ fd : FuncData, (∀ (s : Shared) (v : Value), BindsTo s fd ⟨[v], []⟩ [("script", v)]) ∧ ∀ base : Heap, K.In base → base.Ns mainGlobals mg → FnOk l.prog w K mg base CX0 5 fa fd ["script"] (spT K false (fun _ => none) 1 [] m_law_39) := by
  have e := hfa.symm.trans (PySem.W.mg_of X G a15)
  cases e
  have F0 := fun_mk (st := s_divisor) l0 c0 k0
  have b0 := F0.binds (ps := ["one", "other"]) fun _ _ _ _ _ _ us hl => match us, hl with | [_, _], _ => rfl
  have F1 := fun_mk (st := s_show) l1 c1 k1
  have b1 := F1.binds (ps := ["q"]) fun _ _ _ _ _ _ us hl => match us, hl with | [_], _ => rfl
  have F2 := fun_mk (st := s__law_deck) l2 c2 k2
  have b2 := F2.binds (ps := ["script"]) fun _ _ _ _ _ _ us hl => match us, hl with | [_], _ => rfl
  have F3 := fun_mk (st := s__law_draw) l3 c3 k3
  have b3 := F3.binds (ps := ["deck", "many"]) fun _ _ _ _ _ _ us hl => match us, hl with | [_, _], _ => rfl
  have F4 := fun_mk (st := s__law_divisor) l4 c4 k4
  have b4 := F4.binds (ps := ["one", "other"]) fun _ _ _ _ _ _ us hl => match us, hl with | [_, _], _ => rfl
  have F5 := fun_mk (st := s__law_figures) l5 c5 k5
  have b5 := F5.binds (ps := ["number"]) fun _ _ _ _ _ _ us hl => match us, hl with | [_], _ => rfl
  have F6 := fun_mk (st := s_fraction) l6 c6 k6
  have b6 := F6.binds (ps := ["top", "bottom"]) fun _ _ _ _ _ _ us hl => match us, hl with | [_, _], _ => rfl
  have F7 := fun_mk (st := s__law_low) l7 c7 k7
  have b7 := F7.binds (ps := ["top", "bottom"]) fun _ _ _ _ _ _ us hl => match us, hl with | [_, _], _ => rfl
  have F8 := fun_mk (st := s__law_far) l8 c8 k8
  have b8 := F8.binds (ps := ["deck"]) fun _ _ _ _ _ _ us hl => match us, hl with | [_], _ => rfl
  have F9 := fun_mk (st := s__law_text) l9 c9 k9
  have b9 := F9.binds (ps := ["q"]) fun _ _ _ _ _ _ us hl => match us, hl with | [_], _ => rfl
  have F10 := fun_mk (st := s_plus) l10 c10 k10
  have b10 := F10.binds (ps := ["q", "r"]) fun _ _ _ _ _ _ us hl => match us, hl with | [_, _], _ => rfl
  have F11 := fun_mk (st := s_times) l11 c11 k11
  have b11 := F11.binds (ps := ["q", "r"]) fun _ _ _ _ _ _ us hl => match us, hl with | [_, _], _ => rfl
  have F12 := fun_mk (st := s_over) l12 c12 k12
  have b12 := F12.binds (ps := ["q", "r"]) fun _ _ _ _ _ _ us hl => match us, hl with | [_, _], _ => rfl
  have F13 := fun_mk (st := s__law_whole) l13 c13 k13
  have b13 := F13.binds (ps := ["deck"]) fun _ _ _ _ _ _ us hl => match us, hl with | [_], _ => rfl
  have F14 := fun_mk (st := s__law_fraction) l14 c14 k14
  have b14 := F14.binds (ps := ["deck"]) fun _ _ _ _ _ _ us hl => match us, hl with | [_], _ => rfl
  have F15 := fun_mk (st := s_law) l15 c15 k15
  have b15 := F15.binds (ps := ["script"]) fun _ _ _ _ _ _ us hl => match us, hl with | [_], _ => rfl
  let T : Tx K mg := {
    f_divisor := _, d_divisor := _, F_divisor := F0, b_divisor := b0, g_divisor := PySem.W.mg_of X G a0,
    f_show := _, d_show := _, F_show := F1, b_show := b1, g_show := PySem.W.mg_of X G a1,
    f__law_deck := _, d__law_deck := _, F__law_deck := F2, b__law_deck := b2, g__law_deck := PySem.W.mg_of X G a2,
    f__law_draw := _, d__law_draw := _, F__law_draw := F3, b__law_draw := b3, g__law_draw := PySem.W.mg_of X G a3,
    f__law_divisor := _, d__law_divisor := _, F__law_divisor := F4, b__law_divisor := b4, g__law_divisor := PySem.W.mg_of X G a4,
    f__law_figures := _, d__law_figures := _, F__law_figures := F5, b__law_figures := b5, g__law_figures := PySem.W.mg_of X G a5,
    f_fraction := _, d_fraction := _, F_fraction := F6, b_fraction := b6, g_fraction := PySem.W.mg_of X G a6,
    f__law_low := _, d__law_low := _, F__law_low := F7, b__law_low := b7, g__law_low := PySem.W.mg_of X G a7,
    f__law_far := _, d__law_far := _, F__law_far := F8, b__law_far := b8, g__law_far := PySem.W.mg_of X G a8,
    f__law_text := _, d__law_text := _, F__law_text := F9, b__law_text := b9, g__law_text := PySem.W.mg_of X G a9,
    f_plus := _, d_plus := _, F_plus := F10, b_plus := b10, g_plus := PySem.W.mg_of X G a10,
    f_times := _, d_times := _, F_times := F11, b_times := b11, g_times := PySem.W.mg_of X G a11,
    f_over := _, d_over := _, F_over := F12, b_over := b12, g_over := PySem.W.mg_of X G a12,
    f__law_whole := _, d__law_whole := _, F__law_whole := F13, b__law_whole := b13, g__law_whole := PySem.W.mg_of X G a13,
    f__law_fraction := _, d__law_fraction := _, F__law_fraction := F14, b__law_fraction := b14, g__law_fraction := PySem.W.mg_of X G a14,
    f_law := _, d_law := _, F_law := F15, b_law := b15, g_law := PySem.W.mg_of X G a15,
    z_abs := PySem.W.mg_none_of X G z0,
    z_int := PySem.W.mg_none_of X G z1,
    z_isinstance := PySem.W.mg_none_of X G z2,
    z_len := PySem.W.mg_none_of X G z3,
    z_list := PySem.W.mg_none_of X G z4,
    z_range := PySem.W.mg_none_of X G z5,
    z_str := PySem.W.mg_none_of X G z6 }
  exact ⟨PySem.W.fnOf "law" "law" (defArgs s_law) (defBody s_law) (defScope s_law) .none kV15 dc15 pm15 an15 cd15 ct15, fun s v => .of_eq rfl, fun base _ _ => ok_law T⟩
end Sr
namespace Sr
open PySem PySem.Spec PyProof.Rows L2 L3
@[simp] theorem e_modOk {i j : Int} : modOk i j = decide (j ≠ 0) := (rfl)
theorem div_loop {mt : MT} {mb : MS} (ht : ∀ a b : Int, mt [some (.d (.int a)), some (.d (.int b))] = .ok (!decide (b = 0), [some (.d (.int a)), some (.d (.int b))]))
    (hb : ∀ a b : Int, b ≠ 0 → mb [some (.d (.int a)), some (.d (.int b))] = .ok (.next [some (.d (.int b)), some (.d (.int (a.fmod b)))])) :
    ∀ (n : Nat) (a b : Int), b.natAbs ≤ n → ∃ g : Int, mWhile mt mb [some (.d (.int a)), some (.d (.int b))] = .ok (.next [some (.d (.int g)), some (.d (.int 0))]) ∧ g.natAbs = Int.gcd a b := by
  intro n
  induction n with
  | zero =>
    intro a b h
    have : b = 0 := by omega
    subst this
    exact ⟨a, by rw [mWhile_eq, ht]; simp, by simp⟩
  | succ n ih =>
    intro a b h
    by_cases z : b = 0
    · subst z
      exact ⟨a, by rw [mWhile_eq, ht]; simp, by simp⟩
    · have hm := fmod_abs a b z
      obtain ⟨g, e, eg⟩ := ih b (a.fmod b) (by omega)
      refine ⟨g, ?_, by rw [eg, gcd_fmod]⟩
      rw [mWhile_eq, ht]
      simp [z, hb, e]
theorem divisor_eq (a b : Int) : m_divisor [.d (.int a), .d (.int b)] = .ok (.d (.int (Int.gcd a b : Nat)), []) := by
  unfold m_divisor
  obtain ⟨g, e, eg⟩ := div_loop (mt := mTest (mLift (pBin opNe (pVar 1) (pC (.int 0))))) (mb := mPar 0 1 (mCons (mVar 1) (mCons (mLift (pBin opMod (pVar 0) (pVar 1))) (mNil)))) (fun a b => by simp) (fun a b h => by simp [h]) b.natAbs a b (Nat.le_refl _)
  simp [e, eg]
theorem low_eq {t b : Int} (hb : b ≠ 0) (hs : ib b ≤ 9000) : m_fraction [.d (.int t), .d (.int b)] = .ok (.d (fr (Rat.divInt t b)), []) := by
  have hd1 : divOk t (lowM t b) = true := divOk_ib (lowM_ne hb) (Nat.le_trans (lowM_ib hb) hs)
  have hd2 : divOk b (lowM t b) = true := divOk_ib (lowM_ne hb) (Nat.le_trans (lowM_ib hb) hs)
  have e := fr_low (t := t) hb
  unfold m_fraction
  unfold lowM at hd1 hd2 e
  by_cases h : b < 0
  · rw [if_pos h] at hd1 hd2 e
    simp [hb, divisor_eq, h] at hd1 hd2 e ⊢
    simp [hd1, hd2, e]
  · rw [if_neg h] at hd1 hd2 e
    simp [hb, divisor_eq, h, hd1, hd2, e]
theorem plus_eqW {q r : Rat} (h : Ok2 q r) : m_plus [.d (fr q), .d (fr r)] = .ok (.d (fr (q + r)), []) := by
  obtain ⟨hd, h⟩ := h
  have a := hq_num q
  have b := hq_num r
  have c := hq_denI q
  have d := hq_denI r
  have m := dq_bot q r
  have h1 : mulOk q.num r.den = true := mulOk_ib (by omega)
  have h2 : mulOk r.num q.den = true := mulOk_ib (by omega)
  have h3 : mulOk q.den r.den = true := mulOk_ib (by omega)
  have nz : (q.den : Int) * r.den ≠ 0 := by
    have := q.den_nz
    have := r.den_nz
    exact Int.mul_ne_zero (by omega) (by omega)
  unfold m_plus
  rw [fr_def, fr_def]
  simp [h1, h2, h3, low_eq nz (by omega), add_divInt q r]
theorem plus_eq {q r : Rat} (h : hq q + hq r ≤ 9000) : m_plus [.d (fr q), .d (fr r)] = .ok (.d (fr (q + r)), []) := plus_eqW (ok2_of h)
theorem times_eqW {q r : Rat} (h : Ok2 q r) : m_times [.d (fr q), .d (fr r)] = .ok (.d (fr (q * r)), []) := by
  obtain ⟨hd, h⟩ := h
  have a := hq_num q
  have b := hq_num r
  have c := hq_denI q
  have d := hq_denI r
  have m := dq_bot q r
  have h1 : mulOk q.num r.num = true := mulOk_ib (by omega)
  have h3 : mulOk q.den r.den = true := mulOk_ib (by omega)
  have nz : (q.den : Int) * r.den ≠ 0 := by
    have := q.den_nz
    have := r.den_nz
    exact Int.mul_ne_zero (by omega) (by omega)
  unfold m_times
  rw [fr_def, fr_def]
  simp [h1, h3, low_eq nz (by omega), mul_divInt q r]
theorem times_eq {q r : Rat} (h : hq q + hq r ≤ 9000) : m_times [.d (fr q), .d (fr r)] = .ok (.d (fr (q * r)), []) := times_eqW (ok2_of h)
theorem over_eqW {q r : Rat} (h : OkD q r) (hr : r ≠ 0) : m_over [.d (fr q), .d (fr r)] = .ok (.d (fr (q / r)), []) := by
  obtain ⟨hd, h⟩ := h
  have a := hq_num q
  have b := hq_num r
  have c := hq_denI q
  have d := hq_denI r
  have m := ib_mul (i := (q.den : Int)) (j := r.num)
  rw [dq_den] at m
  have h1 : mulOk q.num r.den = true := mulOk_ib (by omega)
  have h3 : mulOk q.den r.num = true := mulOk_ib (by omega)
  have nz : (q.den : Int) * r.num ≠ 0 := by
    have := q.den_nz
    have : r.num ≠ 0 := fun e => hr (Rat.num_eq_zero.mp e)
    exact Int.mul_ne_zero (by omega) this
  unfold m_over
  rw [fr_def, fr_def]
  simp [h1, h3, low_eq nz (by omega), div_divInt q r]
theorem over_eq {q r : Rat} (h : hq q + hq r ≤ 9000) (hr : r ≠ 0) : m_over [.d (fr q), .d (fr r)] = .ok (.d (fr (q / r)), []) := over_eqW (okD_of h) hr
end Sr
namespace Sr
open PySem PySem.Spec PyProof.Rows L2 L3
@[simp] theorem e_powOk {i j : Int} : powOk i j = decide (0 ≤ j ∧ j ≤ 1000000 ∧ i.natAbs < 2 ^ 64) := (rfl)
@[simp] theorem mulOk_rS {i j : Int} (h : j.natAbs < 2 ^ 64) : mulOk i j = true := mulOk_r h
@[simp] theorem mulOk_lS {i j : Int} (h : i.natAbs < 2 ^ 64) : mulOk i j = true := mulOk_l h
@[simp] theorem divOk_S {i j : Int} (h0 : j ≠ 0) (h : j.natAbs < 2 ^ 64) : divOk i j = true := divOk_ib h0 (by
  have : ib j ≤ 64 := ib_le.mpr h
  omega)
@[simp] theorem e_ixN0 {m : Nat} (h : 0 < m) : ixN m 0 = some 0 := e_ixN (n := 0) h
@[simp] theorem e_ixN1 {m : Nat} (h : 1 < m) : ixN m 1 = some 1 := e_ixN (n := 1) h
@[simp] theorem e_ixN2 {m : Nat} (h : 2 < m) : ixN m 2 = some 2 := e_ixN (n := 2) h
@[simp] theorem e_ixN3 {m : Nat} (h : 3 < m) : ixN m 3 = some 3 := e_ixN (n := 3) h
theorem range3 : rangeItems 0 3 = [.d (.int 0), .d (.int 1), .d (.int 2)] := rfl
@[simp] theorem kit_tt : kitB "tuple" "tuple" = some true := by decide
@[simp] theorem kit_ii : kitB "int" "int" = some true := by decide
@[simp] theorem kit_ib : kitB "int" "bool" = some false := by decide
@[simp] theorem kit_bb : kitB "bool" "bool" = some true := by decide
@[simp] theorem kit_bi : kitB "bool" "int" = some true := by decide
@[simp] theorem kit_ll : kitB "list" "list" = some true := by decide
@[simp] theorem kit_lt : kitB "list" "tuple" = some false := by decide
@[simp] theorem kit_tl : kitB "tuple" "list" = some false := by decide
@[simp] theorem opEq_d {x y : PyData} (h1 : pl x) (h2 : pl y) : opEq (.d x) (.d y) = .ok (.v (.d (.bool (decide (x = y))))) := opEq_pl (by simp) (by simp) h1 h2
@[simp] theorem opNe_d {x y : PyData} (h1 : pl x) (h2 : pl y) : opNe (.d x) (.d y) = .ok (.v (.d (.bool (!decide (x = y))))) := opNe_pl (by simp) (by simp) h1 h2
@[simp] theorem pl_nil : pl (.list []) := by simp [pl, plk, plkAll]
@[simp] theorem pl_int {i : Int} : pl (.int i) := by simp [pl, plk]
@[simp] theorem pl_frS {q : Rat} : pl (fr q) := pl_fr
@[simp] theorem pl_frsS {q : List Rat} : pl (frs q) := pl_frs
theorem pick {l : List T} {v : Int} {α : Type} {f : T → R α} {P : α → Prop} {E : Str → Prop} (h0 : 0 ≤ v) (h1 : v < l.length) (k : ∀ x ∈ l, Then (f x) P E) : Then ((ofO (atI l v)).bind f) P E := by
  obtain ⟨n, rfl⟩ : ∃ n : Nat, v = n := ⟨v.toNat, by omega⟩
  have hn : n < l.length := by omega
  rw [e_atIn, List.getElem?_eq_getElem hn]
  exact k _ (List.getElem_mem hn)
theorem idx2 {a b v : Int} {α : Type} {f : T → R α} {P : α → Prop} {E : Str → Prop} (h0 : 0 ≤ v) (h1 : v < 2) (k : ∀ z : Int, z = a ∨ z = b → Then (f (.d (.int z))) P E) :
    Then ((ofO (atI [T.d (.int a), T.d (.int b)] v)).bind f) P E := by
  have : v = 0 ∨ v = 1 := by omega
  rcases this with rfl | rfl
  · exact k a (.inl rfl)
  · exact k b (.inr rfl)
theorem idx3 {a b c v : Int} {α : Type} {f : T → R α} {P : α → Prop} {E : Str → Prop} (h0 : 0 ≤ v) (h1 : v < 3) (k : ∀ z : Int, z = a ∨ z = b ∨ z = c → Then (f (.d (.int z))) P E) :
    Then ((ofO (atI [T.d (.int a), T.d (.int b), T.d (.int c)] v)).bind f) P E := by
  have : v = 0 ∨ v = 1 ∨ v = 2 := by omega
  rcases this with rfl | rfl | rfl
  · exact k a (.inl rfl)
  · exact k b (.inr (.inl rfl))
  · exact k c (.inr (.inr rfl))
theorem idx4 {a b c d v : Int} {α : Type} {f : T → R α} {P : α → Prop} {E : Str → Prop} (h0 : 0 ≤ v) (h1 : v < 4) (k : ∀ z : Int, z = a ∨ z = b ∨ z = c ∨ z = d → Then (f (.d (.int z))) P E) :
    Then ((ofO (atI [T.d (.int a), T.d (.int b), T.d (.int c), T.d (.int d)] v)).bind f) P E := by
  have : v = 0 ∨ v = 1 ∨ v = 2 ∨ v = 3 := by omega
  rcases this with rfl | rfl | rfl | rfl
  · exact k a (.inl rfl)
  · exact k b (.inr (.inl rfl))
  · exact k c (.inr (.inr (.inl rfl)))
  · exact k d (.inr (.inr (.inr rfl)))
def deckT (cells : List Int) (b n : Int) : T := .ol [.ol (cells.map fun c => .d (.int c)), .d (.int b), .d (.int n)]
def Deck (d : T) : Prop := ∃ cells b n, d = deckT cells b n ∧ cells ≠ []
theorem fmod_nat {n : Int} {m : Nat} (h : 0 < m) : ∃ k : Nat, n.fmod (m : Int) = (k : Int) ∧ k < m := by
  have h1 := Int.fmod_nonneg_of_pos n (b := (m : Int)) (by omega)
  have h2 := Int.fmod_lt_of_pos n (b := (m : Int)) (by omega)
  exact ⟨(n.fmod (m : Int)).toNat, by omega, by omega⟩
def Drawn (many : Int) (r : T × List T) : Prop := ∃ v d', r = (.d (.int v), [d']) ∧ 0 ≤ v ∧ v < many ∧ Deck d'
theorem draw_spec {d : T} {many : Int} {E : Str → Prop} (hd : Deck d) (hm : 0 < many) (hb : many.natAbs < 2 ^ 64) : Then (m__law_draw [d, .d (.int many)]) (Drawn many) E := by
  obtain ⟨cells, b, n, rfl, hc⟩ := hd
  have hl : 0 < cells.length := List.length_pos_iff.mpr hc
  obtain ⟨k, hk, hk2⟩ := fmod_nat (n := n) hl
  have h1 : (cells.map fun c => T.d (.int c))[k]? = some (.d (.int cells[k])) := by
    rw [List.getElem?_map, List.getElem?_eq_getElem hk2]; rfl
  have h2 : (cells.length : Int) ≠ 0 := by omega
  have hf : ∀ x : Int, 0 ≤ x.fmod many ∧ x.fmod many < many := fun x => ⟨Int.fmod_nonneg_of_pos x hm, Int.fmod_lt_of_pos x hm⟩
  have hm0 : many ≠ 0 := by omega
  have hs : ∀ x : Int, ((x.fmod 1000000033).natAbs < 2 ^ 64) := fun x => by
    have := Int.fmod_nonneg_of_pos x (b := 1000000033) (by omega)
    have := Int.fmod_lt_of_pos x (b := 1000000033) (by omega)
    omega
  unfold m__law_draw deckT
  by_cases hz : b = 0
  · subst hz
    simp [h2, hc, hk, e_atIn, h1, hm0, hb, e_ixN hk2]
    refine ⟨_, _, rfl, (hf _).1, (hf _).2, cells.set k (cells[k].fdiv many), 0, n + 1, ?_, ?_⟩
    · unfold deckT
      simp [List.map_set]
    · simpa using hc
  · simp [h2, hc, hk, e_atIn, h1, hm0, hz, hs]
    exact ⟨_, _, rfl, (hf _).1, (hf _).2, cells, b, n + 1, rfl, hc⟩
theorem draw_step {d : T} {many : Int} {α : Type} {f : T × List T → R α} {P : α → Prop} {E : Str → Prop} (hd : Deck d) (hm : 0 < many) (hb : many.natAbs < 2 ^ 64)
    (k : ∀ v d', 0 ≤ v → v < many → v.natAbs < 2 ^ 64 → Deck d' → Then (f (.d (.int v), [d'])) P E) : Then ((m__law_draw [d, .d (.int many)]).nx.bind f) P E := by
  refine then_bindI (then_nx (draw_spec hd hm hb)) ?_
  rintro _ ⟨v, d', rfl, h0, h1, hd'⟩
  exact k v d' h0 h1 (by omega) hd'
theorem pl_ints {ns : List Int} : pl (.list (ns.map .int)) := by
  show plk 60 _ = true
  simp only [plk]
  exact plkAll_map fun _ _ => by simp [plk]
theorem cut63 {α : Type} (xs : List α) : (cutG xs none (some 63)).length ≤ 63 := by
  unfold cutG
  simp [HT.sIx]
  omega
theorem cutG_map {α β : Type} {f : α → β} {xs : List α} {lo hi : Option Int} : cutG (xs.map f) lo hi = (cutG xs lo hi).map f := by
  unfold cutG
  simp [List.map_drop, List.map_take]
theorem small62_of {n : Nat} (h : n ≤ 100000000) : small62 (n : Int) = true := by
  unfold small62
  exact decide_eq_true ⟨by omega, by omega⟩
theorem deck_eq (ns : List Int) : ∃ cells : List Int, ∃ b : Int, cells.length ≤ 63 ∧ m__law_deck [.rd (ns.map .int)] = .ok (.d (.list [.list (cells.map .int), .int b, .int 0]), []) := by
  have h := cut63 ns
  unfold m__law_deck
  by_cases hz : cutG ns none (some 63) = []
  · refine ⟨[0], (ns.length : Int).fmod 2, by simp, ?_⟩
    simp [cutG_map, hz]
  · refine ⟨cutG ns none (some 63), (ns.length : Int).fmod 2, h, ?_⟩
    simp [cutG_map, hz, pl_ints]
end Sr
namespace Sr
open PySem PySem.Spec PyProof.Rows L2 L3
local macro_rules | `(tactic| none_booked) => `(tactic| (with_reducible refine draw_step (by assumption) (by first | decide | omega) (by first | decide | omega) fun _ _ _ _ _ _ => ?_))
local macro_rules | `(tactic| none_booked) => `(tactic| (with_reducible refine idx2 (by omega) (by omega) fun _ _ => ?_))
local macro_rules | `(tactic| none_booked) => `(tactic| (with_reducible refine idx3 (by omega) (by omega) fun _ _ => ?_))
local macro_rules | `(tactic| none_booked) => `(tactic| (with_reducible refine idx4 (by omega) (by omega) fun _ _ => ?_))
def IntB (n : Int) (r : T × List T) : Prop := ∃ v d', r = (.d (.int v), [d']) ∧ -n < v ∧ v < n ∧ Deck d'
theorem far_spec {d : T} {E : Str → Prop} (hd : Deck d) : Then (m__law_far [d]) (IntB (10 ^ 36)) E := by
  unfold m__law_far
  simp [small62, range3]
  repeat (none_booked; try simp [*])
  rename_i h
  rcases h with h | h <;> subst h
  · simp
    exact ⟨_, _, rfl, by omega, by omega, by assumption⟩
  · simp
    exact ⟨_, _, rfl, by omega, by omega, by assumption⟩
theorem ldivisor_eq (a b : Int) : m__law_divisor [.d (.int a), .d (.int b)] = .ok (.d (.int (Int.gcd a b : Nat)), []) := by
  unfold m__law_divisor
  obtain ⟨g, e, eg⟩ := div_loop (mt := mTest (mLift (pBin opNe (pVar 1) (pC (.int 0))))) (mb := mPar 0 1 (mCons (mVar 1) (mCons (mLift (pBin opMod (pVar 0) (pVar 1))) (mNil)))) (fun a b => by simp) (fun a b h => by simp [h]) b.natAbs a b (Nat.le_refl _)
  simp [e, eg]
theorem llow_eq {t b : Int} (hb : b ≠ 0) (hs : ib b ≤ 9000) : m__law_low [.d (.int t), .d (.int b)] = .ok (.d (fr (Rat.divInt t b)), []) := by
  have hd1 : divOk t (lowM t b) = true := divOk_ib (lowM_ne hb) (Nat.le_trans (lowM_ib hb) hs)
  have hd2 : divOk b (lowM t b) = true := divOk_ib (lowM_ne hb) (Nat.le_trans (lowM_ib hb) hs)
  have e := fr_low (t := t) hb
  unfold m__law_low
  unfold lowM at hd1 hd2 e
  by_cases h : b < 0
  · rw [if_pos h] at hd1 hd2 e
    simp [hb, ldivisor_eq, h] at hd1 hd2 e ⊢
    simp [hd1, hd2, e]
  · rw [if_neg h] at hd1 hd2 e
    simp [hb, ldivisor_eq, h, hd1, hd2, e]
theorem far_step {d : T} {α : Type} {f : T × List T → R α} {P : α → Prop} {E : Str → Prop} (hd : Deck d) (k : ∀ v d', -(10 ^ 36) < v → v < 10 ^ 36 → Deck d' → Then (f (.d (.int v), [d'])) P E) : Then ((m__law_far [d]).nx.bind f) P E := by
  refine then_bindI (then_nx (far_spec hd)) ?_
  rintro _ ⟨v, d', rfl, h0, h1, hd'⟩
  exact k v d' h0 h1 hd'
local macro_rules | `(tactic| none_booked) => `(tactic| (with_reducible refine far_step (by assumption) fun _ _ _ _ _ => ?_))
theorem whole_spec {d : T} {E : Str → Prop} (hd : Deck d) : Then (m__law_whole [d]) (IntB (10 ^ 40)) E := by
  unfold m__law_whole
  simp
  repeat (none_booked; try simp [*])
  exact ⟨_, _, rfl, by omega, by omega, by assumption⟩
theorem whole_step {d : T} {α : Type} {f : T × List T → R α} {P : α → Prop} {E : Str → Prop} (hd : Deck d) (k : ∀ v d', -(10 ^ 40) < v → v < 10 ^ 40 → Deck d' → Then (f (.d (.int v), [d'])) P E) : Then ((m__law_whole [d]).nx.bind f) P E := by
  refine then_bindI (then_nx (whole_spec hd)) ?_
  rintro _ ⟨v, d', rfl, h0, h1, hd'⟩
  exact k v d' h0 h1 hd'
local macro_rules | `(tactic| none_booked) => `(tactic| (with_reducible refine whole_step (by assumption) fun _ _ _ _ _ => ?_))
theorem low_step {t b : Int} {α : Type} {f : T × List T → R α} {P : α → Prop} {E : Str → Prop} (h0 : 0 < b) (h1 : b < 10 ^ 42) (h2 : -(10 ^ 42) < t) (h3 : t < 10 ^ 42) (k : ∀ q, hq q ≤ 140 → Then (f (.d (fr q), [])) P E) : Then ((m__law_low [.d (.int t), .d (.int b)]).nx.bind f) P E := by
  have e1 : ib t ≤ 140 := ib_le.mpr (by omega)
  have e2 : ib b ≤ 140 := ib_le.mpr (by omega)
  rw [llow_eq (by omega) (by omega)]
  exact k _ (hq_divInt e1 e2 (by omega))
local macro_rules | `(tactic| none_booked) => `(tactic| (with_reducible refine low_step (by omega) (by omega) (by omega) (by omega) fun _ _ => ?_))
def FrB (n : Nat) (r : T × List T) : Prop := ∃ q d', r = (.d (fr q), [d']) ∧ hq q ≤ n ∧ Deck d'
theorem fraction_spec {d : T} {E : Str → Prop} (hd : Deck d) : Then (m__law_fraction [d]) (FrB 140) E := by
  unfold m__law_fraction
  simp
  none_booked; try simp [*]
  none_booked; try simp [*]
  none_booked
  simp
  with_reducible refine idx2 (by split <;> omega) (by split <;> omega) fun _ _ => ?_
  repeat (none_booked; try simp [*])
  exact ⟨_, _, rfl, by assumption, by assumption⟩
theorem fraction_step {d : T} {α : Type} {f : T × List T → R α} {P : α → Prop} {E : Str → Prop} (hd : Deck d) (k : ∀ q d', hq q ≤ 140 → Deck d' → Then (f (.d (fr q), [d'])) P E) : Then ((m__law_fraction [d]).nx.bind f) P E := by
  refine then_bindI (then_nx (fraction_spec hd)) ?_
  rintro _ ⟨v, d', rfl, h0, hd'⟩
  exact k v d' h0 hd'
local macro_rules | `(tactic| none_booked) => `(tactic| (with_reducible refine fraction_step (by assumption) fun _ _ _ _ => ?_))
end Sr
namespace Sr
open PySem PySem.Spec PyProof.Rows L2 L3
def dg (n : Nat) : List Nat := (Nat.toDigits 10 n).map Char.toNat
def sOf (l : List Nat) : Str := ⟨l.toArray⟩
theorem digit_nat : ∀ d < 10, (Nat.digitChar d).toNat = 48 + d := by decide
theorem dg_lt {n : Nat} (h : n < 10) : dg n = [48 + n] := by
  unfold dg
  rw [Nat.toDigits_of_lt_base h, List.map_cons, digit_nat n h]; rfl
theorem dg_ge {n : Nat} (h : 10 ≤ n) : dg n = dg (n / 10) ++ [48 + n % 10] := by
  unfold dg
  rw [Nat.toDigits_of_base_le (by decide) h, List.map_append, List.map_cons, digit_nat _ (Nat.mod_lt _ (by decide))]; rfl
theorem chars_inj : ∀ {xs ys : List Char}, xs.map Char.toNat = ys.map Char.toNat → xs = ys
  | [], [], _ => rfl
  | x :: xs, y :: ys, h => by
    rw [List.map_cons, List.map_cons] at h
    injection h with h1 h2
    rw [chars_inj h2, Char.toNat_inj.mp h1]
  | [], _ :: _, h => by simp at h
  | _ :: _, [], h => by simp at h
theorem dg_inj {a b : Nat} (h : dg a = dg b) : a = b := by
  have := chars_inj h
  rw [← Nat.ofDigitChars_ten_toDigits (n := a), this, Nat.ofDigitChars_ten_toDigits]
theorem dg_len {k n : Nat} (h : n < 10 ^ k) (h0 : 0 < k) : (dg n).length ≤ k := by
  unfold dg
  rw [List.length_map]
  exact (Nat.length_toDigits_le_iff (by decide) h0).mpr h
theorem dg_mem : ∀ (n : Nat), ∀ x ∈ dg n, 48 ≤ x ∧ x ≤ 57 := by
  intro n
  induction n using Nat.strongRecOn with
  | _ n ih =>
    intro x hx
    by_cases h : n < 10
    · rw [dg_lt h] at hx
      simp at hx; omega
    · rw [dg_ge (by omega)] at hx
      rcases List.mem_append.mp hx with z | z
      · exact ih _ (by omega) x z
      · simp at z; omega
theorem ofS {s : String} : Str.ofString s = sOf (s.toList.map Char.toNat) := Str.ofString_eq_toList s
theorem str_nat (n : Nat) : Str.ofString (toString n) = sOf (dg n) := by
  rw [ofS]
  unfold dg
  rw [Nat.toString_eq_ofList_toDigits, String.toList_ofList]
theorem str_int (i : Int) : Str.ofString (toString i) = sOf ((if i < 0 then [45] else []) ++ dg i.natAbs) := by
  cases i with
  | ofNat n =>
    rw [if_neg (by simp)]
    exact str_nat n
  | negSucc n =>
    rw [if_pos (Int.negSucc_lt_zero n)]
    have e : toString (Int.negSucc n) = "-" ++ toString (n + 1) := rfl
    rw [e, ofS, String.toList_append, List.map_append]
    have e2 := str_nat (n + 1)
    rw [ofS] at e2
    have e3 : (toString (n + 1)).toList.map Char.toNat = dg (n + 1) := by
      have := congrArg (fun s : Str => s.cps.toList) e2
      simpa [sOf] using this
    rw [e3]
    rfl
theorem sOf_app {a b : List Nat} : sOf a ++ sOf b = sOf (a ++ b) := by
  show Str.append (sOf a) (sOf b) = _
  unfold Str.append sOf
  simp
theorem sOf_len {a : List Nat} : (sOf a).length = a.length := by simp [sOf, Str.length]
theorem sOf_inj {a b : List Nat} (h : sOf a = sOf b) : a = b := by
  have := congrArg (fun s : Str => s.cps.toList) h
  simpa [sOf] using this
theorem split47 : ∀ {a b t u : List Nat}, (∀ x ∈ a, 48 ≤ x) → (∀ x ∈ b, 48 ≤ x) → (∀ x ∈ t.head?, x = 47) → (∀ x ∈ u.head?, x = 47) → a ++ t = b ++ u → a = b ∧ t = u
  | [], [], _, _, _, _, _, _, h => ⟨rfl, h⟩
  | x :: a, y :: b, t, u, ha, hb, ht, hu, h => by
    rw [List.cons_append, List.cons_append] at h
    injection h with h1 h2
    obtain ⟨e1, e2⟩ := split47 (fun z hz => ha z (List.mem_cons_of_mem _ hz)) (fun z hz => hb z (List.mem_cons_of_mem _ hz)) ht hu h2
    exact ⟨by rw [h1, e1], e2⟩
  | [], y :: b, t, u, ha, hb, ht, hu, h => by
    have e : t = y :: (b ++ u) := h
    have := ht y (by rw [e]; rfl)
    have := hb y List.mem_cons_self
    omega
  | x :: a, [], t, u, ha, hb, ht, hu, h => by
    have e : u = x :: (a ++ t) := h.symm
    have := hu x (by rw [e]; rfl)
    have := ha x List.mem_cons_self
    omega
def sgn (i : Int) : List Nat := if i < 0 then [45] else []
def tail47 (n : Nat) : List Nat := if n = 1 then [] else 47 :: dg n
def txt (q : Rat) : Str := sOf (sgn q.num ++ dg q.num.natAbs ++ tail47 q.den)
theorem tail_head {n : Nat} : ∀ x ∈ (tail47 n).head?, x = 47 := by
  intro x hx
  unfold tail47 at hx
  split at hx
  · cases hx
  · simpa using hx.symm
theorem dg_ne {n : Nat} : dg n ≠ [] := by
  by_cases h : n < 10
  · rw [dg_lt h]; simp
  · rw [dg_ge (by omega)]; simp
theorem dg_head {n : Nat} {t : List Nat} : ∃ x r, dg n ++ t = x :: r ∧ 48 ≤ x := by
  have h := dg_mem n
  cases e : dg n with
  | nil => exact (dg_ne e).elim
  | cons x r => exact ⟨x, r ++ t, rfl, (h x (by rw [e]; exact List.mem_cons_self)).1⟩
theorem tail_inj {a b : Nat} (h : tail47 a = tail47 b) : a = b := by
  unfold tail47 at h
  split at h <;> split at h
  · omega
  · cases h
  · cases h
  · injection h with _ h
    exact dg_inj h
theorem txt_inj {q r : Rat} (h : txt q = txt r) : q = r := by
  have e := sOf_inj h
  rw [List.append_assoc, List.append_assoc] at e
  have key : q.num < 0 ↔ r.num < 0 := by
    obtain ⟨x, l, ex, hx⟩ := dg_head (n := q.num.natAbs) (t := tail47 q.den)
    obtain ⟨y, l', ey, hy⟩ := dg_head (n := r.num.natAbs) (t := tail47 r.den)
    unfold sgn at e
    rw [ex, ey] at e
    by_cases h1 : q.num < 0 <;> by_cases h2 : r.num < 0
    · exact iff_of_true h1 h2
    · rw [if_pos h1, if_neg h2] at e
      injection e with e1 _
      omega
    · rw [if_neg h1, if_pos h2] at e
      injection e with e1 _
      omega
    · exact iff_of_false h1 h2
  have es : sgn q.num = sgn r.num := by
    unfold sgn
    by_cases h1 : q.num < 0
    · rw [if_pos h1, if_pos (key.mp h1)]
    · rw [if_neg h1, if_neg fun z => h1 (key.mpr z)]
  rw [es] at e
  have e := List.append_cancel_left e
  obtain ⟨e1, e2⟩ := split47 (fun x hx => (dg_mem _ x hx).1) (fun x hx => (dg_mem _ x hx).1) tail_head tail_head e
  have n1 := dg_inj e1
  have d1 := tail_inj e2
  refine Rat.ext ?_ d1
  by_cases h1 : q.num < 0
  · have := key.mp h1; omega
  · have : ¬ r.num < 0 := fun z => h1 (key.mpr z)
    omega
theorem ten_list : (("0123456789" : Str)).cps.toList = [48, 49, 50, 51, 52, 53, 54, 55, 56, 57] := by decide +kernel
theorem dig_get : ∀ d < 10, ([48, 49, 50, 51, 52, 53, 54, 55, 56, 57] : List Nat)[d]? = some (48 + d) := by decide
theorem idx_dig {d : Nat} (h : d < 10) : opIdx (.d (.str "0123456789")) (.d (.int (d : Int))) = .ok (.v (.d (.str (sOf [48 + d])))) := by
  have hl : (("0123456789" : Str)).length ≤ sLine := by decide +kernel
  show L3.guard (decide ((("0123456789" : Str)).length ≤ sLine)) ((ofO (atI (("0123456789" : Str)).cps.toList (d : Int))).bind fun c => R.ok (RV.v (T.d (.str ⟨#[c]⟩)))) = _
  rw [decide_eq_true hl, ten_list, e_atIn, dig_get d h]
  rfl
theorem fig_loop : ∀ (k n : Nat) (fs : List Nat), n < 10 ^ k → fs.length + k ≤ 10000 →
    mWhile (mTest (mLift (pBin opGt (pVar 0) (pC (.int 0))))) (mSeq (mAsg (mLift (pBin opAdd (pBin opIdx (pC (.str "0123456789")) (pBin opMod (pVar 0) (pC (.int 10)))) (pVar 1))) (mgName 1)) <| mAsg (mLift (pBin opFdiv (pVar 0) (pC (.int 10)))) (mgName 0)) [some (.d (.int (n : Int))), some (.d (.str (sOf fs)))]
      = .ok (.next [some (.d (.int 0)), some (.d (.str (sOf ((if n = 0 then [] else dg n) ++ fs))))])
  | 0, n, fs, h, _ => by
    have e : n = 0 := by simpa using h
    subst e
    rw [mWhile_eq]
    simp
  | k + 1, n, fs, h, hl => by
    by_cases hn : n = 0
    · subst hn
      rw [mWhile_eq]
      simp
    · have hm : ((n : Int)).fmod 10 = ((n % 10 : Nat) : Int) := by
        rw [Int.fmod_eq_emod_of_nonneg _ (by decide)]; omega
      have hd : ((n : Int)).fdiv 10 = ((n / 10 : Nat) : Int) := by
        rw [Int.fdiv_eq_ediv_of_nonneg _ (by decide)]; omega
      have ok : divOk (n : Int) 10 = true := divOk_ib (by decide) (by decide)
      have ih := fig_loop k (n / 10) ([48 + n % 10] ++ fs) (by
        rw [Nat.pow_succ] at h; omega) (by simp; omega)
      have hp : 0 < n := by omega
      have gl : (sOf [48 + n % 10]).length + (sOf fs).length ≤ sLine := by
        rw [sOf_len, sOf_len]
        have : sLine = 16777216 := rfl
        simp; omega
      have ad : opAdd (.d (.str (sOf [48 + n % 10]))) (.d (.str (sOf fs))) = .ok (.v (.d (.str (sOf ([48 + n % 10] ++ fs))))) := by
        show L3.guard (decide ((sOf [48 + n % 10]).length + (sOf fs).length ≤ sLine)) (R.ok (RV.v (T.d (.str (sOf [48 + n % 10] ++ sOf fs))))) = _
        rw [decide_eq_true gl, sOf_app]
        rfl
      rw [mWhile_eq]
      simp only [List.cons_append, List.nil_append] at ih ad
      have i1 : opIdx (.d (.str "0123456789")) (.d (.int ((n : Int) % 10))) = .ok (.v (.d (.str (sOf [48 + n % 10])))) := by
        rw [show (n : Int) % 10 = ((n % 10 : Nat) : Int) by omega]
        exact idx_dig (Nat.mod_lt n (by decide))
      have hq' : (n : Int) / 10 = ((n / 10 : Nat) : Int) := by omega
      have e10 : (if n / 10 = 0 then [] else dg (n / 10)) ++ ((48 + n % 10) :: fs) = dg n ++ fs := by
        by_cases c : n < 10
        · rw [if_pos (by omega), dg_lt c, show n % 10 = n by omega]; rfl
        · rw [if_neg (by omega), dg_ge (n := n) (by omega), List.append_assoc]; rfl
      rw [e10] at ih
      simp [hp, ok, i1, ad, hm, hd] 
      rw [if_neg hn, hq']
      exact ih
theorem nil_S : Str.ofString "" = sOf [] := by decide +kernel
theorem zero_S : Str.ofString "0" = sOf [48] := by decide +kernel
theorem minus_S : Str.ofString "-" = sOf [45] := by decide +kernel
theorem bar_S : Str.ofString "/" = sOf [47] := by decide +kernel
theorem pl_S {l : List Nat} (h : ∀ x ∈ l, x < 1114112) : pl (.str (sOf l)) := by
  unfold pl
  simp only [plk, PyData.strOk, sOf]
  simpa using h
theorem dg_small (n : Nat) : ∀ x ∈ dg n, x < 1114112 := fun x hx => by
  have := dg_mem n x hx
  omega
theorem eq_S {a b : List Nat} (ha : ∀ x ∈ a, x < 1114112) (hb : ∀ x ∈ b, x < 1114112) : opEq (.d (.str (sOf a))) (.d (.str (sOf b))) = .ok (.v (.d (.bool (decide (a = b))))) := by
  rw [opEq_pl (a := .str (sOf a)) (b := .str (sOf b)) rfl rfl (pl_S ha) (pl_S hb)]
  congr 4
  rw [decide_eq_decide]
  exact ⟨fun z => by injection z with z; exact sOf_inj z, fun z => by rw [z]⟩
theorem figures_eq {n : Nat} (h : n < 10 ^ 3000) : m__law_figures [.d (.int (n : Int))] = .ok (.d (.str (sOf (dg n))), []) := by
  have w := fig_loop 3000 n [] h (by simp)
  have e : opEq (.d (.str (sOf (if n = 0 then [] else dg n)))) (.d (.str (sOf []))) = .ok (.v (.d (.bool (decide (n = 0))))) := by
    rw [eq_S (fun x hx => by
      split at hx
      · cases hx
      · exact dg_small n x hx) (fun x hx => by cases hx)]
    congr 4
    rw [decide_eq_decide]
    by_cases c : n = 0
    · rw [if_pos c]; exact iff_of_true rfl c
    · rw [if_neg c]; exact iff_of_false dg_ne c
  rw [List.append_nil] at w
  unfold m__law_figures
  rw [nil_S, zero_S]
  by_cases c : n = 0
  · subst c
    simp at e w
    simp [w, e]
    rw [dg_lt (by decide)]
  · simp [c] at e w
    simp [w, e]
theorem add_S {a b : List Nat} (h : a.length + b.length ≤ 100000) : opAdd (.d (.str (sOf a))) (.d (.str (sOf b))) = .ok (.v (.d (.str (sOf (a ++ b))))) := by
  have gl : (sOf a).length + (sOf b).length ≤ sLine := by
    rw [sOf_len, sOf_len]
    have : sLine = 16777216 := rfl
    omega
  show L3.guard (decide ((sOf a).length + (sOf b).length ≤ sLine)) (R.ok (RV.v (T.d (.str (sOf a ++ sOf b))))) = _
  rw [decide_eq_true gl, sOf_app]
  rfl
theorem lt_pow {n : Nat} (h : ib (n : Int) ≤ 1000) : n < 2 ^ 1000 := by
  have := ib_le.mp h
  omega
theorem pow_lt {n : Nat} (h : n < 2 ^ 1000) : n < 10 ^ 3000 := Nat.lt_of_lt_of_le h (by decide +kernel)
theorem log_lt {n : Nat} (h : n < 2 ^ 1000) : n.log2 < 1920 := by
  by_cases c : n = 0
  · subst c; decide
  · exact Nat.lt_of_lt_of_le ((Nat.log2_lt c).mpr h) (by decide)
theorem strI_eq {i : Int} (h : i.natAbs < 2 ^ 1000) : opStrI [.d (.int i)] = .ok (.v (.d (.str (sOf (sgn i ++ dg i.natAbs))))) := by
  show L3.guard (decide (i.natAbs.log2 < 1920)) (R.ok (RV.v (T.d (.str (Str.ofString (toString i)))))) = _
  rw [decide_eq_true (log_lt h), str_int]
  rfl
theorem sgn_len {i : Int} : (sgn i).length ≤ 1 := by
  unfold sgn
  split <;> decide
theorem dg_len3 {n : Nat} (h : n < 2 ^ 1000) : (dg n).length ≤ 3000 := dg_len (pow_lt h) (by decide)
theorem nums {q : Rat} (h : hq q ≤ 1000) : q.num.natAbs < 2 ^ 1000 ∧ q.den < 2 ^ 1000 := by
  have h1 := ib_le.mp (Nat.le_trans (hq_num q) h)
  have h2 := lt_pow (Nat.le_trans (hq_denI q) h)
  exact ⟨by omega, h2⟩
theorem show_eq {q : Rat} (h : hq q ≤ 1000) : m_show [.d (fr q)] = .ok (.d (.str (txt q)), []) := by
  obtain ⟨n1, n2⟩ := nums h
  have s1 := strI_eq n1
  have s2 : opStrI [.d (.int (q.den : Int))] = .ok (.v (.d (.str (sOf (dg q.den))))) := by
    have := strI_eq (i := (q.den : Int)) (by simpa using n2)
    rw [show sgn (q.den : Int) = [] from if_neg (by omega)] at this
    exact this
  have l0 := sgn_len (i := q.num)
  have l1 := dg_len3 n1
  have l2 := dg_len3 n2
  have a1 := add_S (a := sgn q.num ++ dg q.num.natAbs) (b := [47]) (by simp; omega)
  have a2 := add_S (a := sgn q.num ++ dg q.num.natAbs ++ [47]) (b := dg q.den) (by simp; omega)
  unfold m_show
  rw [fr_def, bar_S]
  unfold txt tail47
  by_cases c : q.den = 1
  · have c' : (q.den : Int) = 1 := by omega
    simp [c', c, s1]
  · have c' : ¬ (q.den : Int) = 1 := by omega
    simp at a1 a2
    simp [c', c, s1, s2, a1, a2]
theorem text_eq {q : Rat} (h : hq q ≤ 1000) : m__law_text [.d (fr q)] = .ok (.d (.str (txt q)), []) := by
  obtain ⟨n1, n2⟩ := nums h
  have f1 := figures_eq (pow_lt n1)
  have f2 := figures_eq (pow_lt n2)
  have l0 := sgn_len (i := q.num)
  have l1 := dg_len3 n1
  have l2 := dg_len3 n2
  have a0 := add_S (a := sgn q.num) (b := dg q.num.natAbs) (by omega)
  have a1 := add_S (a := sgn q.num ++ dg q.num.natAbs) (b := [47]) (by simp; omega)
  have a2 := add_S (a := sgn q.num ++ dg q.num.natAbs ++ [47]) (b := dg q.den) (by simp; omega)
  have dp := q.den_pos
  unfold m__law_text
  rw [fr_def, bar_S, nil_S, minus_S]
  unfold txt tail47
  by_cases s : q.num < 0
  · have es : sgn q.num = [45] := if_pos s
    rw [es] at a0 a1 a2 ⊢
    by_cases c : q.den = 1
    · have c' : ¬ 1 < q.den := by omega
      simp at a0
      simp [s, c', c, f1, a0]
    · have c' : (1 : Int) < (q.den : Int) := by omega
      simp at a0 a1 a2
      simp [s, c', c, f1, f2, a0, a1, a2]
  · have es : sgn q.num = [] := if_neg s
    rw [es] at a0 a1 a2 ⊢
    by_cases c : q.den = 1
    · have c' : ¬ 1 < q.den := by omega
      simp at a0
      simp [s, c', c, f1, a0]
    · have c' : (1 : Int) < (q.den : Int) := by omega
      simp at a0 a1 a2
      simp [s, c', c, f1, f2, a0, a1, a2]
end Sr
namespace Sr
open PySem PySem.Spec PyProof.Rows L2 L3
def toldT (qs : List Rat) : T := .od (qs.map fun q => .inr (txt q)) (qs.map fun q => .d (fr q))
theorem kAt_txt : ∀ {qs : List Rat} {q : Rat} {n : Nat}, kAt (qs.map fun q => (Sum.inr (txt q) : Key)) (.inr (txt q)) = some n → qs[n]? = some q
  | [], _, _, h => by cases h
  | x :: qs, q, n, h => by
    rw [List.map_cons] at h
    unfold kAt at h
    by_cases c : (Sum.inr (txt x) : Key) = .inr (txt q)
    · rw [if_pos c] at h
      injection h with h
      subst h
      injection c with c
      rw [txt_inj c]; rfl
    · rw [if_neg c] at h
      obtain ⟨k, hk, e⟩ := Option.map_eq_some_iff.mp h
      subst e
      rw [List.getElem?_cons_succ]
      exact kAt_txt hk
theorem get_txt {qs : List Rat} {q : Rat} : getT (qs.map fun q => (Sum.inr (txt q) : Key)) (qs.map fun q => T.d (fr q)) (.inr (txt q)) (.d (fr q)) = some (.d (fr q)) := by
  unfold getT
  cases e : kAt (qs.map fun q => (Sum.inr (txt q) : Key)) (.inr (txt q)) with
  | none => rfl
  | some n =>
    show (qs.map fun q => T.d (fr q))[n]? = _
    rw [List.getElem?_map, kAt_txt e]; rfl
def putR (qs : List Rat) (q : Rat) : List Rat := match kAt (qs.map fun q => (Sum.inr (txt q) : Key)) (.inr (txt q)) with
  | some _ => qs
  | none => qs ++ [q]
theorem putR_len {qs : List Rat} {q : Rat} : (putR qs q).length ≤ qs.length + 1 := by
  unfold putR
  split
  · omega
  · simp
theorem put_txt {qs : List Rat} {q : Rat} : putT (qs.map fun q => (Sum.inr (txt q) : Key)) (qs.map fun q => T.d (fr q)) (.inr (txt q)) (.d (fr q)) = ((putR qs q).map fun q => (Sum.inr (txt q) : Key), (putR qs q).map fun q => T.d (fr q)) := by
  unfold putT putR
  cases e : kAt (qs.map fun q => (Sum.inr (txt q) : Key)) (.inr (txt q)) with
  | none => simp
  | some n =>
    have h := kAt_txt e
    show (_, (qs.map fun q => T.d (fr q)).set n (T.d (fr q))) = _
    congr 1
    obtain ⟨hn, ex⟩ := List.getElem?_eq_some_iff.mp h
    refine List.ext_getElem (by simp) fun j h1 h2 => ?_
    rw [List.getElem_set]
    by_cases c : n = j
    · subst c
      rw [if_pos rfl, List.getElem_map, ex]
    · rw [if_neg c]
@[irreducible] noncomputable def B4 : MS := mSeq (mAsg (mCallF false false 1 m_show [none] (mbCons (mVar 8) (mbNil))) (mgName 9)) <|
    mSeq (mIfS (mOr (mNot (mTest (mLift (pIsa "str" (pVar 9))))) (mOr (mTest (mBin opNe (mVar 9) (mCallF false false 1 m__law_text [none] (mbCons (mVar 8) (mbNil))))) (mTest (mLift (pBin opNe (pGet2 (pVar 2) (pVar 9) (pVar 8)) (pVar 8)))))) (mRet (mLift (pC (.bool false)))) (mNext)) <|
    mKeySet 2 (kHere) (pVar 9) (mMove 8)
theorem B4_eq : (mSeq (mAsg (mCallF false false 1 m_show [none] (mbCons (mVar 8) (mbNil))) (mgName 9)) <|
    mSeq (mIfS (mOr (mNot (mTest (mLift (pIsa "str" (pVar 9))))) (mOr (mTest (mBin opNe (mVar 9) (mCallF false false 1 m__law_text [none] (mbCons (mVar 8) (mbNil))))) (mTest (mLift (pBin opNe (pGet2 (pVar 2) (pVar 9) (pVar 8)) (pVar 8)))))) (mRet (mLift (pC (.bool false)))) (mNext)) <|
    mKeySet 2 (kHere) (pVar 9) (mMove 8)) = B4 := by unfold B4; rfl
theorem pl_txt {q : Rat} : pl (.str (txt q)) := by
  refine pl_S fun x hx => ?_
  rcases List.mem_append.mp hx with z | z
  · rcases List.mem_append.mp z with z | z
    · unfold sgn at z
      split at z
      · simp at z; omega
      · cases z
    · exact dg_small _ x z
  · unfold tail47 at z
    split at z
    · cases z
    · rcases List.mem_cons.mp z with z | z
      · omega
      · exact dg_small _ x z
theorem each_step {s c : Option T} {x3 x4 x5 x6 x7 x9 : Option T} {qs : List Rat} {q : Rat} (h : hq q ≤ 1000) (hl : qs.length ≤ 1000) : B4 [s, c, some (toldT qs), x3, x4, x5, x6, x7, some (.d (fr q)), x9] = .ok (.next [s, c, some (toldT (putR qs q)), x3, x4, x5, x6, x7, none, some (.d (.str (txt q)))]) := by
  have n1 : opNe (.d (.str (txt q))) (.d (.str (txt q))) = .ok (.v (.d (.bool false))) := by
    rw [opNe_pl (a := .str (txt q)) (b := .str (txt q)) rfl rfl pl_txt pl_txt]
    simp
  have n2 : opNe (.d (fr q)) (.d (fr q)) = .ok (.v (.d (.bool false))) := by
    rw [opNe_pl (a := fr q) (b := fr q) rfl rfl pl_fr pl_fr]
    simp
  have g1 : pGet2 (pVar 2) (pVar 9) (pVar 8) [s, c, some (toldT qs), x3, x4, x5, x6, x7, some (.d (fr q)), some (.d (.str (txt q)))] = some (.d (fr q)) := get_txt
  have i1 : pIsa "str" (pVar 9) [s, c, some (toldT qs), x3, x4, x5, x6, x7, some (.d (fr q)), some (.d (.str (txt q)))] = some (.d (.bool true)) := rfl
  have hk : decide ((qs.map fun q => (Sum.inr (txt q) : Key)).length < sLine) = true := by
    have : sLine = 16777216 := rfl
    rw [List.length_map]
    exact decide_eq_true (by omega)
  have k1 : mKeySet 2 kHere (pVar 9) (mMove 8) [s, c, some (toldT qs), x3, x4, x5, x6, x7, some (.d (fr q)), some (.d (.str (txt q)))] = .ok (.next [s, c, some (toldT (putR qs q)), x3, x4, x5, x6, x7, none, some (.d (.str (txt q)))]) := by
    show L3.guard (decide ((qs.map fun q => (Sum.inr (txt q) : Key)).length < sLine)) ((ofO (putAtK 2 [] (.od (putT (qs.map fun q => (Sum.inr (txt q) : Key)) (qs.map fun q => T.d (fr q)) (.inr (txt q)) (.d (fr q))).1 (putT (qs.map fun q => (Sum.inr (txt q) : Key)) (qs.map fun q => T.d (fr q)) (.inr (txt q)) (.d (fr q))).2) [s, c, some (toldT qs), x3, x4, x5, x6, x7, none, some (.d (.str (txt q)))])).bind fun ρ' => R.ok (Out.next ρ')) = _
    rw [hk, put_txt]
    rfl
  have kb : kitB "str" "str" = some true := rfl
  unfold B4
  simp [show_eq h, text_eq h, n1, n2, g1, i1, k1, kb]
def NextQ4 (I : En → Prop) (o : Out) : Prop := ∃ ρ, o = .next ρ ∧ I ρ
def LawI4 (ns cells : List Int) (i : Nat) (ρ : En) : Prop := ∃ (qs : List Rat) (x3 x4 x5 x6 x7 x8 x9 : Option T), ρ = [some (scr ns), some (T.d (.list (cells.map .int))), some (toldT qs), x3, x4, x5, x6, x7, x8, x9] ∧ qs.length ≤ 6 * i
theorem law_k04_holds (ns : List Int) (h : ns.length ≤ 63) : Then (m_law_39 [scr ns]) (fun r => r.1 = .d (.bool true)) (fun _ => False) := by
  obtain ⟨cells, b, hc, e⟩ := deck_eq ns
  have hs : small62 (cells.length : Int) = true := small62_of (by omega)
  refine of_yes ?_
  unfold m_law_39
  rw [B4_eq]
  simp [e, hs, mDispE]
  refine then_bindI (P := NextQ4 (LawI4 ns cells cells.length)) (loop_ix (LawI4 ns cells) ⟨[], _, _, _, _, _, _, _, rfl, by simp⟩ (fun ρ h => ⟨ρ, rfl, by simpa using h⟩) ?_) ?_
  · rintro i x _ hx ⟨qs, x3, x4, x5, x6, x7, x8, x9, rfl, hqs⟩
    obtain ⟨hi, rfl⟩ := rangeItems_get hx
    have hi2 : i < cells.length := by omega
    have hg : atI (cells.map PyData.int) (i : Int) = some (.int cells[i]) := by
      rw [e_atIn, List.getElem?_map, List.getElem?_eq_getElem hi2]; rfl
    have hd : ∀ b n, Deck (.ol [.ol [.d (.int cells[i])], .d (.int b), .d (.int n)]) := fun b n => ⟨[cells[i]], b, n, rfl, by simp⟩
    refine ⟨_, rfl, ?_⟩
    simp [hg]
    refine fraction_step (hd _ _) fun q d1 hq1 hd1 => ?_
    simp
    refine far_step hd1 fun v d2 v1 v2 hd2 => ?_
    simp
    refine far_step hd2 fun u d3 u1 u2 hd3 => ?_
    have i0 : opIdx (.d (fr q)) (.d (.int 0)) = .ok (.v (.d (.int q.num))) := rfl
    have i1 : opIdx (.d (fr q)) (.d (.int 1)) = .ok (.v (.d (.int q.den))) := rfl
    simp [i0, i1]
    refine low_step (by omega) (by omega) (by omega) (by omega) fun r hr => ?_
    have j0 : opIdx (.d (fr r)) (.d (.int 0)) = .ok (.v (.d (.int r.num))) := rfl
    have hp := hq_add q r
    have ht := hq_mul q (q + r)
    have p1 := plus_eq (q := q) (r := r) (by omega)
    have p2 := times_eq (q := q) (r := q + r) (by omega)
    have p3 := times_eq (q := q) (r := q) (by omega)
    have hqq := hq_mul q q
    have f1 : PyData.tuple [.int (-q.num), .int q.den] = fr (-q) := rfl
    have f2 : PyData.tuple [.int q.num, .int 1] = fr (q.num : Rat) := rfl
    have hn : hq (q.num : Rat) ≤ 200 := by
      have := hq_num q
      unfold hq
      have e1 : ((q.num : Rat)).num = q.num := rfl
      have e2 : ((q.num : Rat)).den = 1 := rfl
      have e3 : bl 1 ≤ 200 := by decide
      rw [e1, e2]
      omega
    have hnn : hq (-q) ≤ 1000 := by rw [hq_neg]; omega
    have l1 := putR_len (qs := qs) (q := q)
    have l2 := putR_len (qs := putR qs q) (q := -q)
    have l3 := putR_len (qs := putR (putR qs q) (-q)) (q := (q.num : Rat))
    have l4 := putR_len (qs := putR (putR (putR qs q) (-q)) (q.num : Rat)) (q := q + r)
    have l5 := putR_len (qs := putR (putR (putR (putR qs q) (-q)) (q.num : Rat)) (q + r)) (q := q * (q + r))
    by_cases hz : r.num = 0
    · simp [i0, i1, p1, p2, f1, f2, j0, hz]
      rw [each_step (by omega) (by omega)]
      simp
      rw [each_step hnn (by omega)]
      simp
      rw [each_step (by omega) (by omega)]
      simp
      rw [each_step (by omega) (by omega)]
      simp
      rw [each_step (by omega) (by omega)]
      simp
      exact ⟨_, _, _, _, _, _, _, _, rfl, by omega⟩
    · have hr0 : r ≠ 0 := fun z => hz (by rw [z]; rfl)
      have p4 := over_eq (q := q * q) (r := r) (by omega) hr0
      have l6 := putR_len (qs := putR (putR (putR (putR (putR qs q) (-q)) (q.num : Rat)) (q + r)) (q * (q + r))) (q := q * q / r)
      have hdv := hq_div (q * q) r
      simp [i0, i1, p1, p2, p3, p4, f1, f2, j0, hz, sLine]
      rw [each_step (by omega) (by omega)]
      simp
      rw [each_step hnn (by omega)]
      simp
      rw [each_step (by omega) (by omega)]
      simp
      rw [each_step (by omega) (by omega)]
      simp
      rw [each_step (by omega) (by omega)]
      simp
      rw [each_step (by omega) (by omega)]
      simp
      exact ⟨_, _, _, _, _, _, _, _, rfl, by omega⟩
  · rintro _ ⟨_, rfl, qs, x3, x4, x5, x6, x7, x8, x9, rfl, hqs⟩
    have k3 : PyData.tuple [.int 0, .int 1] = fr 0 := rfl
    have z0 : hq (0 : Rat) ≤ 1000 := by decide +kernel
    have t0 : txt 0 = Str.ofString "0" := by
      rw [zero_S]
      show sOf (sgn 0 ++ dg 0 ++ tail47 1) = _
      rw [dg_lt (by decide)]; rfl
    simp [k3, show_eq z0, t0]
end Sr
open PySem PySem.W PyProof.Rows
set_option maxRecDepth 100000 in
set_option maxHeartbeats 0 in
theorem PySem.Challenge.cw_shimright_k04_fractions_shown_holds : PySem.Challenge.rw_shimright_k04_fractions_shown.Holds := by
  w_on; o_law; k_head; (case hw => w_witness2)
  k_fill
  refine L2.walk_of (l := PySem.Challenge.rw_shimright_k04_fractions_shown) (n := 63) (k := 5) (x := "script") (CX := fun _ => L2.CX0) (sp := fun w => L3.spT _ false (fun _ => none) 1 [] Sr.m_law_39) rfl (by decide) rfl ⟨rfl, by decide, by decide⟩ (fun w h Y => PySem.W.kIn_of Y) ?F (fun _ _ a ns hl hO hS => L3.law_sp hO hS (Sr.law_k04_holds ns hl)) (fun _ _ _ _ _ h => h)
  case F =>
    intro w mg fa h KX G hmg
    refine' Sr.all_mk KX G hmg ?a0 ?l0 ?c0 ?k0 ?a1 ?l1 ?c1 ?k1 ?a2 ?l2 ?c2 ?k2 ?a3 ?l3 ?c3 ?k3 ?a4 ?l4 ?c4 ?k4 ?a5 ?l5 ?c5 ?k5 ?a6 ?l6 ?c6 ?k6 ?a7 ?l7 ?c7 ?k7 ?a8 ?l8 ?c8 ?k8 ?a9 ?l9 ?c9 ?k9 ?a10 ?l10 ?c10 ?k10 ?a11 ?l11 ?c11 ?k11 ?a12 ?l12 ?c12 ?k12 ?a13 ?l13 ?c13 ?k13 ?a14 ?l14 ?c14 ?k14 ?a15 ?l15 ?c15 ?k15 ?z0 ?z1 ?z2 ?z3 ?z4 ?z5 ?z6
    (case a0 => k_is)
    (case l0 => k_is)
    (case c0 => k_is)
    (case k0 => k_is)
    (case a1 => k_is)
    (case l1 => k_is)
    (case c1 => k_is)
    (case k1 => k_is)
    (case a2 => k_is)
    (case l2 => k_is)
    (case c2 => k_is)
    (case k2 => k_is)
    (case a3 => k_is)
    (case l3 => k_is)
    (case c3 => k_is)
    (case k3 => k_is)
    (case a4 => k_is)
    (case l4 => k_is)
    (case c4 => k_is)
    (case k4 => k_is)
    (case a5 => k_is)
    (case l5 => k_is)
    (case c5 => k_is)
    (case k5 => k_is)
    (case a6 => k_is)
    (case l6 => k_is)
    (case c6 => k_is)
    (case k6 => k_is)
    (case a7 => k_is)
    (case l7 => k_is)
    (case c7 => k_is)
    (case k7 => k_is)
    (case a8 => k_is)
    (case l8 => k_is)
    (case c8 => k_is)
    (case k8 => k_is)
    (case a9 => k_is)
    (case l9 => k_is)
    (case c9 => k_is)
    (case k9 => k_is)
    (case a10 => k_is)
    (case l10 => k_is)
    (case c10 => k_is)
    (case k10 => k_is)
    (case a11 => k_is)
    (case l11 => k_is)
    (case c11 => k_is)
    (case k11 => k_is)
    (case a12 => k_is)
    (case l12 => k_is)
    (case c12 => k_is)
    (case k12 => k_is)
    (case a13 => k_is)
    (case l13 => k_is)
    (case c13 => k_is)
    (case k13 => k_is)
    (case a14 => k_is)
    (case l14 => k_is)
    (case c14 => k_is)
    (case k14 => k_is)
    (case a15 => k_is)
    (case l15 => k_is)
    (case c15 => k_is)
    (case k15 => k_is)
    (case z0 => k_is)
    (case z1 => k_is)
    (case z2 => k_is)
    (case z3 => k_is)
    (case z4 => k_is)
    (case z5 => k_is)
    (case z6 => k_is)
