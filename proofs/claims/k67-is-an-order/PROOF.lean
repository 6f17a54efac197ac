import PyProof.Rows.All
import Wide.All
import OpenK.AllK
import Wide.FinOn
import HandS.ForMost
import PyProof.Rows.All
import Wide.All
import OpenK.AllK
import Wide.FinOn
import KE.KIsAll
import KE.KTryMore
import HandS.Base
import HandS.Call
import HandS.List
import HandS.Exc
import HandS.ExcOwn
import HandS.ExcValue
import HandS.ExcIs
import HandS.IsInst
import HandS.ForExc
import HandS.Wide
import HandS.Walk
import HandS.Flow
import HandS.Deep
import HandS.Steps
import HandS.Zip
import PyProof.EqKinds
import KE.KEqDict
import KE.DataEq
import HandS.DeepEq
import PyProof.NeKinds
import HandS.Style
import HandS.TryOnly
import KE.KDictList
import KE.KDictZip
import HandS.Dict
import HandS.Iter
import HandS.More
import HandS.Conv
import HandS.RevRange
import HandS.Rev
import PyProof.LongRange
import KE.SortData
import PyProof.ListRange
import KE.DataFind
import KE.KDictCopyH
import HandS.Text
import PyProof.StrBlock2
import PyProof.DictValues
import PyProof.CollectWalk
import PyProof.EqAt
import HandS.Comp
import KE.GoesComp
import PySem.Challenge.RW_shimright_k67_is_an_order
set_option synthInstance.maxSize 1000
set_option Elab.async false
set_option linter.all false
set_option maxRecDepth 100000
set_option maxHeartbeats 4000000
set_option autoImplicit false
set_option exponentiation.threshold 10000
namespace L2
open PySem PySem.Spec PyProof.Rows
def ExK (C a : Addr) : HO := .ext fun h => ∃ (oe : Obj) (vs : Array Value), h.get? a = some oe ∧ Zc (.ref C) none oe ∧ oe.data = .fields vs
section
variable {X : Cx} {pins : List (Addr × Obj)} {σ : St} {H : Hp} {s : Shared}
end
end L2
namespace L2
open PySem PySem.Spec PyProof.Rows
section
variable {X : Cx} {x n : Str} {c : Value} {i : Nat} {body suite : List Stmt} {b₀ : Stmt} {np pos pos' : Pos} {tb : WX → TS} {ts : TS}
end
end L2
namespace L2
open PySem PySem.Spec PyProof.Rows
section
variable {X : Cx}
end
end L2
namespace L3
open PySem PySem.Spec PyProof.Rows L2
inductive R (α : Type) : Type where
  | ok (a : α) | exc (c : Str) | bad
def R.bind {α β : Type} (r : R α) (f : α → R β) : R β := match r with | .ok a => f a | .exc c => .exc c | .bad => .bad
def Then {α : Type} (r : R α) (P : α → Prop) (E : Str → Prop) : Prop := match r with | .ok a => P a | .exc c => E c | .bad => False
theorem then_ok {α : Type} {a : α} {P : α → Prop} {E : Str → Prop} : Then (.ok a) P E ↔ P a := Iff.rfl
theorem then_bind {α β : Type} {r : R α} {f : α → R β} {P : β → Prop} {E : Str → Prop} : Then (r.bind f) P E ↔ Then r (fun a => Then (f a) P E) E := by
  cases r <;> exact Iff.rfl
theorem Then.mono {α : Type} {r : R α} {P P' : α → Prop} {E E' : Str → Prop} (h : Then r P E) (hp : ∀ a, P a → P' a) (he : ∀ c, E c → E' c) : Then r P' E' := by
  cases r with
  | ok a => exact hp a h
  | exc c => exact he c h
  | bad => exact h
theorem Then.imp {α : Type} {r : R α} {P P' : α → Prop} {E : Str → Prop} (h : Then r P E) (hp : ∀ a, P a → P' a) : Then r P' E := h.mono hp fun _ x => x
def guard (b : Bool) {α : Type} (r : R α) : R α := if b = true then r else .bad
theorem then_guard {α : Type} {b : Bool} {r : R α} {P : α → Prop} {E : Str → Prop} : Then (guard b r) P E ↔ b = true ∧ Then r P E := by
  unfold guard
  cases b
  · constructor
    · intro h; exact h.elim
    · intro h; exact nomatch h.1
  · exact ⟨fun h => ⟨rfl, h⟩, fun h => h.2⟩
def ofO {α : Type} (o : Option α) : R α := match o with | some a => .ok a | none => .bad
theorem then_ofO {α : Type} {o : Option α} {P : α → Prop} {E : Str → Prop} : Then (ofO o) P E ↔ ∃ a, o = some a ∧ P a := by
  cases o with
  | none => exact ⟨fun h => h.elim, fun ⟨_, h, _⟩ => nomatch h⟩
  | some a => exact ⟨fun h => ⟨a, rfl, h⟩, fun ⟨b, h, q⟩ => by cases h; exact q⟩
abbrev D := PyData
inductive T where
  | d (x : PyData)
  | ol (xs : List T)
  | ot (xs : List T)
  | od (ks : List Key) (xs : List T)
  | fd (a : Addr) (ks : List Key) (xs : List T)
  | fk (a : Addr) (o : Obj) (kvs : List (Key × V))
  | dt (en : List Key × Addr × Value → DictEntry) (ks : List (List Key)) (ds : List PyData)
  | no (v : V)
  | hl
  | rd (xs : List PyData)
  | ex (x : Str)
  | ob (x : Str) (fs : List Str) (xs : List T)
def DtAt (en : List Key × Addr × Value → DictEntry) (h : Heap) (a : Addr) (xs : List (List Key × Addr × Value)) : Prop := ∃ o es ep, h.get? a = some o ∧ o.ExactDict ∧ o.data = .dict es ep ∧ es.toList = xs.map en
abbrev Env := List (Option T)
abbrev MEx := Env → R (T × Env)
def clK (K : PySem.W.Frag) (x : Str) : Option Addr := match PySem.W.nsIn K PySem.mainGlobals x with
  | some (some (.ref C)) => some C
  | _ => none
section
variable (K : PySem.W.Frag) (F : Addr → Prop) (H : Hp)
def RdL (a : Addr) (vs : List V) : Prop := (∃ o, H a = some (.frz o (.lst vs))) ∨ ∃ (o : Obj) (its : Array Value) (n : Nat), K.lookup a = some o ∧ o.cls = .type "list" ∧ o.dict = none ∧ o.data = .seq its n ∧ its.size ≤ sizeLine ∧ Vals vs its.toList
mutual
inductive Fz : V → PyData → Prop
  | non : Fz .non .none
  | bl (b : Bool) : Fz (.bl b) (.bool b)
  | int (i : Int) : Fz (.int i) (.int i)
  | str (x : Str) : Fz (.str x) (.str x)
  | lst {a : Addr} {vs : List V} {ds : List PyData} : H a = some (.lst vs) → F a → FzAll vs ds → Fz (.ref a) (.list ds)
  | tup {a : Addr} {vs : List V} {ds : List PyData} : SqT K H a vs → FzAll vs ds → Fz (.ref a) (.tuple ds)
  | edc {a : Addr} : H a = some (.dK []) → F a → Fz (.ref a) (.dict [])
inductive FzAll : List V → List PyData → Prop
  | nil : FzAll [] []
  | cons {v : V} {vs : List V} {d : PyData} {ds : List PyData} : Fz v d → FzAll vs ds → FzAll (v :: vs) (d :: ds)
end
def KeysT (xs : List (List Key × Addr × Value)) : Prop := ∀ x ∈ xs, SqT K H x.2.1 (x.1.map kV)
mutual
inductive Rp : V → T → List Addr → Prop
  | d {v : V} {x : PyData} : Fz K F H v x → Rp v (.d x) []
  | ol {a : Addr} {vs : List V} {ts : List T} {A : List Addr} : H a = some (.lst vs) → RpAll vs ts A → Rp (.ref a) (.ol ts) (a :: A)
  | ot {a : Addr} {vs : List V} {ts : List T} {A : List Addr} : H a = some (.tup vs) → RpAll vs ts A → Rp (.ref a) (.ot ts) A
  | od {a : Addr} {kvs : List (Key × V)} {ks : List Key} {ts : List T} {A : List Addr} : H a = some (.dK kvs) → kvs.map Prod.fst = ks → ks.Nodup → RpAll (kvs.map Prod.snd) ts A → Rp (.ref a) (.od ks ts) (a :: A)
  | fd {a : Addr} {o : Obj} {kvs : List (Key × V)} {ks : List Key} {ts : List T} {A : List Addr} : H a = some (.frz o (.dK kvs)) → kvs.map Prod.fst = ks → ks.Nodup → RpAll (kvs.map Prod.snd) ts A → Rp (.ref a) (.fd a ks ts) A
  | fk {a : Addr} {o : Obj} {kvs : List (Key × V)} : H a = some (.frz o (.dK kvs)) → Rp (.ref a) (.fk a o kvs) []
  | dt {a : Addr} {en : List Key × Addr × Value → DictEntry} {xs : List (List Key × Addr × Value)} {vs : List V} {ks : List (List Key)} {ds : List PyData} : H a = some (.ext fun h => DtAt en h a xs) → xs.map (·.1) = ks → ks.Nodup → KeysT K H xs → Vals vs (xs.map fun x => x.2.2) → FzAll K F H vs ds → Rp (.ref a) (.dt en ks ds) []
  | no (v : V) : Rp v (.no v) []
  | hl (a : Addr) : Rp (.ref a) .hl []
  | rd {a : Addr} {vs : List V} {ds : List PyData} : RdL K H a vs → FzAll K F H vs ds → Rp (.ref a) (.rd ds) []
  | ob {a C dx : Addr} {x : Str} {kvs : List (Str × V)} {fs : List Str} {ts : List T} {A : List Addr} : H a = some (.ins C dx kvs) → clK K x = some C → kvs.map Prod.fst = fs → RpAll (kvs.map Prod.snd) ts A → Rp (.ref a) (.ob x fs ts) (a :: A)
  | ex {a C : Addr} {x : Str} : H a = some (ExK C a) → clK K x = some C → ExcC K C → Rp (.ref a) (.ex x) []
inductive RpAll : List V → List T → List Addr → Prop
  | nil : RpAll [] [] []
  | cons {v : V} {vs : List V} {t : T} {ts : List T} {A B : List Addr} : Rp v t A → RpAll vs ts B → RpAll (v :: vs) (t :: ts) (A ++ B)
end
inductive Sl : List (Option V) → Env → List Addr → Prop
  | nil : Sl [] [] []
  | skip {o : Option V} {sl : List (Option V)} {ρ : Env} {A : List Addr} : Sl sl ρ A → Sl (o :: sl) (none :: ρ) A
  | cons {v : V} {t : T} {sl : List (Option V)} {ρ : Env} {A B : List Addr} : Rp K F H v t A → Sl sl ρ B → Sl (some v :: sl) (some t :: ρ) (A ++ B)
end
section
variable {K : PySem.W.Frag} {F F' : Addr → Prop} {H H' : Hp}
theorem RdL.sq {a : Addr} {vs : List V} (h : RdL K H a vs) : SqL K H a vs := by
  rcases h with ⟨o, h⟩ | h
  · exact .inl (.inr ⟨o, h⟩)
  · exact .inr h
def Still : HO → Prop
  | .tup _ => True
  | .frz _ _ => True
  | .ext _ => True
  | _ => False
structure Mono (F F' : Addr → Prop) (H H' : Hp) : Prop where
  lst : ∀ a u, H a = some u → F a → H' a = some u ∧ F' a
  still : ∀ a u, H a = some u → Still u → H' a = some u
theorem Mono.same (s : Same H H') : Mono F F H H' := ⟨fun _ _ h f => ⟨s _ _ h, f⟩, fun _ _ h _ => s _ _ h⟩
theorem Mono.sub (f : ∀ a, H a ≠ none → F a → F' a) : Mono F F' H H := ⟨fun _ _ h x => ⟨h, f _ (by rw [h]; exact fun z => nomatch z) x⟩, fun _ _ h _ => h⟩
theorem sqT_mono (s : ∀ a u, H a = some u → Still u → H' a = some u) {a : Addr} {vs : List V} (h : SqT K H a vs) : SqT K H' a vs := by
  rcases h with (h | ⟨o, h⟩) | h
  · exact .inl (.inl (s _ _ h trivial))
  · exact .inl (.inr ⟨o, s _ _ h trivial⟩)
  · exact .inr h
theorem RdL.mono (s : ∀ a u, H a = some u → Still u → H' a = some u) {a : Addr} {vs : List V} (h : RdL K H a vs) : RdL K H' a vs := by
  rcases h with ⟨o, h⟩ | h
  · exact .inl ⟨o, s _ _ h trivial⟩
  · exact .inr h
mutual
theorem Fz.mono (m : Mono F F' H H') : ∀ {v : V} {x : PyData}, Fz K F H v x → Fz K F' H' v x
  | _, _, .non => .non
  | _, _, .bl b => .bl b
  | _, _, .int i => .int i
  | _, _, .str x => .str x
  | _, _, .lst h f a => .lst (m.lst _ _ h f).1 (m.lst _ _ h f).2 (FzAll.mono m a)
  | _, _, .edc h f => .edc (m.lst _ _ h f).1 (m.lst _ _ h f).2
  | _, _, .tup h a => .tup (sqT_mono m.still h) (FzAll.mono m a)
theorem FzAll.mono (m : Mono F F' H H') : ∀ {vs : List V} {xs : List PyData}, FzAll K F H vs xs → FzAll K F' H' vs xs
  | _, _, .nil => .nil
  | _, _, .cons h a => .cons (Fz.mono m h) (FzAll.mono m a)
end
mutual
theorem Rp.mono (m : Mono F F' H H') : ∀ {v : V} {t : T} {A : List Addr}, Rp K F H v t A → (∀ a ∈ A, H' a = H a) → Rp K F' H' v t A
  | _, _, _, .d h, _ => .d (h.mono m)
  | _, _, _, .ol h r, k => .ol ((k _ List.mem_cons_self).trans h) (RpAll.mono m r fun a ha => k a (List.mem_cons_of_mem _ ha))
  | _, _, _, .ot h r, k => .ot (m.still _ _ h trivial) (RpAll.mono m r k)
  | _, _, _, .od h e d r, k => .od ((k _ List.mem_cons_self).trans h) e d (RpAll.mono m r fun a ha => k a (List.mem_cons_of_mem _ ha))
  | _, _, _, .fk h, _ => .fk (m.still _ _ h trivial)
  | _, _, _, .dt h e n k v r, _ => .dt (m.still _ _ h trivial) e n (fun x hx => sqT_mono m.still (k x hx)) v (FzAll.mono m r)
  | _, _, _, .no v, _ => .no v
  | _, _, _, .hl v, _ => .hl v
  | _, _, _, .fd h e d r, k => .fd (m.still _ _ h trivial) e d (RpAll.mono m r k)
  | _, _, _, .ob h c e r, k => .ob ((k _ List.mem_cons_self).trans h) c e (RpAll.mono m r fun a ha => k a (List.mem_cons_of_mem _ ha))
  | _, _, _, .rd h r, _ => .rd (h.mono m.still) (FzAll.mono m r)
  | _, _, _, .ex h c e, _ => .ex (m.still _ _ h trivial) c e
theorem RpAll.mono (m : Mono F F' H H') : ∀ {vs : List V} {ts : List T} {A : List Addr}, RpAll K F H vs ts A → (∀ a ∈ A, H' a = H a) → RpAll K F' H' vs ts A
  | _, _, _, .nil, _ => .nil
  | _, _, _, .cons h r, k => .cons (Rp.mono m h fun a ha => k a (List.mem_append_left _ ha)) (RpAll.mono m r fun a ha => k a (List.mem_append_right _ ha))
end
theorem Sl.mono (m : Mono F F' H H') : ∀ {sl : List (Option V)} {ρ : Env} {A : List Addr}, Sl K F H sl ρ A → (∀ a ∈ A, H' a = H a) → Sl K F' H' sl ρ A
  | _, _, _, .nil, _ => .nil
  | _, _, _, .skip h, k => .skip (Sl.mono m h k)
  | _, _, _, .cons h r, k => .cons (h.mono m fun a ha => k a (List.mem_append_left _ ha)) (Sl.mono m r fun a ha => k a (List.mem_append_right _ ha))
theorem Sl.len : ∀ {sl : List (Option V)} {ρ : Env} {A : List Addr}, Sl K F H sl ρ A → sl.length = ρ.length
  | _, _, _, .nil => rfl
  | _, _, _, .skip h => by rw [List.length_cons, List.length_cons, h.len]
  | _, _, _, .cons _ h => by rw [List.length_cons, List.length_cons, h.len]
theorem FzAll.len : ∀ {vs : List V} {xs : List PyData}, FzAll K F H vs xs → vs.length = xs.length
  | _, _, .nil => rfl
  | _, _, .cons _ h => by rw [List.length_cons, List.length_cons, h.len]
theorem RpAll.len : ∀ {vs : List V} {ts : List T} {A : List Addr}, RpAll K F H vs ts A → vs.length = ts.length
  | _, _, _, .nil => rfl
  | _, _, _, .cons _ h => by rw [List.length_cons, List.length_cons, h.len]
theorem FzAll.get : ∀ {vs : List V} {xs : List PyData}, FzAll K F H vs xs → ∀ {i : Nat} {x : PyData}, xs[i]? = some x → ∃ v, vs[i]? = some v ∧ Fz K F H v x
  | _, _, .nil, i, x, h => by simp at h
  | _, _, .cons (v := v) a r, 0, x, h => by
    simp at h; subst h
    exact ⟨v, rfl, a⟩
  | _, _, .cons a r, i + 1, x, h => by
    obtain ⟨v, e, q⟩ := r.get (i := i) (x := x) (by simpa using h)
    exact ⟨v, by simpa using e, q⟩
theorem RpAll.get : ∀ {vs : List V} {ts : List T} {A : List Addr}, RpAll K F H vs ts A → ∀ {i : Nat} {t : T}, ts[i]? = some t → ∃ v B, vs[i]? = some v ∧ Rp K F H v t B ∧ ∀ a, B.count a ≤ A.count a
  | _, _, _, .nil, i, x, h => by simp at h
  | _, _, _, .cons (v := v) (A := A1) a r, 0, x, h => by
    simp at h; subst h
    exact ⟨v, A1, rfl, a, fun b => by rw [List.count_append]; omega⟩
  | _, _, _, .cons a r, i + 1, x, h => by
    obtain ⟨v, B, e, q, z⟩ := r.get (i := i) (t := x) (by simpa using h)
    exact ⟨v, B, by simpa using e, q, fun b => by have := z b; rw [List.count_append]; omega⟩
mutual
theorem Rp.own : ∀ {v : V} {t : T} {A : List Addr}, Rp K F H v t A → ∀ a ∈ A, ∃ u, H a = some u ∧ ¬ Still u
  | _, _, _, .d _, a, h => by simp at h
  | _, _, _, .ol (vs := vs) e r, a, h => by
    rcases List.mem_cons.mp h with z | z
    · exact ⟨_, (by rw [z]; exact e), (by intro y; cases y)⟩
    · exact RpAll.own r a z
  | _, _, _, .ot _ r, a, h => RpAll.own r a h
  | _, _, _, .od (kvs := kvs) e _ _ r, a, h => by
    rcases List.mem_cons.mp h with z | z
    · exact ⟨_, (by rw [z]; exact e), (by intro y; cases y)⟩
    · exact RpAll.own r a z
  | _, _, _, .ob e _ _ r, a, h => by
    rcases List.mem_cons.mp h with z | z
    · exact ⟨_, (by rw [z]; exact e), (by intro y; cases y)⟩
    · exact RpAll.own r a z
  | _, _, _, .fd _ _ _ r, a, h => RpAll.own r a h
  | _, _, _, .fk _, a, h => by simp at h
  | _, _, _, .dt _ _ _ _ _ _, a, h => by simp at h
  | _, _, _, .no _, a, h => by simp at h
  | _, _, _, .hl _, a, h => by simp at h
  | _, _, _, .rd _ _, a, h => by simp at h
  | _, _, _, .ex _ _ _, a, h => by simp at h
theorem RpAll.own : ∀ {vs : List V} {ts : List T} {A : List Addr}, RpAll K F H vs ts A → ∀ a ∈ A, ∃ u, H a = some u ∧ ¬ Still u
  | _, _, _, .nil, a, h => by simp at h
  | _, _, _, .cons x r, a, h => by
    rcases List.mem_append.mp h with z | z
    · exact Rp.own x a z
    · exact RpAll.own r a z
end
theorem Sl.own : ∀ {sl : List (Option V)} {ρ : Env} {A : List Addr}, Sl K F H sl ρ A → ∀ a ∈ A, ∃ u, H a = some u ∧ ¬ Still u
  | _, _, _, .nil, a, h => by simp at h
  | _, _, _, .skip h, a, z => h.own a z
  | _, _, _, .cons x r, a, h => by
    rcases List.mem_append.mp h with z | z
    · exact x.own a z
    · exact r.own a z
end
structure C0 where
  H0 : Hp
  A0 : List Addr
  F0 : Addr → Prop
def Fok (c : C0) (A : List Addr) : Addr → Prop := fun a => (c.F0 a ∨ c.H0 a = none ∨ a ∈ c.A0) ∧ a ∉ A
structure KeepC (c : C0) (H : Hp) : Prop where
  keep : ∀ a o, c.H0 a = some o → a ∉ c.A0 → H a = some o
  there : ∀ a, H a = none → c.H0 a = none
structure StW (K : PySem.W.Frag) (c : C0) (H : Hp) (sl : List (Option V)) (ρ : Env) (A : List Addr) : Prop where
  uniq : ∀ a, A.count a ≤ 1
  slots : Sl K (Fok c A) H sl ρ A
  own : ∀ a ∈ A, a ∈ c.A0 ∨ c.H0 a = none
  keep : KeepC c H
def StR (K : PySem.W.Frag) (c : C0) (H : Hp) (sl : List (Option V)) (ρ : Env) : Prop := ∃ A, StW K c H sl ρ A
section
variable {K : PySem.W.Frag} {c : C0} {H H' : Hp} {sl : List (Option V)} {ρ : Env} {A : List Addr}
theorem StR.keep (h : StR K c H sl ρ) : KeepC c H := let ⟨_, w⟩ := h; w.keep
theorem KeepC.grow (k : KeepC c H) (s : Same H H') : KeepC c H' := ⟨fun a o e n => s _ _ (k.keep a o e n), fun a e => k.there a (s.free e)⟩
theorem StW.grow (w : StW K c H sl ρ A) (s : Same H H') : StW K c H' sl ρ A :=
  ⟨w.uniq, w.slots.mono (.same s) fun a ha => by
    obtain ⟨u, e, _⟩ := w.slots.own a ha
    rw [e, s _ _ e], w.own, w.keep.grow s⟩
theorem StR.grow (h : StR K c H sl ρ) (s : Same H H') : StR K c H' sl ρ := let ⟨A, w⟩ := h; ⟨A, w.grow s⟩
theorem same_upd {p : Addr} {o : HO} (h : H p = none) : Same H (upd H p o) := fun b x e => by rw [upd_ne (ne_of_none e h)]; exact e
theorem Fok.sub {B : List Addr} (h : ∀ a, B.count a ≤ A.count a) : ∀ a, Fok c A a → Fok c B a := fun a ⟨x, y⟩ => ⟨x, fun z => y (by
  have := List.count_pos_iff.mpr z
  have := h a
  exact List.count_pos_iff.mp (by omega))⟩
theorem StW.drop {o : Option V} {t : Option T} (w : StW K c H (o :: sl) (t :: ρ) A) : ∃ B, StW K c H sl ρ B ∧ ∀ a, B.count a ≤ A.count a := by
  obtain ⟨u, s, ow, k⟩ := w
  cases s with
  | skip s => exact ⟨A, ⟨u, s, ow, k⟩, fun _ => Nat.le_refl _⟩
  | cons x r =>
    rename_i A1 B1
    have hb : ∀ a, B1.count a ≤ (A1 ++ B1).count a := fun a => by rw [List.count_append]; omega
    exact ⟨B1, ⟨fun a => Nat.le_trans (hb a) (u a), r.mono (.sub fun a _ => Fok.sub hb a) fun _ _ => rfl, fun a ha => ow a (List.mem_append_right _ ha), k⟩, hb⟩
theorem StR.drop {o : Option V} {t : Option T} (h : StR K c H (o :: sl) (t :: ρ)) : StR K c H sl ρ := let ⟨_, w⟩ := h; let ⟨B, w', _⟩ := w.drop; ⟨B, w'⟩
theorem StR.len (h : StR K c H sl ρ) : sl.length = ρ.length := let ⟨_, w⟩ := h; w.slots.len
theorem StW.pushD {v : V} {x : PyData} (w : StW K c H sl ρ A) (f : Fz K (Fok c A) H v x) : StW K c H (some v :: sl) (some (.d x) :: ρ) A := ⟨w.uniq, .cons (A := []) (.d f) w.slots, w.own, w.keep⟩
theorem StW.top {v : V} {t : T} (w : StW K c H (some v :: sl) (some t :: ρ) A) : ∃ A1 B, A = A1 ++ B ∧ Rp K (Fok c A) H v t A1 ∧ Sl K (Fok c A) H sl ρ B := by
  obtain ⟨u, s, ow, k⟩ := w
  cases s with
  | cons x r => exact ⟨_, _, rfl, x, r⟩
theorem StW.topD {v : V} {x : PyData} (w : StW K c H (some v :: sl) (some (.d x) :: ρ) A) : Fz K (Fok c A) H v x ∧ StW K c H sl ρ A := by
  obtain ⟨u, s, ow, k⟩ := w
  cases s with
  | cons x r =>
    cases x with
    | d f => exact ⟨f, u, r, ow, k⟩
end
section
variable {K : PySem.W.Frag} {F F' : Addr → Prop} {H H' : Hp}
structure Around1 (K : PySem.W.Frag) (F : Addr → Prop) (H : Hp) (i : Nat) (sl : List (Option V)) (ρ : Env) (B : List Addr) : Prop where
  put : ∀ {F' : Addr → Prop} {H' : Hp}, Mono F F' H H' → (∀ a ∈ B, H' a = H a) → ∀ {v' : V} {t' : T} {A2 : List Addr}, Rp K F' H' v' t' A2 →
    ∃ C, Sl K F' H' (sl.set i (some v')) (ρ.set i (some t')) C ∧ ∀ a, C.count a = A2.count a + B.count a
  gone : ∀ o : Option V, ∃ C, Sl K F H (sl.set i o) (ρ.set i none) C ∧ ∀ a, C.count a = B.count a
theorem Sl.around : ∀ {sl : List (Option V)} {ρ : Env} {A : List Addr}, Sl K F H sl ρ A → ∀ {i : Nat}, i < sl.length → ∃ B, (∀ a, B.count a ≤ A.count a) ∧ Around1 K F H i sl ρ B ∧
    ∀ t, ρ[i]? = some (some t) → ∃ v A1, sl[i]? = some (some v) ∧ Rp K F H v t A1 ∧ ∀ a, A.count a = A1.count a + B.count a
  | _, _, _, .nil, i, h => by simp at h
  | _, _, _, .skip (o := o) (sl := sl) (ρ := ρ) (A := A) r, 0, h => by
    refine ⟨A, fun _ => Nat.le_refl _, ⟨fun m k v' t' A2 x => ⟨A2 ++ A, .cons x (r.mono m k), fun a => by rw [List.count_append]⟩, fun o' => ⟨A, .skip r, fun _ => rfl⟩⟩, fun t e => by simp at e⟩
  | _, _, _, .cons (v := v) (t := t) (A := A) (B := B) x r, 0, h => by
    refine ⟨B, fun a => by rw [List.count_append]; omega, ⟨fun m k v' t' A2 y => ⟨A2 ++ B, .cons y (r.mono m k), fun a => by rw [List.count_append]⟩, fun o' => ⟨B, .skip r, fun _ => rfl⟩⟩, fun t' e => ?_⟩
    have e' : t = t' := by simpa using e
    subst e'
    exact ⟨v, A, rfl, x, fun a => by rw [List.count_append]⟩
  | _, _, _, .skip (o := o) (A := A) r, i + 1, h => by
    obtain ⟨B, hb, ar, q⟩ := r.around (i := i) (by simpa using h)
    refine ⟨B, hb, ⟨fun m k v' t' A2 x => ?_, fun o' => ?_⟩, fun t e => ?_⟩
    · obtain ⟨C, s, z⟩ := ar.put m k x
      exact ⟨C, .skip s, z⟩
    · obtain ⟨C, s, z⟩ := ar.gone o'
      exact ⟨C, .skip s, z⟩
    · obtain ⟨v, A1, e1, x, z⟩ := q t (by simpa using e)
      exact ⟨v, A1, by simpa using e1, x, z⟩
  | _, _, _, .cons (v := w) (t := t0) (A := A0) (B := B0) y r, i + 1, h => by
    obtain ⟨B, hb, ar, q⟩ := r.around (i := i) (by simpa using h)
    refine ⟨A0 ++ B, fun a => by rw [List.count_append, List.count_append]; have := hb a; omega, ⟨fun m k v' t' A2 x => ?_, fun o' => ?_⟩, fun t e => ?_⟩
    · obtain ⟨C, s, z⟩ := ar.put m (fun a ha => k a (List.mem_append_right _ ha)) x
      exact ⟨A0 ++ C, .cons (y.mono m fun a ha => k a (List.mem_append_left _ ha)) s, fun a => by rw [List.count_append, List.count_append, z a]; omega⟩
    · obtain ⟨C, s, z⟩ := ar.gone o'
      exact ⟨A0 ++ C, .cons y s, fun a => by rw [List.count_append, List.count_append, z a]⟩
    · obtain ⟨v, A1, e1, x, z⟩ := q t (by simpa using e)
      exact ⟨v, A1, by simpa using e1, x, fun a => by rw [List.count_append, List.count_append, z a]; omega⟩
theorem Sl.raise : ∀ {xs : List (Option V)} {as : Env} {ys : List (Option V)} {bs : Env} {v : V} {t : T} {A : List Addr}, xs.length = as.length → Sl K F H (xs ++ some v :: ys) (as ++ some t :: bs) A →
    ∃ C, Sl K F H (some v :: (xs ++ ys)) (some t :: (as ++ bs)) C ∧ ∀ a, C.count a = A.count a
  | [], [], _, _, _, _, A, _, h => ⟨A, h, fun _ => rfl⟩
  | o :: xs, a :: as, ys, bs, v, t, _, hl, h => by
    have hl' : xs.length = as.length := by simpa using hl
    cases h with
    | skip r =>
      obtain ⟨C, s, z⟩ := r.raise hl'
      cases s with
      | cons x s => exact ⟨_, .cons x (.skip s), z⟩
    | cons y r =>
      rename_i u t0 A1 B1
      obtain ⟨C, s, z⟩ := r.raise hl'
      cases s with
      | cons x s =>
        rename_i A2 B2
        exact ⟨_, .cons x (.cons y s), fun a => by have := z a; simp only [List.count_append] at this ⊢; omega⟩
  | [], _ :: _, _, _, _, _, _, hl, _ => by simp at hl
  | _ :: _, [], _, _, _, _, _, hl, _ => by simp at hl
end
section
variable {K : PySem.W.Frag} {c : C0} {H H' : Hp} {sl : List (Option V)} {ρ : Env} {A : List Addr}
theorem StW.remake {sl' : List (Option V)} {ρ' : Env} {C : List Addr} (w : StW K c H sl ρ A) (hc : ∀ a, C.count a ≤ A.count a) (s : Sl K (Fok c A) H sl' ρ' C) : StW K c H sl' ρ' C :=
  ⟨fun a => Nat.le_trans (hc a) (w.uniq a), s.mono (.sub fun a _ => Fok.sub hc a) fun _ _ => rfl, fun a ha => w.own a (by
    have := List.count_pos_iff.mpr ha
    have := hc a
    exact List.count_pos_iff.mp (by omega)), w.keep⟩
theorem StR.raise {xs : List (Option V)} {as : Env} {ys : List (Option V)} {bs : Env} {v : V} {t : T} (hl : xs.length = as.length) (h : StR K c H (xs ++ some v :: ys) (as ++ some t :: bs)) : StR K c H (some v :: (xs ++ ys)) (some t :: (as ++ bs)) := by
  obtain ⟨A, w⟩ := h
  obtain ⟨C, s, z⟩ := w.slots.raise hl
  exact ⟨C, w.remake (fun a => Nat.le_of_eq (z a)) s⟩
theorem Fok.fresh {p : Addr} (hp : H p = none) : Mono (Fok c A) (Fok c (p :: A)) H H :=
  .sub fun a ha ⟨x, y⟩ => ⟨x, fun z => by
    rcases List.mem_cons.mp z with e | e
    · exact ha (by rw [e]; exact hp)
    · exact y e⟩
theorem StW.not_mem_of_none {p : Addr} (w : StW K c H sl ρ A) (hp : H p = none) : p ∉ A := fun ha => by
  obtain ⟨u, e, _⟩ := w.slots.own p ha
  rw [hp] at e; cases e
end
def SimE (K : PySem.W.Frag) (E : Str → Hp → Prop) (gr : Bool) (te : TE) (m : MEx) : Prop :=
  ∀ (c : C0) (H : Hp) (tv : List (Option V)) (td : Env) (σ : L2.St) (ρ : Env), tv.length = td.length → StR K c H (tv ++ σ) (td ++ ρ) → ∀ Q : VK,
    Then (m ρ) (fun r => ∀ v H', (gr = true → Same H H') → StR K c H' (some v :: (tv ++ σ)) (some r.1 :: (td ++ r.2)) → Q v H') (fun x => ∀ H', KeepC c H' → E x H') → te σ H Q
structure QE (X : Cx) (E : Str → Hp → Prop) (gr : Bool) (e : Expr) (te : TE) (m : MEx) : Prop where
  pe : PE X e te
  sim : SimE X.K E gr te m
end L3
namespace PySem.SeqAt
open AutoSeq1 (wpAny_loadPart')
open MeetsSeq
theorem x5_bool (b : Bool) (a : Addr) (es : Array DictEntry) (n : Nat) (dd : Option Addr) (sl : Array (Option Value)) :
    Meets (Builtin.«int.__eq__» ⟨[.bool b, .ref a], []⟩) (fun _ R s => s.heap.get? a = some { cls := .type "dict", dict := dd, data := .dict es n, slots := sl } ∧ R (.ok (.ret .notImplemented)) s) :=
  .of_wp fun prog w A R s h => by
    obtain ⟨hp, g, d, tk, os⟩ := s
    obtain ⟨hl, h⟩ := h
    wp_walk using wpAny_loadPart' hl, wpAny_load hl
    exact ⟨_, rfl, h⟩
theorem x5_int (i : Int) (u : Tok) (a : Addr) (es : Array DictEntry) (n : Nat) (dd : Option Addr) (sl : Array (Option Value)) :
    Meets (Builtin.«int.__eq__» ⟨[.int i u, .ref a], []⟩) (fun _ R s => s.heap.get? a = some { cls := .type "dict", dict := dd, data := .dict es n, slots := sl } ∧ R (.ok (.ret .notImplemented)) s) :=
  .of_wp fun prog w A R s h => by
    obtain ⟨hp, g, d, tk, os⟩ := s
    obtain ⟨hl, h⟩ := h
    wp_walk using wpAny_loadPart' hl, wpAny_load hl
    exact ⟨_, rfl, h⟩
theorem x5_str (x : Str) (u : Tok) (a : Addr) (es : Array DictEntry) (n : Nat) (dd : Option Addr) (sl : Array (Option Value)) :
    Meets (Builtin.«str.__eq__» ⟨[.str x u, .ref a], []⟩) (fun _ R s => s.heap.get? a = some { cls := .type "dict", dict := dd, data := .dict es n, slots := sl } ∧ R (.ok (.ret .notImplemented)) s) :=
  .of_wp fun prog w A R s h => by
    obtain ⟨hp, g, d, tk, os⟩ := s
    obtain ⟨hl, h⟩ := h
    wp_walk using wpAny_loadPart' hl, wpAny_load hl
    exact ⟨_, rfl, h⟩
theorem x5_list (l a : Addr) (items : Array Value) (m : Nat) (d1 : Option Addr) (s1 : Array (Option Value)) (es : Array DictEntry) (n : Nat) (dd : Option Addr) (sl : Array (Option Value)) :
    Meets (Builtin.«list.__eq__» ⟨[.ref l, .ref a], []⟩) (fun _ R s => s.heap.get? l = some { cls := .type "list", dict := d1, data := .seq items m, slots := s1 } ∧ s.heap.get? a = some { cls := .type "dict", dict := dd, data := .dict es n, slots := sl } ∧ R (.ok (.ret .notImplemented)) s) :=
  .of_wp fun prog w A R s h => by
    obtain ⟨hp, g, d, tk, os⟩ := s
    obtain ⟨hl, ha, h⟩ := h
    have f1 := F.sub_dict_list
    wp_walk using wpAny_loadPart' hl, wpAny_loadPart' ha
    exact ⟨_, rfl, h⟩
theorem x5_tuple (l a : Addr) (items : Array Value) (m : Nat) (d1 : Option Addr) (s1 : Array (Option Value)) (es : Array DictEntry) (n : Nat) (dd : Option Addr) (sl : Array (Option Value)) :
    Meets (Builtin.«tuple.__eq__» ⟨[.ref l, .ref a], []⟩) (fun _ R s => s.heap.get? l = some { cls := .type "tuple", dict := d1, data := .seq items m, slots := s1 } ∧ s.heap.get? a = some { cls := .type "dict", dict := dd, data := .dict es n, slots := sl } ∧ R (.ok (.ret .notImplemented)) s) :=
  .of_wp fun prog w A R s h => by
    obtain ⟨hp, g, d, tk, os⟩ := s
    obtain ⟨hl, ha, h⟩ := h
    have f1 := F.sub_dict_tuple
    wp_walk using wpAny_loadPart' hl, wpAny_loadPart' ha
    exact ⟨_, rfl, h⟩
def IsD (h : Heap) (a : Addr) : Prop := ∃ (es : Array DictEntry) (n : Nat) (dd : Option Addr) (sl : Array (Option Value)), h.get? a = some { cls := .type "dict", dict := dd, data := .dict es n, slots := sl }
section
variable {prog : Program} {w : World} {A : Around} {E : Value → Shared → Prop} {s : Shared} {a : Addr}
theorem x5_declines {y : Value} {T : String} {Q : Value → Shared → Prop} (da : s.TypeIs (.ref a) "dict") (ty : s.TypeIs y T) (sub : isSubtype (.type T) (.type "dict") = pure false) (hq : Q .notImplemented s) : wpAny (model prog w) A (call (.builtin "dict.__eq__") [.ref a, y]) Q E s := by
  refine wpAny_call_entry PySem.F.slot_dict_eq da PySem.F.entry_dict_eq ?_ (PySem.F.args_dict_eq_2 _ _)
  show wpAny _ _ (Builtin.Dict.dictSlotArgs "__eq__" ⟨[.ref a, y], []⟩ >>= _) _ _ s
  refine wpAny_bind ?_
  unfold Builtin.Dict.dictSlotArgs
  refine wpAny_bind (wpAny_notOrdered_dict da ?_)
  show wpAny _ _ (pure (Value.ref a, y)) _ _ s
  refine wpAny_pure ?_
  refine wpAny_bind (wpAny_isInstance (T := T) ty sub ?_)
  simp only [Bool.not_false, if_true]
  refine wpAny_bind (wpAny_rule ?_)
  refine wpAny_bind (wpAny_pure ?_)
  exact wpAny_pure ⟨_, rfl, hq⟩
end
section
variable {A : Around} {s : Shared} {a : Addr}
theorem x5_ty (hd : IsD s.heap a) : s.TypeIs (.ref a) "dict" := by
  obtain ⟨es, n, dd, sl, h⟩ := hd
  exact ⟨_, h, rfl⟩
theorem x5_l {y : Value} {T id : String} (hd : IsD s.heap a) (ty : s.TypeIs y T) (hne : (Value.type "dict" != Value.type T) = true) (sub : isSubtype (.type T) (.type "dict") = pure false) (slot : Slot T (cmpInfo .Eq).2.2 id)
    (dec : ∀ (prog : Program) (w : World) (E Q : Value → Shared → Prop), Q .notImplemented s → wpAny (model prog w) A (call (.builtin id) [y, .ref a]) Q E s) (sm : ∀ (prog : Program) (w : World) (E : Value → Shared → Prop) (Q : Bool → Shared → Prop), Q false s → wpAny (model prog w) A (isSame (.ref a) y) Q E s) (hu : A.units < cLine) : RcAt A s (.ref a) y false := fun prog w E Q h =>
  rc_eq_decline_or (k := false) (x5_ty hd) ty hne sub PySem.F.slot_dict_eq slot (fun _ hq => x5_declines (x5_ty hd) ty sub hq) (fun _ hq => dec prog w E _ hq) (fun _ hq => sm prog w E _ hq) (.inr hu) h
theorem x5_r {y : Value} {T id : String} (hd : IsD s.heap a) (ty : s.TypeIs y T) (hne : (Value.type T != Value.type "dict") = true) (sub : isSubtype (.type T) (.type "dict") = pure false) (sub2 : isSubtype (.type "dict") (.type T) = pure false) (slot : Slot T (cmpInfo .Eq).2.1 id)
    (dec : ∀ (prog : Program) (w : World) (E Q : Value → Shared → Prop), Q .notImplemented s → wpAny (model prog w) A (call (.builtin id) [y, .ref a]) Q E s) (sm : ∀ (prog : Program) (w : World) (E : Value → Shared → Prop) (Q : Bool → Shared → Prop), Q false s → wpAny (model prog w) A (isSame y (.ref a)) Q E s) (hu : A.units < cLine) : RcAt A s y (.ref a) false := fun prog w E Q h =>
  rc_eq_decline_or (k := false) ty (x5_ty hd) hne sub2 slot PySem.F.slot_dict_eq_refl (fun _ hq => dec prog w E _ hq) (fun _ hq => x5_declines (x5_ty hd) ty sub hq) (fun _ hq => sm prog w E _ hq) (.inr hu) h
theorem x5_d_none (hd : IsD s.heap a) (hu : A.units < cLine) : EqAt A s (.ref a) .none false := by
  obtain ⟨es, n, dd, sl, h⟩ := id hd
  intro prog w E Q hq
  unfold eqBool
  refine wpAny_holding ?_
  refine wpAny_ite_split (fun hab => absurd (eq_of_beq hab) nofun) fun _ => ?_
  have rc : RcAt A s (.ref a) .none false := (x5_l (T := "NoneType") hd rfl (by decide) F.sub_NoneType_dict F.slot_NoneType_eq_refl (fun _ _ _ _ hq => call_gives F.slot_NoneType_eq_refl rfl F.entry_NoneType_eq (F.args_NoneType_eq_2 _ _) (NoneType___eq___none_ref_0 a) hq) (fun _ _ _ _ hq => wpAny_of_eq (rfl : isSame (.ref a) .none = pure false) hq) hu)
  exact wpAny_bind (rc prog w E _ (wpAny_truthy_bool hq))
theorem x5_none_d (hd : IsD s.heap a) (hu : A.units < cLine) : EqAt A s .none (.ref a) false := by
  obtain ⟨es, n, dd, sl, h⟩ := id hd
  intro prog w E Q hq
  unfold eqBool
  refine wpAny_holding ?_
  refine wpAny_ite_split (fun hab => absurd (eq_of_beq hab) nofun) fun _ => ?_
  have rc : RcAt A s .none (.ref a) false := (x5_r (T := "NoneType") hd rfl (by decide) F.sub_NoneType_dict F.sub_dict_NoneType F.slot_NoneType_eq (fun _ _ _ _ hq => call_gives F.slot_NoneType_eq rfl F.entry_NoneType_eq (F.args_NoneType_eq_2 _ _) (NoneType___eq___none_ref_0 a) hq) (fun _ _ _ _ hq => wpAny_of_eq (rfl : isSame .none (.ref a) = pure false) hq) hu)
  exact wpAny_bind (rc prog w E _ (wpAny_truthy_bool hq))
theorem x5_d_bool (b : Bool) (hd : IsD s.heap a) (hu : A.units < cLine) : EqAt A s (.ref a) (.bool b) false := by
  obtain ⟨es, n, dd, sl, h⟩ := id hd
  intro prog w E Q hq
  unfold eqBool
  refine wpAny_holding ?_
  refine wpAny_ite_split (fun hab => absurd (eq_of_beq hab) nofun) fun _ => ?_
  have rc : RcAt A s (.ref a) (.bool b) false := (x5_l (T := "bool") hd rfl (by decide) F.sub_bool_dict F.slot_bool_eq_refl (fun _ _ _ _ hq => call_meets F.slot_bool_eq_refl rfl F.entry_int_eq (F.args_int_eq_2 _ _) (x5_bool b a es n dd sl) ⟨h, hq⟩) (fun _ _ _ _ hq => wpAny_of_eq (rfl : isSame (.ref a) (.bool b) = pure false) hq) hu)
  exact wpAny_bind (rc prog w E _ (wpAny_truthy_bool hq))
theorem x5_bool_d (b : Bool) (hd : IsD s.heap a) (hu : A.units < cLine) : EqAt A s (.bool b) (.ref a) false := by
  obtain ⟨es, n, dd, sl, h⟩ := id hd
  intro prog w E Q hq
  unfold eqBool
  refine wpAny_holding ?_
  refine wpAny_ite_split (fun hab => absurd (eq_of_beq hab) nofun) fun _ => ?_
  have rc : RcAt A s (.bool b) (.ref a) false := (x5_r (T := "bool") hd rfl (by decide) F.sub_bool_dict F.sub_dict_bool F.slot_bool_eq (fun _ _ _ _ hq => call_meets F.slot_bool_eq rfl F.entry_int_eq (F.args_int_eq_2 _ _) (x5_bool b a es n dd sl) ⟨h, hq⟩) (fun _ _ _ _ hq => wpAny_of_eq (rfl : isSame (.bool b) (.ref a) = pure false) hq) hu)
  exact wpAny_bind (rc prog w E _ (wpAny_truthy_bool hq))
theorem x5_d_int (i : Int) (t : Tok) (hd : IsD s.heap a) (hu : A.units < cLine) : EqAt A s (.ref a) (.int i t) false := by
  obtain ⟨es, n, dd, sl, h⟩ := id hd
  intro prog w E Q hq
  unfold eqBool
  refine wpAny_holding ?_
  refine wpAny_ite_split (fun hab => absurd (eq_of_beq hab) nofun) fun _ => ?_
  have rc : RcAt A s (.ref a) (.int i t) false := (x5_l (T := "int") hd rfl (by decide) F.sub_int_dict F.slot_int_eq_refl (fun _ _ _ _ hq => call_meets F.slot_int_eq_refl rfl F.entry_int_eq (F.args_int_eq_2 _ _) (x5_int i t a es n dd sl) ⟨h, hq⟩) (fun _ _ _ _ hq => wpAny_of_eq (rfl : isSame (.ref a) (.int i t) = pure false) hq) hu)
  exact wpAny_bind (rc prog w E _ (wpAny_truthy_bool hq))
theorem x5_int_d (i : Int) (t : Tok) (hd : IsD s.heap a) (hu : A.units < cLine) : EqAt A s (.int i t) (.ref a) false := by
  obtain ⟨es, n, dd, sl, h⟩ := id hd
  intro prog w E Q hq
  unfold eqBool
  refine wpAny_holding ?_
  refine wpAny_ite_split (fun hab => absurd (eq_of_beq hab) nofun) fun _ => ?_
  have rc : RcAt A s (.int i t) (.ref a) false := (x5_r (T := "int") hd rfl (by decide) F.sub_int_dict F.sub_dict_int F.slot_int_eq (fun _ _ _ _ hq => call_meets F.slot_int_eq rfl F.entry_int_eq (F.args_int_eq_2 _ _) (x5_int i t a es n dd sl) ⟨h, hq⟩) (fun _ _ _ _ hq => wpAny_of_eq (rfl : isSame (.int i t) (.ref a) = pure false) hq) hu)
  exact wpAny_bind (rc prog w E _ (wpAny_truthy_bool hq))
theorem x5_d_str (x : Str) (t : Tok) (hd : IsD s.heap a) (hu : A.units < cLine) : EqAt A s (.ref a) (.str x t) false := by
  obtain ⟨es, n, dd, sl, h⟩ := id hd
  intro prog w E Q hq
  unfold eqBool
  refine wpAny_holding ?_
  refine wpAny_ite_split (fun hab => absurd (eq_of_beq hab) nofun) fun _ => ?_
  have rc : RcAt A s (.ref a) (.str x t) false := (x5_l (T := "str") hd rfl (by decide) F.sub_str_dict F.slot_str_eq_refl (fun _ _ _ _ hq => call_meets F.slot_str_eq_refl rfl F.entry_str_eq (F.args_str_eq_2 _ _) (x5_str x t a es n dd sl) ⟨h, hq⟩) (fun _ _ _ _ hq => wpAny_of_eq (rfl : isSame (.ref a) (.str x t) = pure false) hq) hu)
  exact wpAny_bind (rc prog w E _ (wpAny_truthy_bool hq))
theorem x5_str_d (x : Str) (t : Tok) (hd : IsD s.heap a) (hu : A.units < cLine) : EqAt A s (.str x t) (.ref a) false := by
  obtain ⟨es, n, dd, sl, h⟩ := id hd
  intro prog w E Q hq
  unfold eqBool
  refine wpAny_holding ?_
  refine wpAny_ite_split (fun hab => absurd (eq_of_beq hab) nofun) fun _ => ?_
  have rc : RcAt A s (.str x t) (.ref a) false := (x5_r (T := "str") hd rfl (by decide) F.sub_str_dict F.sub_dict_str F.slot_str_eq (fun _ _ _ _ hq => call_meets F.slot_str_eq rfl F.entry_str_eq (F.args_str_eq_2 _ _) (x5_str x t a es n dd sl) ⟨h, hq⟩) (fun _ _ _ _ hq => wpAny_of_eq (rfl : isSame (.str x t) (.ref a) = pure false) hq) hu)
  exact wpAny_bind (rc prog w E _ (wpAny_truthy_bool hq))
theorem x5_ne_list {h0 : Heap} {l a : Addr} {its : Array Value} (hl : h0.IsList l its) (hd : IsD h0 a) : l ≠ a := fun e => by
  subst e
  obtain ⟨o, ho, hc, _⟩ := hl
  obtain ⟨es, n, dd, sl, h⟩ := hd
  rw [h] at ho
  cases ho
  exact absurd hc (by simp)
theorem x5_d_list {l : Addr} {its : Array Value} (hl : s.heap.IsList l its) (hd : IsD s.heap a) (hu : A.units < cLine) : EqAt A s (.ref a) (.ref l) false := by
  have ne := x5_ne_list hl hd
  obtain ⟨es, n, dd, sl, h⟩ := id hd
  obtain ⟨⟨c1, d1, t1, s1⟩, ho, hc, m, hdt⟩ := id hl
  simp only at hc hdt
  subst hc hdt
  exact EqAt.of_refs (fun e => ne e.symm) (x5_l (T := "list") hd ⟨_, ho, rfl⟩ (by decide) F.sub_list_dict F.slot_list_eq_refl (fun _ _ _ _ hq => call_meets F.slot_list_eq_refl ⟨_, ho, rfl⟩ F.entry_list_eq (F.args_list_eq_2 _ _) (x5_list l a its m d1 s1 es n dd sl) ⟨ho, h, hq⟩) (fun _ _ _ _ hq => wpAny_isSame_ref_other' (fun e => ne e.symm) h ho (by simp) hq) hu)
theorem x5_list_d {l : Addr} {its : Array Value} (hl : s.heap.IsList l its) (hd : IsD s.heap a) (hu : A.units < cLine) : EqAt A s (.ref l) (.ref a) false := by
  have ne := x5_ne_list hl hd
  obtain ⟨es, n, dd, sl, h⟩ := id hd
  obtain ⟨⟨c1, d1, t1, s1⟩, ho, hc, m, hdt⟩ := id hl
  simp only at hc hdt
  subst hc hdt
  exact EqAt.of_refs ne (x5_r (T := "list") hd ⟨_, ho, rfl⟩ (by decide) F.sub_list_dict F.sub_dict_list F.slot_list_eq (fun _ _ _ _ hq => call_meets F.slot_list_eq ⟨_, ho, rfl⟩ F.entry_list_eq (F.args_list_eq_2 _ _) (x5_list l a its m d1 s1 es n dd sl) ⟨ho, h, hq⟩) (fun _ _ _ _ hq => wpAny_isSame_ref_other' ne ho h (by simp) hq) hu)
theorem x5_ne_tuple {h0 : Heap} {l a : Addr} {its : Array Value} (hl : h0.IsTuple l its) (hd : IsD h0 a) : l ≠ a := fun e => by
  subst e
  obtain ⟨o, ho, hc, _⟩ := hl
  obtain ⟨es, n, dd, sl, h⟩ := hd
  rw [h] at ho
  cases ho
  exact absurd hc (by simp)
theorem x5_d_tuple {l : Addr} {its : Array Value} (hl : s.heap.IsTuple l its) (hd : IsD s.heap a) (hu : A.units < cLine) : EqAt A s (.ref a) (.ref l) false := by
  have ne := x5_ne_tuple hl hd
  obtain ⟨es, n, dd, sl, h⟩ := id hd
  obtain ⟨⟨c1, d1, t1, s1⟩, ho, hc, m, hdt⟩ := id hl
  simp only at hc hdt
  subst hc hdt
  exact EqAt.of_refs (fun e => ne e.symm) (x5_l (T := "tuple") hd ⟨_, ho, rfl⟩ (by decide) F.sub_tuple_dict F.slot_tuple_eq_refl (fun _ _ _ _ hq => call_meets F.slot_tuple_eq_refl ⟨_, ho, rfl⟩ F.entry_tuple_eq (F.args_tuple_eq_2 _ _) (x5_tuple l a its m d1 s1 es n dd sl) ⟨ho, h, hq⟩) (fun _ _ _ _ hq => wpAny_isSame_ref_other (fun e => ne e.symm) h ho (by simp) hq) hu)
theorem x5_tuple_d {l : Addr} {its : Array Value} (hl : s.heap.IsTuple l its) (hd : IsD s.heap a) (hu : A.units < cLine) : EqAt A s (.ref l) (.ref a) false := by
  have ne := x5_ne_tuple hl hd
  obtain ⟨es, n, dd, sl, h⟩ := id hd
  obtain ⟨⟨c1, d1, t1, s1⟩, ho, hc, m, hdt⟩ := id hl
  simp only at hc hdt
  subst hc hdt
  exact EqAt.of_refs ne (x5_r (T := "tuple") hd ⟨_, ho, rfl⟩ (by decide) F.sub_tuple_dict F.sub_dict_tuple F.slot_tuple_eq (fun _ _ _ _ hq => call_meets F.slot_tuple_eq ⟨_, ho, rfl⟩ F.entry_tuple_eq (F.args_tuple_eq_2 _ _) (x5_tuple l a its m d1 s1 es n dd sl) ⟨ho, h, hq⟩) (fun _ _ _ _ hq => wpAny_isSame_ref_other' ne ho h (by simp) hq) hu)
end
def IsD0 (h : Heap) (a : Addr) : Prop := (a == sysModules) = false ∧ ∃ (o : Obj) (ep : Nat), h.get? a = some o ∧ o.ExactDict ∧ o.data = .dict #[] ep
theorem IsD0.is {h : Heap} {a : Addr} (d : IsD0 h a) : IsD h a := by
  obtain ⟨_, ⟨c, dd, dt, sl⟩, ep, ho, ⟨h1, h2, h3⟩, h4⟩ := d
  simp only at h1 h2 h3 h4
  subst h1 h2 h3 h4
  exact ⟨_, _, _, _, ho⟩
theorem IsD0.of {h : Heap} {a : Addr} (d : IsD0 h a) {prog : Program} {w : World} : h.DictOf (intKind prog w) a [] := by
  obtain ⟨_, o, ep, ho, hx, hd⟩ := d
  refine ⟨o, #[], ep, ho, hx, hd, ?_, .nil, by simp⟩
  intro e he
  simp at he
theorem x5_d_d {A : Around} {s : Shared} {a b : Addr} (ha : IsD0 s.heap a) (hb : IsD0 s.heap b) (hu : A.units < cLine) : EqAt A s (.ref a) (.ref b) true := by
  by_cases e : a = b
  · subst e
    exact EqAt.same _
  · refine EqAt.of_refs e fun prog w E Q h => ?_
    exact PySem.W.rcP_dicts (knd := intKind prog w) (r := true) ha.1 hb.1 ha.of hb.of hu (fun _ => .nil) E Q (by simpa using h)
mutual
inductive RdE (h : Heap) : Value → PyData → Prop
  | non : RdE h .none .none
  | bl (b : Bool) : RdE h (.bool b) (.bool b)
  | int (i : Int) (t : Tok) : RdE h (.int i t) (.int i)
  | str (x : Str) (t : Tok) : RdE h (.str x t) (.str x)
  | lst {l : Addr} {its : Array Value} {ds : List PyData} : h.IsList l its → RdEs h its.toList ds → RdE h (.ref l) (.list ds)
  | tup {l : Addr} {its : Array Value} {ds : List PyData} : h.IsTuple l its → RdEs h its.toList ds → RdE h (.ref l) (.tuple ds)
  | dct {a : Addr} : IsD0 h a → RdE h (.ref a) (.dict [])
inductive RdEs (h : Heap) : List Value → List PyData → Prop
  | nil : RdEs h [] []
  | cons {v : Value} {vs : List Value} {d : PyData} {ds : List PyData} : RdE h v d → RdEs h vs ds → RdEs h (v :: vs) (d :: ds)
end
theorem RdEs.len {h : Heap} : ∀ {vs : List Value} {ds : List PyData}, RdEs h vs ds → vs.length = ds.length
  | _, _, .nil => rfl
  | _, _, .cons _ r => by rw [List.length_cons, List.length_cons, r.len]
theorem isL_uniq {h : Heap} {l : Addr} {a b : Array Value} (x : h.IsList l a) (y : h.IsList l b) : a = b := by
  obtain ⟨o, h1, _, n, h2⟩ := x
  obtain ⟨p, k1, _, m, k2⟩ := y
  rw [h1] at k1
  cases k1
  rw [h2] at k2
  injection k2
theorem isT_uniq {h : Heap} {l : Addr} {a b : Array Value} (x : h.IsTuple l a) (y : h.IsTuple l b) : a = b := by
  obtain ⟨o, h1, _, n, h2⟩ := x
  obtain ⟨p, k1, _, m, k2⟩ := y
  rw [h1] at k1
  cases k1
  rw [h2] at k2
  injection k2
theorem isL_notT {h : Heap} {l : Addr} {a b : Array Value} (x : h.IsList l a) (y : h.IsTuple l b) : False := by
  obtain ⟨o, h1, c, _⟩ := x
  obtain ⟨p, k1, d, _⟩ := y
  rw [h1] at k1
  cases k1
  rw [c] at d
  exact absurd d (by simp)
mutual
theorem RdE.uniq {h : Heap} : ∀ {v : Value} {d e : PyData}, RdE h v d → RdE h v e → d = e
  | _, _, _, .non, y => by cases y; rfl
  | _, _, _, .bl b, y => by cases y; rfl
  | _, _, _, .int i t, y => by cases y; rfl
  | _, _, _, .str x t, y => by cases y; rfl
  | _, _, _, .lst p1 p2, y => by
    cases y with
    | lst q1 q2 =>
      have e := isL_uniq p1 q1
      subst e
      rw [RdEs.uniq p2 q2]
    | tup q1 q2 => exact (isL_notT p1 q1).elim
    | dct q1 => exact (x5_ne_list p1 q1.is rfl).elim
  | _, _, _, .tup p1 p2, y => by
    cases y with
    | lst q1 q2 => exact (isL_notT q1 p1).elim
    | tup q1 q2 =>
      have e := isT_uniq p1 q1
      subst e
      rw [RdEs.uniq p2 q2]
    | dct q1 => exact (x5_ne_tuple p1 q1.is rfl).elim
  | _, _, _, .dct p1, y => by
    cases y with
    | lst q1 q2 => exact (x5_ne_list q1 p1.is rfl).elim
    | tup q1 q2 => exact (x5_ne_tuple q1 p1.is rfl).elim
    | dct q1 => rfl
theorem RdEs.uniq {h : Heap} : ∀ {vs : List Value} {d e : List PyData}, RdEs h vs d → RdEs h vs e → d = e
  | _, _, _, .nil, y => by cases y; rfl
  | _, _, _, .cons p1 p2, y => by
    cases y with
    | cons q1 q2 => rw [RdE.uniq p1 q1, RdEs.uniq p2 q2]
end
mutual
def eqvE : PyData → PyData → Bool
  | .dict [], .dict [] => true
  | .list xs, .list ys => eqvEs xs ys
  | .tuple xs, .tuple ys => eqvEs xs ys
  | x, y => PyData.eqv x y
def eqvEs : List PyData → List PyData → Bool
  | [], [] => true
  | x :: xs, y :: ys => eqvE x y && eqvEs xs ys
  | _, _ => false
end
mutual
theorem RdE.refl {h : Heap} : ∀ {v : Value} {d : PyData}, RdE h v d → eqvE d d = true
  | _, _, .non => by simp [eqvE, PyData.eqv]
  | _, _, .bl b => by simp [eqvE, PyData.eqv]
  | _, _, .int i t => by simp [eqvE, PyData.eqv]
  | _, _, .str x t => by simp [eqvE, PyData.eqv]
  | _, _, .lst _ p2 => by rw [eqvE]; exact RdEs.refl p2
  | _, _, .tup _ p2 => by rw [eqvE]; exact RdEs.refl p2
  | _, _, .dct _ => by simp [eqvE]
theorem RdEs.refl {h : Heap} : ∀ {vs : List Value} {ds : List PyData}, RdEs h vs ds → eqvEs ds ds = true
  | _, _, .nil => by simp [eqvEs]
  | _, _, .cons p1 p2 => by rw [eqvEs, RdE.refl p1, RdEs.refl p2]; rfl
end
def pairE (xs ys : List PyData) (j : Nat) : Bool := match xs[j]?, ys[j]? with
  | some x, some y => eqvE x y
  | _, _ => false
theorem pairE_all : ∀ (xs ys : List PyData), ((List.range (min xs.length ys.length)).all (pairE xs ys) && xs.length == ys.length) = eqvEs xs ys
  | [], [] => by simp [eqvEs]
  | [], _ :: _ => by simp [eqvEs]
  | _ :: _, [] => by simp [eqvEs]
  | x :: xs, y :: ys => by
    have ih := pairE_all xs ys
    have m : min (x :: xs).length (y :: ys).length = min xs.length ys.length + 1 := by simp only [List.length_cons]; omega
    rw [m, List.range_succ_eq_map, List.all_cons, List.all_map, eqvEs, ← ih]
    have e0 : pairE (x :: xs) (y :: ys) 0 = eqvE x y := rfl
    have e1 : (pairE (x :: xs) (y :: ys)) ∘ Nat.succ = pairE xs ys := rfl
    rw [e0, e1]
    simp [Bool.and_assoc]
theorem pairE_same {xs ys : List PyData} (h : xs.length = ys.length) : (List.range xs.length).all (pairE xs ys) = eqvEs xs ys := by
  have := pairE_all xs ys
  rw [← h, Nat.min_self] at this
  simpa using this
theorem pairE_other {xs ys : List PyData} (h : xs.length ≠ ys.length) : eqvEs xs ys = false := by
  rw [← pairE_all xs ys]
  simp [h]
mutual
theorem eqE_run : ∀ {d e : PyData} {A : Around} {s : Shared} {a b : Value}, RdE s.heap a d → RdE s.heap b e → A.units + min d.depth e.depth < cLine → EqAt A s a b (eqvE d e)
  | _, _, A, s, _, _, .non, r, z => by
    have z0 := room_here z
    cases r with
    | non => exact (EqAt.same _)
    | bl b2 => exact (EqAt.none_bool _)
    | int i2 t2 => exact (EqAt.none_int _ _)
    | str x2 t2 => exact (EqAt.none_str _ _)
    | lst q1 q2 => exact (EqAt.none_list q1 z0)
    | tup q1 q2 => exact (EqAt.none_tuple q1 z0)
    | dct q1 => exact (x5_none_d q1.is z0)
  | _, _, A, s, _, _, .bl b, r, z => by
    have z0 := room_here z
    cases r with
    | non => exact (EqAt.bool_none _)
    | bl b2 => exact (EqAt.bool_bool _ _)
    | int i2 t2 => exact (EqAt.bool_int _ _ _)
    | str x2 t2 => exact (EqAt.bool_str _ _ _)
    | lst q1 q2 => exact (EqAt.bool_list _ q1 z0)
    | tup q1 q2 => exact (EqAt.bool_tuple _ q1 z0)
    | dct q1 => exact (x5_bool_d _ q1.is z0)
  | _, _, A, s, _, _, .int i t, r, z => by
    have z0 := room_here z
    cases r with
    | non => exact (EqAt.int_none _ _)
    | bl b2 => exact (EqAt.int_bool _ _ _)
    | int i2 t2 => exact (EqAt.int_int _ _ _ _)
    | str x2 t2 => exact (EqAt.int_str _ _ _ _)
    | lst q1 q2 => exact (EqAt.int_list _ _ q1 z0)
    | tup q1 q2 => exact (EqAt.int_tuple _ _ q1 z0)
    | dct q1 => exact (x5_int_d _ _ q1.is z0)
  | _, _, A, s, _, _, .str x t, r, z => by
    have z0 := room_here z
    cases r with
    | non => exact (EqAt.str_none _ _)
    | bl b2 => exact (EqAt.str_bool _ _ _)
    | int i2 t2 => exact (EqAt.str_int _ _ _ _)
    | str x2 t2 => exact (EqAt.str_str _ _ _ _)
    | lst q1 q2 => exact (EqAt.str_list _ _ q1 z0)
    | tup q1 q2 => exact (EqAt.str_tuple _ _ q1 z0)
    | dct q1 => exact (x5_str_d _ _ q1.is z0)
  | _, _, A, s, _, _, .lst p1 p2, r, z => by
    have z0 := room_here z
    cases r with
    | non => exact (EqAt.list_none p1 z0)
    | bl b2 => exact (EqAt.list_bool _ p1 z0)
    | int i2 t2 => exact (EqAt.list_int _ _ p1 z0)
    | str x2 t2 => exact (EqAt.list_str _ _ p1 z0)
    | lst q1 q2 =>
      rename_i l1 its1 xs1 l2 its2 xs2
      show EqAt A s (.ref l1) (.ref l2) (eqvE (.list xs1) (.list xs2))
      by_cases el : l1 = l2
      · subst el
        have u := RdE.uniq (RdE.lst p1 p2) (RdE.lst q1 q2)
        rw [← u, (RdE.lst p1 p2).refl]
        exact EqAt.same _
      · have n1 : its1.size = xs1.length := by simpa using p2.len
        have n2 : its2.size = xs2.length := by simpa using q2.len
        rw [eqvE]
        by_cases hs : its1.size = its2.size
        · rw [← pairE_same (by omega : xs1.length = xs2.length), ← n1]
          refine EqAt.of_refs el (RcAt.lists p1 q1 hs z0 fun j j1 j2 => ?_)
          have w := eqEs_run (A := A.in1) p2 q2 (room_in z) j (by simpa using j1) (by simpa using j2)
          rw [Array.getElem_toList, Array.getElem_toList] at w
          exact w
        · rw [pairE_other (by omega : xs1.length ≠ xs2.length)]
          exact EqAt.of_refs el (RcAt.lists_lengths p1 q1 (by simpa using hs) z0)
    | tup q1 q2 => exact (EqAt.list_tuple p1 q1 z0)
    | dct q1 => exact (x5_list_d p1 q1.is z0)
  | _, _, A, s, _, _, .tup p1 p2, r, z => by
    have z0 := room_here z
    cases r with
    | non => exact (EqAt.tuple_none p1 z0)
    | bl b2 => exact (EqAt.tuple_bool _ p1 z0)
    | int i2 t2 => exact (EqAt.tuple_int _ _ p1 z0)
    | str x2 t2 => exact (EqAt.tuple_str _ _ p1 z0)
    | lst q1 q2 => exact (EqAt.tuple_list p1 q1 z0)
    | tup q1 q2 =>
      rename_i l1 its1 xs1 l2 its2 xs2
      show EqAt A s (.ref l1) (.ref l2) (eqvE (.tuple xs1) (.tuple xs2))
      by_cases el : l1 = l2
      · subst el
        have u := RdE.uniq (RdE.tup p1 p2) (RdE.tup q1 q2)
        rw [← u, (RdE.tup p1 p2).refl]
        exact EqAt.same _
      · have n1 : its1.size = xs1.length := by simpa using p2.len
        have n2 : its2.size = xs2.length := by simpa using q2.len
        rw [eqvE, ← pairE_all xs1 xs2, ← n1, ← n2]
        refine EqAt.of_refs el (RcAt.tuples p1 q1 z0 fun j j1 j2 => ?_)
        have w := eqEs_run (A := A.in1) p2 q2 (room_in z) j (by simpa using j1) (by simpa using j2)
        rw [Array.getElem_toList, Array.getElem_toList] at w
        exact w
    | dct q1 => exact (x5_tuple_d p1 q1.is z0)
  | _, _, A, s, _, _, .dct p1, r, z => by
    have z0 := room_here z
    cases r with
    | non => exact (x5_d_none p1.is z0)
    | bl b2 => exact (x5_d_bool _ p1.is z0)
    | int i2 t2 => exact (x5_d_int _ _ p1.is z0)
    | str x2 t2 => exact (x5_d_str _ _ p1.is z0)
    | lst q1 q2 => exact (x5_d_list q1 p1.is z0)
    | tup q1 q2 => exact (x5_d_tuple q1 p1.is z0)
    | dct q1 => exact (x5_d_d p1 q1 z0)
theorem eqEs_run : ∀ {xs ys : List PyData} {A : Around} {s : Shared} {vs ws : List Value}, RdEs s.heap vs xs → RdEs s.heap ws ys → A.units + min (PyData.depthAll xs) (PyData.depthAll ys) < cLine → ∀ j (h1 : j < vs.length) (h2 : j < ws.length), EqAt A s vs[j] ws[j] (pairE xs ys j)
  | _, _, A, s, _, _, .nil, _, _, j, h1, _ => absurd h1 (Nat.not_lt_zero _)
  | _, _, A, s, _, _, .cons p1 p2, r, z, j, h1, h2 => by
    cases r with
    | nil => exact absurd h2 (Nat.not_lt_zero _)
    | cons q1 q2 =>
      cases j with
      | zero => exact eqE_run p1 q1 (room_head z)
      | succ j => exact eqEs_run p2 q2 (room_tail z) j (Nat.lt_of_succ_lt_succ h1) (Nat.lt_of_succ_lt_succ h2)
end
end PySem.SeqAt
namespace PySem.SeqAt
open MeetsSeq
def topE : PyData → PyData → Bool
  | .list _, .list _ => true
  | .tuple _, .tuple _ => true
  | .dict _, .dict _ => true
  | _, _ => false
section
variable {A : Around} {s : Shared} {a b : Value} {d e : PyData}
theorem itsE {its its2 : Array Value} {xs ys : List PyData} (p : RdEs s.heap its.toList xs) (q : RdEs s.heap its2.toList ys) (z : A.units + 1 + min (PyData.depthAll xs) (PyData.depthAll ys) < cLine) : ∀ j (h1 : j < its.size) (h2 : j < its2.size), EqAt A.in1 s its[j] its2[j] (pairE xs ys j) := fun j j1 j2 => by
  have w := eqEs_run (A := A.in1) p q z j (by simpa using j1) (by simpa using j2)
  rw [Array.getElem_toList, Array.getElem_toList] at w
  exact w
theorem rcE_top (p : RdE s.heap a d) (q : RdE s.heap b e) (t : topE d e = true) (z : A.units + min d.depth e.depth < cLine) : RcAt A s a b (eqvE d e) := by
  have z0 := room_here z
  cases p with
  | lst p1 p2 =>
    cases q with
    | lst q1 q2 =>
      rename_i l1 its1 xs1 l2 its2 xs2
      have n1 : its1.size = xs1.length := by simpa using p2.len
      have n2 : its2.size = xs2.length := by simpa using q2.len
      rw [eqvE]
      by_cases hs : its1.size = its2.size
      · rw [← pairE_same (by omega : xs1.length = xs2.length), ← n1]
        exact RcAt.lists p1 q1 hs z0 (itsE p2 q2 (room_in z))
      · rw [pairE_other (by omega : xs1.length ≠ xs2.length)]
        exact RcAt.lists_lengths p1 q1 (by simpa using hs) z0
    | _ => simp [topE] at t
  | tup p1 p2 =>
    cases q with
    | tup q1 q2 =>
      rename_i l1 its1 xs1 l2 its2 xs2
      have n1 : its1.size = xs1.length := by simpa using p2.len
      have n2 : its2.size = xs2.length := by simpa using q2.len
      rw [eqvE, ← pairE_all xs1 xs2, ← n1, ← n2]
      exact RcAt.tuples p1 q1 z0 (itsE p2 q2 (room_in z))
    | _ => simp [topE] at t
  | dct p1 =>
    cases q with
    | dct q1 =>
      have : eqvE (.dict []) (.dict []) = true := by simp [eqvE]
      rw [this]
      exact fun prog w E Q h => PySem.W.rcP_dicts (knd := intKind prog w) (r := true) p1.1 q1.1 p1.of q1.of z0 (fun _ => .nil) E Q (by simpa using h)
    | _ => simp [topE] at t
  | non => cases q <;> simp [topE] at t
  | bl => cases q <;> simp [topE] at t
  | int => cases q <;> simp [topE] at t
  | str => cases q <;> simp [topE] at t
theorem rcNeE_top (p : RdE s.heap a d) (q : RdE s.heap b e) (t : topE d e = true) (z : A.units + min d.depth e.depth < cLine) : RcNeAt A s a b (!eqvE d e) := by
  have z0 := room_here z
  cases p with
  | lst p1 p2 =>
    cases q with
    | lst q1 q2 =>
      rename_i l1 its1 xs1 l2 its2 xs2
      have n1 : its1.size = xs1.length := by simpa using p2.len
      have n2 : its2.size = xs2.length := by simpa using q2.len
      rw [eqvE]
      by_cases hs : its1.size = its2.size
      · rw [← pairE_same (by omega : xs1.length = xs2.length), ← n1]
        exact RcNeAt.lists p1 q1 hs z0 (itsE p2 q2 (room_in z))
      · rw [pairE_other (by omega : xs1.length ≠ xs2.length)]
        exact RcNeAt.lists_lengths p1 q1 (by simpa using hs) z0
    | _ => simp [topE] at t
  | tup p1 p2 =>
    cases q with
    | tup q1 q2 =>
      rename_i l1 its1 xs1 l2 its2 xs2
      have n1 : its1.size = xs1.length := by simpa using p2.len
      have n2 : its2.size = xs2.length := by simpa using q2.len
      rw [eqvE, ← pairE_all xs1 xs2, ← n1, ← n2]
      exact RcNeAt.tuples p1 q1 z0 (itsE p2 q2 (room_in z))
    | _ => simp [topE] at t
  | dct p1 =>
    cases q with
    | dct q1 =>
      have : eqvE (.dict []) (.dict []) = true := by simp [eqvE]
      rw [this]
      exact fun prog w E Q h => PySem.W.keq_ne (knd := intKind prog w) (r := true) p1.1 q1.1 p1.of q1.of z0 (fun _ => .nil) (by simpa using h)
    | _ => simp [topE] at t
  | non => cases q <;> simp [topE] at t
  | bl => cases q <;> simp [topE] at t
  | int => cases q <;> simp [topE] at t
  | str => cases q <;> simp [topE] at t
end
open Classical in
noncomputable def isE (h : Heap) (d : PyData) (y : Value) : Bool := decide (∃ dy, RdE h y dy ∧ eqvE dy d = true)
open Classical in
theorem isE_eq {h : Heap} {d dy : PyData} {y : Value} (r : RdE h y dy) : isE h d y = eqvE dy d := by
  unfold isE
  cases e : eqvE dy d with
  | true => exact decide_eq_true ⟨dy, r, e⟩
  | false => exact decide_eq_false fun ⟨dz, r2, e2⟩ => by rw [← RdE.uniq r r2, e] at e2; cases e2
theorem isE_any {h : Heap} {d : PyData} : ∀ {vs : List Value} {xs : List PyData}, RdEs h vs xs → vs.any (isE h d) = xs.any fun y => eqvE y d
  | _, _, .nil => rfl
  | _, _, .cons p1 p2 => by rw [List.any_cons, List.any_cons, isE_eq p1, isE_any p2]
theorem isE_at {A : Around} {s : Shared} {x : Value} {d : PyData} (rx : RdE s.heap x d) : ∀ {vs : List Value} {xs : List PyData}, RdEs s.heap vs xs → A.units + min (PyData.depthAll xs) d.depth < cLine → ∀ y ∈ vs, EqAt A s y x (isE s.heap d y)
  | _, _, .nil, _, y, hy => by cases hy
  | _, _, .cons (d := d0) p1 p2, z, y, hy => by
    have z : A.units + min (max d0.depth (PyData.depthAll _)) d.depth < cLine := z
    rcases List.mem_cons.mp hy with e | e
    · subst e
      rw [isE_eq p1]
      exact eqE_run p1 rx (by omega)
    · exact isE_at rx p2 (by omega) y e
end PySem.SeqAt
namespace L2
open PySem PySem.Spec PyProof.Rows SeqAt
mutual
inductive Dq (K : PySem.W.Frag) (H : Hp) : V → PyData → Prop
  | non : Dq K H .non .none
  | bl (b : Bool) : Dq K H (.bl b) (.bool b)
  | int (i : Int) : Dq K H (.int i) (.int i)
  | str (x : Str) : Dq K H (.str x) (.str x)
  | lst {a : Addr} {xs : List V} {ds : List PyData} : SqL K H a xs → Dqs K H xs ds → Dq K H (.ref a) (.list ds)
  | tup {a : Addr} {xs : List V} {ds : List PyData} : SqT K H a xs → Dqs K H xs ds → Dq K H (.ref a) (.tuple ds)
  | edc {a : Addr} : H a = some (.dK []) → Dq K H (.ref a) (.dict [])
inductive Dqs (K : PySem.W.Frag) (H : Hp) : List V → List PyData → Prop
  | nil : Dqs K H [] []
  | cons {v : V} {vs : List V} {d : PyData} {ds : List PyData} : Dq K H v d → Dqs K H vs ds → Dqs K H (v :: vs) (d :: ds)
end
section
variable {X : Cx} {pins : List (Addr × Obj)} {σ : St} {H : Hp} {s : Shared}
theorem d0_at (I : Inv X pins σ H s) {a : Addr} (h : H a = some (.dK [])) : IsD0 s.heap a := by
  obtain ⟨_, hs, vs, kv, o, es, ep, ho, hx, hd, _, pr, _⟩ := (show ObjOk X.prog X.w H s.heap a (.dK []) from I.hok a _ h)
  have e : vs = [] := by
    have := kv.length
    exact List.length_eq_zero_iff.mp (by simpa using this.symm)
  subst e
  have e2 : es.toList = [] := List.length_eq_zero_iff.mp (by simpa using pr.length)
  have e3 : es = #[] := Array.toList_eq_nil_iff.mp e2
  subst e3
  exact ⟨hs, o, ep, ho, hx, hd⟩
mutual
theorem Dq.rde (I : Inv X pins σ H s) : ∀ {d : PyData} {v : V} {u : Value}, Dq X.K H v d → RelV v u → RdE s.heap u d
  | _, _, _, .non, r => by cases r; exact .non
  | _, _, _, .bl b, r => by cases r; exact .bl b
  | _, _, _, .int i, r => by
    obtain ⟨t, rfl⟩ := r
    exact .int i t
  | _, _, _, .str x, r => by
    obtain ⟨t, rfl⟩ := r
    exact .str x t
  | _, _, _, .lst hs ha, r => by
    cases r
    obtain ⟨its, rv, p, _⟩ := I.list hs
    exact .lst p.isList (by simpa using Dqs.rde I ha rv)
  | _, _, _, .tup hs ha, r => by
    cases r
    obtain ⟨its, rv, p, _⟩ := I.tuple hs
    exact .tup (show s.heap.IsTuple _ its.toArray from p) (by simpa using Dqs.rde I ha rv)
  | _, _, _, .edc h, r => by
    cases r
    exact .dct (d0_at I h)
theorem Dqs.rde (I : Inv X pins σ H s) : ∀ {ds : List PyData} {vs : List V} {us : List Value}, Dqs X.K H vs ds → Vals vs us → RdEs s.heap us ds
  | _, _, _, .nil, r => by cases r; exact .nil
  | _, _, _, .cons h1 h2, r => by
    cases r with
    | cons r1 r2 => exact .cons (Dq.rde I h1 r1) (Dqs.rde I h2 r2)
end
end
section
variable {X : Cx}
def rEqE (K : PySem.W.Frag) : R2 := fun x y H Q => ∃ d e, Dq K H x d ∧ Dq K H y e ∧ topE d e = true ∧ d.depth ≤ 64 ∧ Q (.bl (eqvE d e)) H
def rNeE (K : PySem.W.Frag) : R2 := fun x y H Q => ∃ d e, Dq K H x d ∧ Dq K H y e ∧ topE d e = true ∧ d.depth ≤ 64 ∧ Q (.bl (!eqvE d e)) H
def rNotInE (K : PySem.W.Frag) : R2 := fun x y H Q => ∃ d ds, Dq K H x d ∧ Dq K H y (.list ds) ∧ d.depth ≤ 60 ∧ Q (.bl (!ds.any fun y => eqvE y d)) H
theorem op_eqE (hu : X.A.units + 64 < cLine) : OpR X (compareOp .Eq) (rEqE X.K) := by
  intro pins s σ H x y v u Q I rx ry h
  obtain ⟨d, e, hd, he, t, z, q⟩ := h
  exact rcE_top (hd.rde I rx) (he.rde I ry) t (by omega) X.prog X.w _ _ ⟨.bl _, H, I, rfl, q⟩
theorem op_neE (hu : X.A.units + 64 < cLine) : OpR X (compareOp .NotEq) (rNeE X.K) := by
  intro pins s σ H x y v u Q I rx ry h
  obtain ⟨d, e, hd, he, t, z, q⟩ := h
  exact rcNeE_top (hd.rde I rx) (he.rde I ry) t (by omega) X.prog X.w _ _ ⟨.bl _, H, I, rfl, q⟩
theorem op_notInE (hu : X.A.units + 64 < cLine) : OpR X (compareOp .NotIn) (rNotInE X.K) := by
  intro pins s σ H x y v u Q I rx ry h
  obtain ⟨d, ds, hd, he, z, q⟩ := h
  have p := hd.rde I rx
  have w := he.rde I ry
  cases w with
  | @lst l its _ q1 q2 =>
    refine notIn_listAt (isE s.heap d) q1 (fun y hy => isE_at p q2 (by show X.A.units + 1 + _ < _; omega) y (by simpa using hy)) ?_
    have e : its.any (isE s.heap d) = ds.any fun y => eqvE y d := by rw [← Array.any_toList]; exact isE_any q2
    rw [e]
    exact ⟨.bl _, H, I, rfl, q⟩
end
end L2
namespace L3
open PySem PySem.Spec PyProof.Rows L2
mutual
def T.fz : T → Option PyData
  | .d x => some x
  | .ol ts => (T.fzAll ts).map PyData.list
  | .ot ts => (T.fzAll ts).map PyData.tuple
  | .od [] [] => some (.dict [])
  | _ => none
def T.fzAll : List T → Option (List PyData)
  | [] => some []
  | t :: r => (T.fz t).bind fun x => (T.fzAll r).map fun xs => x :: xs
end
mutual
def T.toD : T → Option PyData
  | .d x => some x
  | .ol ts => (T.toDAll ts).map PyData.list
  | .ot ts => (T.toDAll ts).map PyData.tuple
  | .rd ds => some (.list ds)
  | .od _ _ => none
  | .fd _ _ _ => none
  | .fk _ _ _ => none
  | .dt _ _ _ => none
  | .no _ => none
  | .hl => none
  | .ex _ => none
  | .ob _ _ _ => none
def T.toDAll : List T → Option (List PyData)
  | [] => some []
  | t :: r => (T.toD t).bind fun x => (T.toDAll r).map fun xs => x :: xs
end
section
variable {K : PySem.W.Frag} {F F' : Addr → Prop} {H H' : Hp}
mutual
theorem Rp.freeze : ∀ {t : T} {v : V} {A : List Addr} {x : PyData}, Rp K F H v t A → (∀ a, H a ≠ none → F a → F' a) → (∀ a ∈ A, F' a) → t.fz = some x → Fz K F' H v x
  | .d y, _, _, x, .d h, f, _, e => by
    have e' : y = x := Option.some.inj (by simpa [T.fz] using e)
    subst e'
    exact h.mono (.sub f)
  | .ol ts, _, _, x, .ol h r, f, k, e => by
    simp only [T.fz, Option.map_eq_some_iff] at e
    obtain ⟨xs, e1, e2⟩ := e
    subst e2
    exact .lst h (k _ List.mem_cons_self) (RpAll.freeze r f (fun a ha => k a (List.mem_cons_of_mem _ ha)) e1)
  | .ot ts, _, _, x, .ot h r, f, k, e => by
    simp only [T.fz, Option.map_eq_some_iff] at e
    obtain ⟨xs, e1, e2⟩ := e
    subst e2
    exact .tup (.of h) (RpAll.freeze r f k e1)
  | .od ks ts, _, _, x, .od (kvs := kvs) h hk _ r, _, k, e => by
    cases ks with
    | cons y ks => simp [T.fz] at e
    | nil =>
      have hv : kvs = [] := List.map_eq_nil_iff.mp hk
      subst hv
      cases r
      have e' : PyData.dict [] = x := Option.some.inj (by simpa [T.fz] using e)
      subst e'
      exact .edc h (k _ List.mem_cons_self)
  | .fd _ _ _, _, _, x, _, _, _, e => by simp [T.fz] at e
  | .fk _ _ _, _, _, x, _, _, _, e => by simp [T.fz] at e
  | .dt _ _ _, _, _, x, _, _, _, e => by simp [T.fz] at e
  | .no _, _, _, x, _, _, _, e => by simp [T.fz] at e
  | .hl, _, _, x, _, _, _, e => by simp [T.fz] at e
  | .ob _ _ _, _, _, x, _, _, _, e => by simp [T.fz] at e
  | .rd _, _, _, x, _, _, _, e => by simp [T.fz] at e
theorem RpAll.freeze : ∀ {ts : List T} {vs : List V} {A : List Addr} {xs : List PyData}, RpAll K F H vs ts A → (∀ a, H a ≠ none → F a → F' a) → (∀ a ∈ A, F' a) → T.fzAll ts = some xs → FzAll K F' H vs xs
  | [], _, _, xs, .nil, _, _, e => by
    have e' : [] = xs := Option.some.inj (by simpa [T.fzAll] using e)
    subst e'
    exact .nil
  | t :: r, _, _, xs, .cons h hr, f, k, e => by
    simp only [T.fzAll, Option.bind_eq_some_iff, Option.map_eq_some_iff] at e
    obtain ⟨y, e1, ys, e2, e3⟩ := e
    subst e3
    exact .cons (Rp.freeze h f (fun a ha => k a (List.mem_append_left _ ha)) e1) (RpAll.freeze hr f (fun a ha => k a (List.mem_append_right _ ha)) e2)
end
mutual
theorem Fz.dq : ∀ {v : V} {x : PyData}, Fz K F H v x → Dq K H v x
  | _, _, .non => .non
  | _, _, .bl b => .bl b
  | _, _, .int i => .int i
  | _, _, .str x => .str x
  | _, _, .lst h _ a => .lst (.of h) (FzAll.dq a)
  | _, _, .tup h a => .tup h (FzAll.dq a)
  | _, _, .edc h _ => .edc h
theorem FzAll.dq : ∀ {vs : List V} {xs : List PyData}, FzAll K F H vs xs → Dqs K H vs xs
  | _, _, .nil => .nil
  | _, _, .cons h a => .cons (Fz.dq h) (FzAll.dq a)
end
mutual
theorem dqDpl : ∀ {v : V} {x : PyData}, Dq K H v x → x.plain = true → Dp K H v x
  | _, _, .non, _ => .non
  | _, _, .bl b, _ => .bl b
  | _, _, .int i, _ => .int i
  | _, _, .str x, _ => .str x
  | _, _, .lst h a, c => .lst h (dqsDpl a (by simpa [PyData.plain] using c))
  | _, _, .tup h a, c => .tup h (dqsDpl a (by simpa [PyData.plain] using c))
  | _, _, .edc _, c => by simp [PyData.plain] at c
theorem dqsDpl : ∀ {vs : List V} {xs : List PyData}, Dqs K H vs xs → PyData.plainAll xs = true → DpAll K H vs xs
  | _, _, .nil, _ => .nil
  | _, _, .cons h a, c => by
    rw [PyData.plainAll, Bool.and_eq_true] at c
    exact .cons (dqDpl h c.1) (dqsDpl a c.2)
end
theorem _root_.L2.Dq.dp {v : V} {x : PyData} (h : Dq K H v x) (c : SeqAt.shaped x = true) : Dp K H v x := dqDpl h (PyData.plain_of_canLay0 _ (SeqAt.canLay_of_shaped c))
theorem Fz.dp {v : V} {x : PyData} (h : Fz K F H v x) (c : SeqAt.shaped x = true) : Dp K H v x := h.dq.dp c
mutual
theorem Rp.dq : ∀ {t : T} {v : V} {A : List Addr} {x : PyData}, Rp K F H v t A → t.toD = some x → Dq K H v x
  | .d y, _, _, x, .d h, e => by
    have e' : y = x := Option.some.inj (by simpa [T.toD] using e)
    subst e'
    exact h.dq
  | .ol ts, _, _, x, .ol h r, e => by
    simp only [T.toD, Option.map_eq_some_iff] at e
    obtain ⟨xs, e1, e2⟩ := e
    subst e2
    exact .lst (.of h) (RpAll.dq r e1)
  | .ot ts, _, _, x, .ot h r, e => by
    simp only [T.toD, Option.map_eq_some_iff] at e
    obtain ⟨xs, e1, e2⟩ := e
    subst e2
    exact .tup (.of h) (RpAll.dq r e1)
  | .rd ds, _, _, x, .rd h r, e => by
    have e' : PyData.list ds = x := Option.some.inj (by simpa [T.toD] using e)
    subst e'
    exact .lst h.sq r.dq
  | .od _ _, _, _, x, _, e => by simp [T.toD] at e
  | .fd _ _ _, _, _, x, _, e => by simp [T.toD] at e
  | .fk _ _ _, _, _, x, _, e => by simp [T.toD] at e
  | .dt _ _ _, _, _, x, _, e => by simp [T.toD] at e
  | .no _, _, _, x, _, e => by simp [T.toD] at e
  | .hl, _, _, x, _, e => by simp [T.toD] at e
  | .ob _ _ _, _, _, x, _, e => by simp [T.toD] at e
  | .ex _, _, _, x, _, e => by simp [T.toD] at e
theorem RpAll.dq : ∀ {ts : List T} {vs : List V} {A : List Addr} {xs : List PyData}, RpAll K F H vs ts A → T.toDAll ts = some xs → Dqs K H vs xs
  | [], _, _, xs, .nil, e => by
    have e' : [] = xs := Option.some.inj (by simpa [T.toDAll] using e)
    subst e'
    exact .nil
  | t :: r, _, _, xs, .cons h hr, e => by
    simp only [T.toDAll, Option.bind_eq_some_iff, Option.map_eq_some_iff] at e
    obtain ⟨y, e1, ys, e2, e3⟩ := e
    subst e3
    exact .cons (Rp.dq h e1) (RpAll.dq hr e2)
end
end
section
variable {X : Cx} {E : Str → Hp → Prop}
theorem app_at {α : Type} {xs ys : List α} {n i : Nat} (h : xs.length = n) : (xs ++ ys)[n + i]? = ys[i]? := by
  subst h
  rw [List.getElem?_append_right (by omega)]
  congr 1
  omega
theorem app_set {α : Type} {ys : List α} {i : Nat} {y : α} : ∀ {xs : List α} {n : Nat}, xs.length = n → (xs ++ ys).set (n + i) y = xs ++ ys.set i y
  | [], n, h => by subst h; simp
  | x :: xs, n, h => by
    subst h
    have e : (x :: xs).length + i = (xs.length + i) + 1 := by simp; omega
    rw [e]
    show x :: (xs ++ ys).set (xs.length + i) y = _
    rw [app_set rfl]
    rfl
theorem set_self {α : Type} : ∀ {xs : List α} {i : Nat} {a : α}, xs[i]? = some a → xs.set i a = xs
  | [], _, _, h => by simp at h
  | x :: xs, 0, a, h => by simp at h; subst h; rfl
  | x :: xs, i + 1, a, h => by
    show x :: xs.set i a = x :: xs
    rw [set_self (by simpa using h)]
def mC (x : PyData) : MEx := fun ρ => .ok (.d x, ρ)
def mVar (i : Nat) : MEx := fun ρ => match ρ[i]? with
  | some (some (.d x)) => .ok (.d x, ρ)
  | some (some t) => (match t.fz with | some x => .ok (.d x, ρ.set i (some (.d x))) | none => .bad)
  | _ => .bad
def mMove (i : Nat) : MEx := fun ρ => match ρ[i]? with
  | some (some t) => .ok (t, ρ.set i none)
  | _ => .bad
theorem sim_var {K : PySem.W.Frag} (i : Nat) : SimE K E true (tVar i) (mVar i) := by
  intro c H tv td σ ρ hl st Q q
  obtain ⟨A, w⟩ := st
  have hlen := w.slots.len
  unfold mVar at q
  cases e : ρ[i]? with
  | none => rw [e] at q; exact q.elim
  | some o =>
    cases o with
    | none => rw [e] at q; exact q.elim
    | some t =>
      have hi : i < ρ.length := (List.getElem?_eq_some_iff.mp e).1
      have hi2 : tv.length + i < (tv ++ σ).length := by
        rw [hlen, List.length_append]; omega
      have e2 : (td ++ ρ)[tv.length + i]? = some (some t) := by rw [app_at hl.symm, e]
      obtain ⟨B, hb, ar, get⟩ := w.slots.around hi2
      obtain ⟨v, A1, e3, x, hc⟩ := get t e2
      rw [app_at rfl] at e3
      rw [e] at q
      have key : ∀ y : PyData, t.fz = some y → (∀ v H', (true = true → Same H H') → StR K c H' (some v :: (tv ++ σ)) (some (.d y) :: (td ++ ρ.set i (some (.d y)))) → Q v H') → tVar i σ H Q := by
        intro y ey qq
        refine ⟨v, e3, qq v H (fun _ => Same.refl H) ?_⟩
        have hBA : ∀ a, B.count a ≤ A.count a := hb
        have fsub : ∀ a, H a ≠ none → Fok c A a → Fok c B a := fun a _ => Fok.sub hBA a
        have own1 : ∀ a ∈ A1, Fok c B a := fun a ha => by
          have h1 := List.count_pos_iff.mpr ha
          have h2 := hc a
          have h3 := w.uniq a
          refine ⟨?_, fun z => ?_⟩
          · rcases w.own a (List.count_pos_iff.mp (by omega)) with z | z
            · exact .inr (.inr z)
            · exact .inr (.inl z)
          · have := List.count_pos_iff.mpr z
            omega
        have fx : Fz K (Fok c B) H v y := x.freeze fsub own1 ey
        obtain ⟨C, s, z⟩ := ar.put (Mono.sub fsub) (fun _ _ => rfl) (.d fx)
        have hsl : (tv ++ σ).set (tv.length + i) (some v) = tv ++ σ := by
          rw [app_set rfl, set_self e3]
        rw [hsl, app_set hl.symm] at s
        have zc : ∀ a, C.count a = B.count a := fun a => by rw [z a]; simp
        refine ⟨C, ⟨fun a => ?_, ?_, fun a ha => ?_, w.keep⟩⟩
        · rw [zc a]; exact Nat.le_trans (hBA a) (w.uniq a)
        · have m : Mono (Fok c B) (Fok c C) H H := .sub fun a _ => Fok.sub (fun a => Nat.le_of_eq (zc a)) a
          exact .cons (A := []) (.d (fx.mono m)) (s.mono m fun _ _ => rfl)
        · refine w.own a (List.count_pos_iff.mp ?_)
          have := List.count_pos_iff.mpr ha
          have := zc a
          have := hBA a
          omega
      cases t with
      | d y =>
        refine key y (by simp [T.fz]) fun v' H' sm' st' => ?_
        have e4 : ρ.set i (some (.d y)) = ρ := set_self e
        rw [e4] at st'
        exact q v' H' sm' st'
      | ol ts =>
        dsimp only at q
        cases ez : (T.ol ts).fz with
        | none => rw [ez] at q; exact q.elim
        | some y => rw [ez] at q; exact key y ez q
      | ot ts =>
        dsimp only at q
        cases ez : (T.ot ts).fz with
        | none => rw [ez] at q; exact q.elim
        | some y => rw [ez] at q; exact key y ez q
      | od ks ts =>
        dsimp only at q
        cases ez : (T.od ks ts).fz with
        | none => rw [ez] at q; exact q.elim
        | some y => rw [ez] at q; exact key y ez q
      | fd a0 ks ts =>
        dsimp only at q
        cases ez : (T.fd a0 ks ts).fz with
        | none => rw [ez] at q; exact q.elim
        | some y => rw [ez] at q; exact key y ez q
      | fk a0 o0 ks =>
        dsimp only at q
        cases ez : (T.fk a0 o0 ks).fz with
        | none => rw [ez] at q; exact q.elim
        | some y => rw [ez] at q; exact key y ez q
      | dt en0 ks0 ds0 =>
        dsimp only at q
        cases ez : (T.dt en0 ks0 ds0).fz with
        | none => rw [ez] at q; exact q.elim
        | some y => rw [ez] at q; exact key y ez q
      | no v0 =>
        dsimp only at q
        cases ez : (T.no v0).fz with
        | none => rw [ez] at q; exact q.elim
        | some y => rw [ez] at q; exact key y ez q
      | hl =>
        dsimp only at q
        cases ez : (T.hl).fz with
        | none => rw [ez] at q; exact q.elim
        | some y => rw [ez] at q; exact key y ez q
      | rd ds =>
        dsimp only at q
        cases ez : (T.rd ds).fz with
        | none => rw [ez] at q; exact q.elim
        | some y => rw [ez] at q; exact key y ez q
      | ex xn =>
        dsimp only at q
        cases ez : (T.ex xn).fz with
        | none => rw [ez] at q; exact q.elim
        | some y => rw [ez] at q; exact key y ez q
      | ob xn fs ts =>
        dsimp only at q
        cases ez : (T.ob xn fs ts).fz with
        | none => rw [ez] at q; exact q.elim
        | some y => rw [ez] at q; exact key y ez q
theorem qe_var (i : Nat) {x : Str} {pos : Pos} (hN : X.N[i]? = some x := by rfl) (hv : Vis X.env.scope x := by first | exact Or.inl rfl | exact Or.inr (Or.inl rfl) | exact Or.inr (Or.inr rfl)) (hd : (x == ("__debug__" : Str)) = false := by decide)
    (hcd : (x == ("__classdict__" : Str)) = false := by decide) : QE X E true (.Name x pos) (tVar i) (mVar i) := ⟨pe_var hN hv hd hcd, sim_var i⟩
end
inductive RV where
  | v (t : T) | nl (ds : List PyData) | nt (ds : List PyData)
def RV.toT : RV → T
  | .v t => t
  | .nl ds => .ol (ds.map T.d)
  | .nt ds => .d (.tuple ds)
section
variable {K : PySem.W.Frag} {F F' : Addr → Prop} {H H' : Hp}
def RVto (K : PySem.W.Frag) (F : Addr → Prop) (H : Hp) (A : List Addr) (Q : VK) : RV → Prop
  | .v t => ∀ w C, Rp K F H w t C → (∀ a, C.count a ≤ A.count a) → Q w H
  | .nl ds => ∀ p ws, H p = none → FzAll K F H ws ds → Q (.ref p) (upd H p (.lst ws))
  | .nt ds => ∀ p ws, H p = none → FzAll K F H ws ds → Q (.ref p) (upd H p (.tup ws))
def OpV (K : PySem.W.Frag) (r : R2) (op : T → T → R RV) : Prop := ∀ (F : Addr → Prop) (H : Hp) (v u : V) (x y : T) (A B : List Addr), Rp K F H v x A → Rp K F H u y B → ∀ Q : VK, Then (op x y) (RVto K F H (A ++ B) Q) (fun _ => False) → r v u H Q
def UnV (K : PySem.W.Frag) (r : V → Hp → VK → Prop) (op : T → R RV) : Prop := ∀ (F : Addr → Prop) (H : Hp) (v : V) (x : T) (A : List Addr), Rp K F H v x A → ∀ Q : VK, Then (op x) (RVto K F H A Q) (fun _ => False) → r v H Q
theorem RpAll.ofFz : ∀ {ws : List V} {ds : List PyData}, FzAll K F H ws ds → RpAll K F H ws (ds.map T.d) []
  | _, _, .nil => .nil
  | _, _, .cons h a => .cons (A := []) (B := []) (.d h) (RpAll.ofFz a)
theorem StW.result {c : C0} {sl : List (Option V)} {ρ : Env} {A A1 B : List Addr} (hc : ∀ a, A1.count a + B.count a ≤ A.count a) (u : ∀ a, A.count a ≤ 1) (ow : ∀ a ∈ A, a ∈ c.A0 ∨ c.H0 a = none) (k : KeepC c H)
    (s : Sl K (Fok c A) H sl ρ B) {Q : VK} {z : RV} (q : ∀ v H', Same H H' → StR K c H' (some v :: sl) (some z.toT :: ρ) → Q v H') : RVto K (Fok c A) H A1 Q z := by
  have mem : ∀ {C : List Addr}, (∀ a, C.count a ≤ A.count a) → ∀ a ∈ C, a ∈ A := fun h a ha => List.count_pos_iff.mp (Nat.lt_of_lt_of_le (List.count_pos_iff.mpr ha) (h a))
  have there : ∀ a ∈ B, H a ≠ none := fun a ha e => by
    obtain ⟨u, z, _⟩ := s.own a ha
    rw [e] at z; cases z
  cases z with
  | v t =>
    intro w C x hC
    have hCB : ∀ a, (C ++ B).count a ≤ A.count a := fun a => by rw [List.count_append]; have := hC a; have := hc a; omega
    exact q w H (Same.refl H) ⟨C ++ B, fun a => Nat.le_trans (hCB a) (u a), (Sl.cons x s).mono (.sub fun a _ => Fok.sub hCB a) fun _ _ => rfl, fun a ha => ow a (mem hCB a ha), k⟩
  | nl ds =>
    intro p ws hp fz
    have hB : ∀ a, B.count a ≤ A.count a := fun a => by have := hc a; omega
    have m0 : Mono (Fok c A) (Fok c (p :: B)) H H := .sub fun a ha ⟨x, y⟩ => ⟨x, fun z => by
      rcases List.mem_cons.mp z with e | e
      · exact ha (by rw [e]; exact hp)
      · exact y (mem hB a e)⟩
    have sm := same_upd (o := .lst ws) hp
    have x1 : Rp K (Fok c (p :: B)) (upd H p (.lst ws)) (.ref p) (.ol (ds.map T.d)) [p] := .ol upd_same (RpAll.ofFz ((fz.mono m0).mono (.same sm)))
    have s1 : Sl K (Fok c (p :: B)) (upd H p (.lst ws)) sl ρ B := (s.mono m0 fun _ _ => rfl).mono (.same sm) fun a ha => by rw [upd_ne (fun e => there a ha (by rw [e]; exact hp))]
    refine q _ _ sm ⟨[p] ++ B, fun a => ?_, .cons x1 s1, fun a ha => ?_, k.grow sm⟩
    · rw [List.count_append, List.count_singleton]
      have h1 := hB a
      have h2 := u a
      by_cases e : p = a
      · subst e
        have : B.count p = 0 := List.count_eq_zero.mpr fun z => there p z hp
        simp [this]
      · have e' : (p == a) = false := by simpa using e
        simp [e']; omega
    · rcases List.mem_append.mp ha with z | z
      · have e : a = p := by simpa using z
        subst e
        exact .inr (k.there _ hp)
      · exact ow a (mem hB a z)
  | nt ds =>
    intro p ws hp fz
    have hB : ∀ a, B.count a ≤ A.count a := fun a => by have := hc a; omega
    have m0 : Mono (Fok c A) (Fok c B) H H := .sub fun a _ => Fok.sub hB a
    have sm := same_upd (o := .tup ws) hp
    have x1 : Rp K (Fok c B) (upd H p (.tup ws)) (.ref p) (.d (.tuple ds)) [] := .d (.tup (.of upd_same) ((fz.mono m0).mono (.same sm)))
    have s1 : Sl K (Fok c B) (upd H p (.tup ws)) sl ρ B := (s.mono m0 fun _ _ => rfl).mono (.same sm) fun a ha => by rw [upd_ne (fun e => there a ha (by rw [e]; exact hp))]
    exact q _ _ sm ⟨[] ++ B, fun a => Nat.le_trans (hB a) (u a), .cons x1 s1, fun a ha => ow a (mem hB a ha), k.grow sm⟩
end
section
variable {X : Cx} {E : Str → Hp → Prop} {a b : Expr} {ta tb : TE} {ma mb : MEx} {pos : Pos}
def mBin (op : T → T → R RV) (ma mb : MEx) : MEx := fun ρ => (ma ρ).bind fun x => (mb x.2).bind fun y => (op x.1 y.1).bind fun z => .ok (z.toT, y.2)
def mUn (op : T → R RV) (ma : MEx) : MEx := fun ρ => (ma ρ).bind fun x => (op x.1).bind fun z => .ok (z.toT, x.2)
theorem noexc {α : Type} {r : R α} {P : α → Prop} {P' : α → Prop} {E' : Str → Prop} (hx : ∀ c, r ≠ .exc c) (h : Then r P E') (hp : ∀ a, P a → P' a) : Then r P' (fun _ => False) := by
  cases r with
  | ok a => exact hp a h
  | exc c => exact (hx c rfl).elim
  | bad => exact h
def NoX (op : T → T → R RV) : Prop := ∀ x y c, op x y ≠ .exc c
theorem sim_bin {K : PySem.W.Frag} {r : R2} {op : T → T → R RV} (ho : OpV K r op) (hx : NoX op) {g1 g2 : Bool} (sa : SimE K E g1 ta ma) (sb : SimE K E g2 tb mb) : SimE K E (g1 && g2) (tOp r ta tb) (mBin op ma mb) := by
  intro c H tv td σ ρ hl st Q q
  unfold mBin at q
  rw [then_bind] at q
  refine sa c H tv td σ ρ hl st _ (q.imp ?_)
  intro x q1 v H1 sm1 st1
  rw [then_bind] at q1
  refine sb c H1 (some v :: tv) (some x.1 :: td) σ x.2 (by simp [hl]) st1 _ (q1.imp ?_)
  intro y q2 u H2 sm2 st2
  rw [then_bind] at q2
  obtain ⟨A, w⟩ := st2
  obtain ⟨A1, B1, rfl, x1, s1⟩ := w.top
  cases s1 with
  | cons x2 s2 =>
    rename_i A2 B2
    refine ho _ H2 v u x.1 y.1 A2 A1 x2 x1 Q (noexc (hx _ _) q2 fun z q3 => ?_)
    refine StW.result (fun a => ?_) w.uniq w.own w.keep s2 fun v' H' sm' => q3 v' H' fun e => ?_
    · simp only [List.count_append]
      omega
    · rw [Bool.and_eq_true] at e
      exact ((sm1 e.1).trans (sm2 e.2)).trans sm'
end
end L3
namespace L3
open PySem PySem.Spec PyProof.Rows L2
def T.allD : List T → Option (List PyData)
  | [] => some []
  | .d x :: r => (T.allD r).map fun xs => x :: xs
  | _ => none
def T.lst? : T → Option (List PyData)
  | .d (.list ds) => some ds
  | .ol ts => T.allD ts
  | _ => none
section
variable {K : PySem.W.Frag} {F F' : Addr → Prop} {H H' : Hp}
theorem allD_map : ∀ ds : List PyData, T.allD (ds.map T.d) = some ds
  | [] => rfl
  | x :: r => by
    show (T.allD (r.map T.d)).map (fun xs => x :: xs) = _
    rw [allD_map r]; rfl
theorem RpAll.data : ∀ {ts : List T} {vs : List V} {A : List Addr} {ds : List PyData}, RpAll K F H vs ts A → T.allD ts = some ds → FzAll K F H vs ds ∧ A = [] ∧ ts = ds.map T.d
  | [], _, _, ds, .nil, e => by
    have e' : [] = ds := Option.some.inj e
    subst e'
    exact ⟨.nil, rfl, rfl⟩
  | .d x :: r, _, _, ds, .cons h hr, e => by
    have e' : (T.allD r).map (fun xs => x :: xs) = some ds := e
    obtain ⟨ys, e1, e2⟩ := Option.map_eq_some_iff.mp e'
    subst e2
    obtain ⟨f, z, zz⟩ := hr.data e1
    cases h with
    | d h => exact ⟨.cons h f, by rw [z]; rfl, by rw [zz]; rfl⟩
  | .ol _ :: _, _, _, _, _, e => by cases e
  | .ot _ :: _, _, _, _, _, e => by cases e
  | .od _ _ :: _, _, _, _, _, e => by cases e
  | .fd _ _ _ :: _, _, _, _, _, e => by cases e
  | .fk _ _ _ :: _, _, _, _, _, e => by cases e
  | .dt _ _ _ :: _, _, _, _, _, e => by cases e
  | .no _ :: _, _, _, _, _, e => by cases e
  | .hl :: _, _, _, _, _, e => by cases e
  | .ob _ _ _ :: _, _, _, _, _, e => by cases e
  | .rd _ :: _, _, _, _, _, e => by cases e
  | .ex _ :: _, _, _, _, _, e => by cases e
theorem Rp.lst? {x : T} {v : V} {A : List Addr} {ds : List PyData} (h : Rp K F H v x A) (e : x.lst? = some ds) : ∃ a vs, v = .ref a ∧ H a = some (.lst vs) ∧ FzAll K F H vs ds := by
  cases h with
  | d h =>
    cases h with
    | lst h1 h2 h3 =>
      have e' := Option.some.inj (by simpa [T.lst?] using e)
      subst e'
      exact ⟨_, _, rfl, h1, h3⟩
    | _ => simp [T.lst?] at e
  | ol h1 h2 => exact ⟨_, _, rfl, h1, (h2.data e).1⟩
  | ot _ _ => simp [T.lst?] at e
  | od _ _ _ _ => simp [T.lst?] at e
  | fd _ _ _ _ => simp [T.lst?] at e
  | fk _ => simp [T.lst?] at e
  | dt _ _ _ _ _ _ => simp [T.lst?] at e
  | no _ => simp [T.lst?] at e
  | hl _ => simp [T.lst?] at e
  | rd _ _ => simp [T.lst?] at e
  | ex _ _ _ => simp [T.lst?] at e
  | ob _ _ _ _ => simp [T.lst?] at e
theorem FzAll.append : ∀ {vs ws : List V} {xs ys : List PyData}, FzAll K F H vs xs → FzAll K F H ws ys → FzAll K F H (vs ++ ws) (xs ++ ys)
  | _, _, _, _, .nil, h => h
  | _, _, _, _, .cons a r, h => .cons a (r.append h)
theorem Rp.i {v : V} {i : Int} {A : List Addr} (h : Rp K F H v (.d (.int i)) A) : v = .int i := by
  cases h with
  | d h => cases h; rfl
theorem Rp.b {v : V} {i : Bool} {A : List Addr} (h : Rp K F H v (.d (.bool i)) A) : v = .bl i := by
  cases h with
  | d h => cases h; rfl
theorem Rp.s {v : V} {i : Str} {A : List Addr} (h : Rp K F H v (.d (.str i)) A) : v = .str i := by
  cases h with
  | d h => cases h; rfl
theorem Rp.n {v : V} {A : List Addr} (h : Rp K F H v (.d .none) A) : v = .non := by
  cases h with
  | d h => cases h; rfl
theorem Rp.t {v : V} {xs : List PyData} {A : List Addr} (h : Rp K F H v (.d (.tuple xs)) A) : ∃ a vs, v = .ref a ∧ SqT K H a vs ∧ FzAll K F H vs xs := by
  cases h with
  | d h => cases h with
    | tup h r => exact ⟨_, _, rfl, h, r⟩
theorem rv_d {Q : VK} {A : List Addr} {v : V} {x : PyData} (q : RVto K F H A Q (.v (.d x))) (f : Fz K F H v x) : Q v H := q v [] (.d f) fun _ => by simp
end
def sLine : Nat := 16777216
theorem sLine_eq : sLine = sizeLine := sizeLine_eq.symm
def opAdd : T → T → R RV
  | .d (.int i), .d (.int j) => .ok (.v (.d (.int (i + j))))
  | .d (.int i), .d (.bool k) => .ok (.v (.d (.int (i + b2i k))))
  | .d (.str x), .d (.str y) => guard (decide (x.length + y.length ≤ sLine)) (.ok (.v (.d (.str (x ++ y)))))
  | .d (.tuple xs), .d (.tuple ys) => guard (!xs.isEmpty && !ys.isEmpty && decide (xs.length + ys.length ≤ sLine)) (.ok (.nt (xs ++ ys)))
  | x, y => match x.lst?, y.lst? with
    | some xs, some ys => guard (decide (xs.length + ys.length ≤ sLine)) (.ok (.nl (xs ++ ys)))
    | _, _ => .bad
abbrev rAddStr : R2 := fun x y H Q => ∃ i j, x = .str i ∧ y = .str j ∧ i.length + j.length ≤ sizeLine ∧ Q (.str (i ++ j)) H
abbrev rAddIB : R2 := fun x y H Q => ∃ i k, x = .int i ∧ y = .bl k ∧ Q (.int (i + b2i k)) H
def rAdd (K : PySem.W.Frag) : R2 := fun x y H Q => rI0 (fun i j => .int (i + j)) x y H Q ∨ (rAddIB x y H Q ∨ (rAddStr x y H Q ∨ (rCatT K x y H Q ∨ rCat x y H Q)))
theorem op_addA {X : Cx} : OpR X (binaryOp .Add) (rAdd X.K) := op_add.or (op_add_ib.or (op_add_str.or (op_catT.or op_cat)))
theorem guard_noexc {α : Type} {b : Bool} {r : R α} (h : ∀ c, r ≠ .exc c) (c : Str) : guard b r ≠ .exc c := by
  unfold guard
  cases b
  · (intro z; cases z)
  · exact h c
theorem opAdd_nox : NoX opAdd := by
  intro x y c
  unfold opAdd
  split
  · (intro z; cases z)
  · (intro z; cases z)
  · exact guard_noexc (by intro _ z; cases z) c
  · exact guard_noexc (by intro _ z; cases z) c
  · split
    · exact guard_noexc (by intro _ z; cases z) c
    · (intro z; cases z)
theorem opAdd_v {K : PySem.W.Frag} : OpV K (rAdd K) opAdd := by
  intro F H v u x y A B hx hy Q q
  unfold opAdd at q
  split at q
  · exact .inl ⟨_, _, hx.i, hy.i, rv_d q (.int _)⟩
  · exact .inr (.inl ⟨_, _, hx.i, hy.b, rv_d q (.int _)⟩)
  · obtain ⟨g, q⟩ := then_guard.mp q
    exact .inr (.inr (.inl ⟨_, _, hx.s, hy.s, by rw [← sLine_eq]; exact of_decide_eq_true g, rv_d q (.str _)⟩))
  · obtain ⟨g, q⟩ := then_guard.mp q
    simp only [Bool.and_eq_true, Bool.not_eq_true', List.isEmpty_eq_false_iff, decide_eq_true_eq] at g
    obtain ⟨a, vs, rfl, h1, f1⟩ := hx.t
    obtain ⟨b, ws, rfl, h2, f2⟩ := hy.t
    have l1 := f1.len
    have l2 := f2.len
    refine .inr (.inr (.inr (.inl ⟨a, b, vs, ws, rfl, rfl, h1, h2, fun e => ?_, by rw [l1, l2, ← sLine_eq]; exact g.2, fun e => ?_, fun _ p hp => q p _ hp (f1.append f2)⟩)))
    · subst e
      cases f1
      exact g.1.1 rfl
    · subst e
      cases f2
      exact (g.1.2 rfl).elim
  · split at q
    · rename_i xs ys e1 e2
      obtain ⟨g, q⟩ := then_guard.mp q
      obtain ⟨a, vs, rfl, h1, f1⟩ := hx.lst? e1
      obtain ⟨b, ws, rfl, h2, f2⟩ := hy.lst? e2
      exact .inr (.inr (.inr (.inr ⟨a, b, vs, ws, rfl, rfl, h1, h2, by rw [f1.len, f2.len, ← sLine_eq]; exact of_decide_eq_true g, fun p hp => q p _ hp (f1.append f2)⟩)))
    · exact q.elim
def opI2 (g : Int → Int → Bool) (f : Int → Int → PyData) : T → T → R RV
  | .d (.int i), .d (.int j) => guard (g i j) (.ok (.v (.d (f i j))))
  | _, _ => .bad
theorem opI2_nox {g : Int → Int → Bool} {f : Int → Int → PyData} : NoX (opI2 g f) := by
  intro x y c
  unfold opI2
  split
  · exact guard_noexc (by intro _ z; cases z) c
  · (intro z; cases z)
theorem opI2_v {K : PySem.W.Frag} {g : Int → Int → Bool} {f : Int → Int → PyData} {C : Int → Int → Prop} {h : Int → Int → V} (hg : ∀ i j, g i j = true → C i j) (hf : ∀ (F : Addr → Prop) (H : Hp) i j, Fz K F H (h i j) (f i j)) : OpV K (rI C h) (opI2 g f) := by
  intro F H v u x y A B hx hy Q q
  unfold opI2 at q
  split at q
  · obtain ⟨e, q⟩ := then_guard.mp q
    exact ⟨_, _, hx.i, hy.i, hg _ _ e, rv_d q (hf _ _ _ _)⟩
  · exact q.elim
def yes2 : Int → Int → Bool := fun _ _ => true
def mulOk (i j : Int) : Bool := !(decide (Builtin.Int.intBits i > shortFactorBits) && decide (Builtin.Int.intBits j > shortFactorBits) && Builtin.Int.intTooBig (Builtin.Int.intBits i + Builtin.Int.intBits j))
def divOk (i j : Int) : Bool := decide (j ≠ 0) && !(Builtin.divisionGoesByPylong i j)
def modOk (_ j : Int) : Bool := decide (j ≠ 0)
def powOk (i j : Int) : Bool := decide (0 ≤ j ∧ j ≤ 1000000 ∧ i.natAbs < 2 ^ 64)
def opSub := opI2 yes2 fun i j => .int (i - j)
def opMulI := opI2 mulOk fun i j => .int (i * j)
def opMod := opI2 modOk fun i j => .int (i.fmod j)
def opFdiv := opI2 divOk fun i j => .int (i.fdiv j)
def opPow := opI2 powOk fun i j => .int (i ^ j.toNat)
def opLt := opI2 yes2 fun i j => .bool (decide (i < j))
def opLe := opI2 yes2 fun i j => .bool (decide (i ≤ j))
def opGt := opI2 yes2 fun i j => .bool (decide (j < i))
def opGe := opI2 yes2 fun i j => .bool (decide (j ≤ i))
theorem rI_of0 {X : Cx} {f : Value → Value → Sem Value} {h : Int → Int → V} (o : OpR X f (rI0 h)) : OpR X f (rI (fun _ _ => True) h) := fun pins s σ H x y v u Q I rx ry ⟨i, j, e1, e2, _, q⟩ => o pins s σ H x y v u Q I rx ry ⟨i, j, e1, e2, q⟩
section
variable {X : Cx}
theorem mulOk_iff {i j : Int} : mulOk i j = true ↔ IntMulOk i j := by
  unfold mulOk IntMulOk
  rw [Bool.not_eq_true', Bool.not_eq_true]
theorem op_subA : OpR X (binaryOp .Sub) (rI (fun _ _ => True) fun i j => .int (i - j)) := rI_of0 op_sub
theorem op_mulA : OpR X (binaryOp .Mult) (rI (fun i j => mulOk i j = true) fun i j => .int (i * j)) := opI fun _ _ _ _ _ _ _ hc q => mul_int q (mulOk_iff.mp hc)
theorem op_modA : OpR X (binaryOp .Mod) (rI (fun i j => modOk i j = true) fun i j => .int (i.fmod j)) := opI fun _ _ _ _ _ _ _ hc q => mod_int' (of_decide_eq_true hc) q
theorem op_fdivA : OpR X (binaryOp .FloorDiv) (rI (fun i j => divOk i j = true) fun i j => .int (i.fdiv j)) := opI fun _ _ _ _ _ _ _ hc q => by
  unfold divOk at hc
  simp only [Bool.and_eq_true, Bool.not_eq_true', decide_eq_true_eq] at hc
  exact floordiv_int hc.1 q (.inl hc.2)
theorem op_powA : OpR X (binaryOp .Pow) (rI (fun i j => powOk i j = true) fun i j => .int (i ^ j.toNat)) := opI fun i j _ _ _ _ _ hc q => by
  obtain ⟨h1, h2, h3⟩ := of_decide_eq_true (show decide (0 ≤ j ∧ j ≤ 1000000 ∧ i.natAbs < 2 ^ 64) = true from hc)
  exact pow_int_small h1 h2 h3 q
theorem op_ltA : OpR X (compareOp .Lt) (rI (fun _ _ => True) fun i j => .bl (decide (i < j))) := rI_of0 op_lt
theorem op_gtA : OpR X (compareOp .Gt) (rI (fun _ _ => True) fun i j => .bl (decide (j < i))) := rI_of0 op_gt
theorem op_geA : OpR X (compareOp .GtE) (rI (fun _ _ => True) fun i j => .bl (decide (j ≤ i))) := rI_of0 op_ge
end
def eqS : PyData → PyData → Option Bool
  | .int i, .int j => some (decide (i = j))
  | .bool i, .bool j => some (decide (i = j))
  | .str i, .str j => some (decide (i = j))
  | .none, .none => some true
  | _, _ => none
def eqD (x y : T) : R Bool := match x.toD, y.toD with
  | some a, some b => (match eqS a b with
    | some k => .ok k
    | none => guard (SeqAt.shaped a && SeqAt.shaped b) (.ok (PyData.eqv a b)))
  | _, _ => .bad
def opEq (x y : T) : R RV := (eqD x y).bind fun k => .ok (.v (.d (.bool k)))
def opNe (x y : T) : R RV := (eqD x y).bind fun k => .ok (.v (.d (.bool (!k))))
def rEqA (K : PySem.W.Frag) : R2 := fun x y H Q => rEq x y H Q ∨ rEqD K x y H Q
def rNeA (K : PySem.W.Frag) : R2 := fun x y H Q => rNe x y H Q ∨ rNeD K x y H Q
theorem op_eqA {X : Cx} (hu : X.A.units + 64 < cLine) : OpR X (compareOp .Eq) (rEqA X.K) := op_eq.or (op_eqD hu)
theorem op_neA {X : Cx} (hu : X.A.units + 64 < cLine) : OpR X (compareOp .NotEq) (rNeA X.K) := op_ne.or (op_neD hu)
theorem eqD_noexc {x y : T} (c : Str) : eqD x y ≠ .exc c := by
  unfold eqD
  split
  · split
    · (intro z; cases z)
    · exact guard_noexc (by intro _ z; cases z) c
  · (intro z; cases z)
theorem bind_noexc {α β : Type} {r : R α} {f : α → R β} (h1 : ∀ c, r ≠ .exc c) (h2 : ∀ a c, f a ≠ .exc c) (c : Str) : r.bind f ≠ .exc c := by
  cases r with
  | ok a => exact h2 a c
  | exc d => exact (h1 d rfl).elim
  | bad => (intro z; cases z)
theorem opEq_nox : NoX opEq := fun x y c => bind_noexc (fun _ => eqD_noexc _) (by intro _ _ z; cases z) c
theorem opNe_nox : NoX opNe := fun x y c => bind_noexc (fun _ => eqD_noexc _) (by intro _ _ z; cases z) c
section
variable {K : PySem.W.Frag} {F : Addr → Prop} {H : Hp}
theorem eqD_red {v u : V} {x y : T} {A B : List Addr} (hx : Rp K F H v x A) (hy : Rp K F H u y B) {P : Bool → Prop} (q : Then (eqD x y) P (fun _ => False)) :
    (∃ k, scal v u = true ∧ decide (v = u) = k ∧ P k) ∨ ∃ d e, Dp K H v d ∧ Dp K H u e ∧ SeqAt.shaped d = true ∧ SeqAt.shaped e = true ∧ P (PyData.eqv d e) := by
  unfold eqD at q
  split at q
  · rename_i a b e1 e2
    have d1 := hx.dq e1
    have d2 := hy.dq e2
    split at q
    · rename_i k ek
      refine .inl ⟨k, ?_⟩
      have q' : P k := q
      unfold eqS at ek
      split at ek
      · cases d1; cases d2; cases ek
        exact ⟨rfl, by simp [V.int.injEq], q'⟩
      · cases d1; cases d2; cases ek
        exact ⟨rfl, by simp [V.bl.injEq], q'⟩
      · cases d1; cases d2; cases ek
        exact ⟨rfl, by simp [V.str.injEq], q'⟩
      · cases d1; cases d2; cases ek
        exact ⟨rfl, by simp, q'⟩
      · cases ek
    · obtain ⟨g, q⟩ := then_guard.mp q
      rw [Bool.and_eq_true] at g
      exact .inr ⟨a, b, d1.dp g.1, d2.dp g.2, g.1, g.2, q⟩
  · exact q.elim
end
theorem opEq_v {K : PySem.W.Frag} : OpV K (rEqA K) opEq := by
  intro F H v u x y A B hx hy Q q
  have q' : Then (eqD x y) (fun k => Q (.bl k) H) (fun _ => False) := (then_bind.mp q).imp fun k h => rv_d h (.bl k)
  rcases eqD_red hx hy q' with ⟨k, s, e, q⟩ | ⟨d, e, h1, h2, h3, h4, q⟩
  · exact .inl ⟨s, by rw [e]; exact q⟩
  · exact .inr ⟨d, e, h1, h2, h3, h4, q⟩
theorem opNe_v {K : PySem.W.Frag} : OpV K (rNeA K) opNe := by
  intro F H v u x y A B hx hy Q q
  have q' : Then (eqD x y) (fun k => Q (.bl (!k)) H) (fun _ => False) := (then_bind.mp q).imp fun k h => rv_d h (.bl (!k))
  rcases eqD_red hx hy q' with ⟨k, s, e, q⟩ | ⟨d, e, h1, h2, h3, h4, q⟩
  · exact .inl ⟨s, by rw [e]; exact q⟩
  · exact .inr ⟨d, e, h1, h2, h3, h4, q⟩
def T.isNone : T → Bool
  | .d .none => true
  | .no .non => true
  | _ => false
def opIsN (x y : T) : R RV := guard y.isNone (.ok (.v (.d (.bool x.isNone))))
def opNotN (x y : T) : R RV := guard y.isNone (.ok (.v (.d (.bool (!x.isNone)))))
def opIdx : T → T → R RV
  | .d (.list ds), .d (.int i) => (ofO (atI ds i)).bind fun x => .ok (.v (.d x))
  | .d (.tuple ds), .d (.int i) => (ofO (atI ds i)).bind fun x => .ok (.v (.d x))
  | .d (.str z), .d (.int i) => guard (decide (z.length ≤ sLine)) ((ofO (atI z.cps.toList i)).bind fun c => .ok (.v (.d (.str ⟨#[c]⟩))))
  | .ol ts, .d (.int i) => (ofO (atI ts i)).bind fun x => .ok (.v x)
  | .ot ts, .d (.int i) => (ofO (atI ts i)).bind fun x => .ok (.v x)
  | .rd ds, .d (.int i) => (ofO (atI ds i)).bind fun x => .ok (.v (.d x))
  | _, _ => .bad
theorem ofO_noexc {α : Type} {o : Option α} (c : Str) : ofO o ≠ .exc c := by
  cases o <;> (intro z; cases z)
theorem opIdx_nox : NoX opIdx := by
  intro x y c
  unfold opIdx
  split
  · exact bind_noexc (fun _ => ofO_noexc _) (by intro _ _ z; cases z) c
  · exact bind_noexc (fun _ => ofO_noexc _) (by intro _ _ z; cases z) c
  · exact guard_noexc (bind_noexc (fun _ => ofO_noexc _) (by intro _ _ z; cases z)) c
  · exact bind_noexc (fun _ => ofO_noexc _) (by intro _ _ z; cases z) c
  · exact bind_noexc (fun _ => ofO_noexc _) (by intro _ _ z; cases z) c
  · exact bind_noexc (fun _ => ofO_noexc _) (by intro _ _ z; cases z) c
  · (intro z; cases z)
section
variable {K : PySem.W.Frag} {F : Addr → Prop} {H : Hp}
theorem atI_rel {α β : Type} {xs : List α} {ys : List β} (hl : ys.length = xs.length) {P : α → β → Prop} (g : ∀ (j : Nat) (x : α), xs[j]? = some x → ∃ y, ys[j]? = some y ∧ P x y) {i : Int} {x : α} (h : atI xs i = some x) : ∃ y, atI ys i = some y ∧ P x y := by
  unfold atI at h ⊢
  rw [hl]
  obtain ⟨j, e1, e2⟩ := Option.bind_eq_some_iff.mp h
  obtain ⟨y, e3, p⟩ := g j x e2
  exact ⟨y, by rw [e1]; exact e3, p⟩
end
theorem opIdx_v {K : PySem.W.Frag} : OpV K (rIx K) opIdx := by
  intro F H v u x y A B hx hy Q q
  unfold opIdx at q
  split at q
  · obtain ⟨z, e, q⟩ := then_ofO.mp (then_bind.mp q)
    obtain ⟨a, vs, rfl, h1, f1⟩ := hx.lst? (ds := _) rfl
    obtain ⟨w, e2, p⟩ := atI_rel f1.len (fun j x hx => f1.get hx) e
    exact .inl ⟨a, vs, _, w, rfl, hy.i, .of h1, e2, rv_d q p⟩
  · obtain ⟨z, e, q⟩ := then_ofO.mp (then_bind.mp q)
    obtain ⟨a, vs, rfl, h1, f1⟩ := hx.t
    obtain ⟨w, e2, p⟩ := atI_rel f1.len (fun j x hx => f1.get hx) e
    exact .inr (.inl ⟨a, vs, _, w, rfl, hy.i, h1, e2, rv_d q p⟩)
  · obtain ⟨g, q⟩ := then_guard.mp q
    obtain ⟨z, e, q⟩ := then_ofO.mp (then_bind.mp q)
    exact .inr (.inr ⟨_, _, z, hx.s, hy.i, by rw [← sLine_eq]; exact of_decide_eq_true g, e, rv_d q (.str _)⟩)
  · obtain ⟨z, e, q⟩ := then_ofO.mp (then_bind.mp q)
    cases hx with
    | ol h1 r =>
      obtain ⟨w, e2, C, p, hc⟩ := atI_rel (P := fun t w => ∃ C, Rp K F H w t C ∧ ∀ a, C.count a ≤ _) r.len (fun j x hx => by
        obtain ⟨w, C, e, p, hc⟩ := r.get hx
        exact ⟨w, e, C, p, hc⟩) e
      exact .inl ⟨_, _, _, w, rfl, hy.i, .of h1, e2, q w C p fun b => by have := hc b; rw [List.count_append, List.count_cons]; omega⟩
  · obtain ⟨z, e, q⟩ := then_ofO.mp (then_bind.mp q)
    cases hx with
    | ot h1 r =>
      obtain ⟨w, e2, C, p, hc⟩ := atI_rel (P := fun t w => ∃ C, Rp K F H w t C ∧ ∀ a, C.count a ≤ _) r.len (fun j x hx => by
        obtain ⟨w, C, e, p, hc⟩ := r.get hx
        exact ⟨w, e, C, p, hc⟩) e
      exact .inr (.inl ⟨_, _, _, w, rfl, hy.i, .of h1, e2, q w C p fun b => by have := hc b; rw [List.count_append]; omega⟩)
  · obtain ⟨z, e, q⟩ := then_ofO.mp (then_bind.mp q)
    cases hx with
    | rd h1 f1 =>
      obtain ⟨w, e2, p⟩ := atI_rel f1.len (fun j x hx => f1.get hx) e
      exact .inl ⟨_, _, _, w, rfl, hy.i, h1.sq, e2, rv_d q p⟩
  · exact q.elim
end L3
namespace L3
open PySem PySem.Spec PyProof.Rows L2
abbrev MP := Env → Option T
def SimP (K : PySem.W.Frag) (te : TE) (m : MP) : Prop :=
  ∀ (c : C0) (H : Hp) (tv : List (Option V)) (td : Env) (σ : L2.St) (ρ : Env) (A : List Addr) (t : T), tv.length = td.length → StW K c H (tv ++ σ) (td ++ ρ) A → m ρ = some t → ∀ Q : VK,
    (∀ v A1, Rp K (Fok c A) H v t A1 → (∀ a ∈ A1, a ∈ A) → Q v H) → te σ H Q
structure QP (X : Cx) (e : Expr) (te : TE) (m : MP) : Prop where
  pe : PE X e te
  sim : SimP X.K te m
def mLift (m : MP) : MEx := fun ρ => match m ρ with | some (.d x) => .ok (.d x, ρ) | _ => .bad
def okV : R RV → Option T
  | .ok (.v t) => some t
  | _ => none
def pVar (i : Nat) : MP := fun ρ => match ρ[i]? with | some (some t) => some t | _ => none
def pC (x : PyData) : MP := fun _ => some (.d x)
def pBin (op : T → T → R RV) (ma mb : MP) : MP := fun ρ => (ma ρ).bind fun x => (mb ρ).bind fun y => okV (op x y)
def pUn (op : T → R RV) (ma : MP) : MP := fun ρ => (ma ρ).bind fun x => okV (op x)
section
variable {X : Cx} {E : Str → Hp → Prop} {e a b : Expr} {te ta tb : TE} {m ma mb : MP} {pos : Pos}
theorem QP.lift (h : QP X e te m) : QE X E true e te (mLift m) := by
  refine ⟨h.pe, fun c H tv td σ ρ hl st Q q => ?_⟩
  obtain ⟨A, w⟩ := st
  unfold mLift at q
  cases e1 : m ρ with
  | none => rw [e1] at q; exact q.elim
  | some t =>
    rw [e1] at q
    cases t with
    | d x =>
      refine h.sim c H tv td σ ρ A _ hl w e1 Q fun v A1 r _ => ?_
      cases r with
      | d f => exact q v H (fun _ => Same.refl H) ⟨A, w.pushD f⟩
    | _ => exact q.elim
theorem qp_int {i : Int} {j : Nat} {pos : Pos} : QP X (.Constant (.int i) j pos) (tC (.int i)) (pC (.int i)) := ⟨pe_int, fun c H tv td σ ρ A t _ _ e Q q => by cases e; exact q _ [] (.d (.int i)) fun _ z => by simp at z⟩
theorem qp_bl {i : Bool} {j : Nat} {pos : Pos} : QP X (.Constant (.bool i) j pos) (tC (.bl i)) (pC (.bool i)) := ⟨pe_bl, fun c H tv td σ ρ A t _ _ e Q q => by cases e; exact q _ [] (.d (.bl i)) fun _ z => by simp at z⟩
theorem qp_str {i : Str} {j : Nat} {pos : Pos} : QP X (.Constant (.str i) j pos) (tC (.str i)) (pC (.str i)) := ⟨pe_str, fun c H tv td σ ρ A t _ _ e Q q => by cases e; exact q _ [] (.d (.str i)) fun _ z => by simp at z⟩
theorem qp_non {j : Nat} {pos : Pos} : QP X (.Constant .none j pos) (tC .non) (pC .none) := ⟨pe_non, fun c H tv td σ ρ A t _ _ e Q q => by cases e; exact q _ [] (.d .non) fun _ z => by simp at z⟩
theorem StW.see {K : PySem.W.Frag} {c : C0} {H : Hp} {tv : List (Option V)} {td : Env} {σ : L2.St} {ρ : Env} {A : List Addr} (hl : tv.length = td.length) (w : StW K c H (tv ++ σ) (td ++ ρ) A) {i : Nat} {t : T} (e : ρ[i]? = some (some t)) :
    ∃ v A1, σ[i]? = some (some v) ∧ Rp K (Fok c A) H v t A1 ∧ ∀ a ∈ A1, a ∈ A := by
  have hlen := w.slots.len
  have hi : i < ρ.length := (List.getElem?_eq_some_iff.mp e).1
  have hi2 : tv.length + i < (tv ++ σ).length := by
    rw [hlen, List.length_append]; omega
  obtain ⟨B, hb, ar, get⟩ := w.slots.around hi2
  obtain ⟨v, A1, e3, x, hc⟩ := get t (by rw [app_at hl.symm, e])
  rw [app_at rfl] at e3
  exact ⟨v, A1, e3, x, fun a ha => List.count_pos_iff.mp (by have := hc a; have := List.count_pos_iff.mpr ha; omega)⟩
theorem sim_pvar {K : PySem.W.Frag} (i : Nat) : SimP K (tVar i) (pVar i) := by
  intro c H tv td σ ρ A t hl w e Q q
  unfold pVar at e
  split at e
  · rename_i e0
    cases e
    obtain ⟨v, A1, e3, x, hc⟩ := w.see hl e0
    exact ⟨v, e3, q v A1 x hc⟩
  · cases e
theorem qp_var (i : Nat) {x : Str} {pos : Pos} (hN : X.N[i]? = some x := by rfl) (hv : Vis X.env.scope x := by first | exact Or.inl rfl | exact Or.inr (Or.inl rfl) | exact Or.inr (Or.inr rfl)) (hd : (x == ("__debug__" : Str)) = false := by decide)
    (hcd : (x == ("__classdict__" : Str)) = false := by decide) : QP X (.Name x pos) (tVar i) (pVar i) := ⟨pe_var hN hv hd hcd, sim_pvar i⟩
theorem then_okV {z : R RV} {t : T} (e : okV z = some t) {P : RV → Prop} (h : P (.v t)) : Then z P (fun _ => False) := by
  unfold okV at e
  split at e
  · cases e; exact h
  · cases e
theorem sim_pbin {K : PySem.W.Frag} {r : R2} {op : T → T → R RV} (ho : OpV K r op) (sa : SimP K ta ma) (sb : SimP K tb mb) : SimP K (tOp r ta tb) (pBin op ma mb) := by
  intro c H tv td σ ρ A t hl w e Q q
  unfold pBin at e
  obtain ⟨x, e1, e⟩ := Option.bind_eq_some_iff.mp e
  obtain ⟨y, e2, e⟩ := Option.bind_eq_some_iff.mp e
  refine sa c H tv td σ ρ A x hl w e1 _ fun v A1 r1 h1 => ?_
  refine sb c H tv td σ ρ A y hl w e2 _ fun u A2 r2 h2 => ?_
  refine ho _ H v u x y A1 A2 r1 r2 Q (then_okV e ?_)
  intro w' C r3 h3
  refine q w' C r3 fun a ha => ?_
  have z := h3 a
  rw [List.count_append] at z
  have z2 := List.count_pos_iff.mpr ha
  by_cases hA : a ∈ A1
  · exact h1 a hA
  · have := List.count_eq_zero.mpr hA
    exact h2 a (List.count_pos_iff.mp (by omega))
theorem sim_pun {K : PySem.W.Frag} {r : V → Hp → VK → Prop} {op : T → R RV} (ho : UnV K r op) (sa : SimP K ta ma) : SimP K (tUn r ta) (pUn op ma) := by
  intro c H tv td σ ρ A t hl w e Q q
  unfold pUn at e
  obtain ⟨x, e1, e⟩ := Option.bind_eq_some_iff.mp e
  refine sa c H tv td σ ρ A x hl w e1 _ fun v A1 r1 h1 => ?_
  refine ho _ H v x A1 r1 Q (then_okV e ?_)
  intro w' C r3 h3
  exact q w' C r3 fun a ha => h1 a (List.count_pos_iff.mp (Nat.lt_of_lt_of_le (List.count_pos_iff.mpr ha) (h3 a)))
theorem qp_op {op : Operator} {r : R2} {f : T → T → R RV} (ho : OpR X (binaryOp op) r) (hv : OpV X.K r f) (ha : QP X a ta ma) (hb : QP X b tb mb) : QP X (.BinOp a op b pos) (tOp r ta tb) (pBin f ma mb) := ⟨pe_op ho ha.pe hb.pe, sim_pbin hv ha.sim hb.sim⟩
theorem qp_cmp {op : CmpOp} {r : R2} {f : T → T → R RV} (ho : OpR X (compareOp op) r) (hv : OpV X.K r f) (ha : QP X a ta ma) (hb : QP X b tb mb) (hm : behindInMarks op b = false) : QP X (.Compare a [op] [b] pos) (tOp r ta tb) (pBin f ma mb) := ⟨pe_cmpR ho ha.pe hb.pe hm, sim_pbin hv ha.sim hb.sim⟩
theorem qp_ix (ha : QP X a ta ma) (hb : QP X b tb mb) (hs : PlainIx b := by exact fun _ _ => rfl) : QP X (.Subscript a b pos) (tOp (rIx X.K) ta tb) (pBin opIdx ma mb) := ⟨pe_ix ix_seq ha.pe hb.pe hs, sim_pbin opIdx_v ha.sim hb.sim⟩
theorem qe_op {op : Operator} {r : R2} {f : T → T → R RV} {ma mb : MEx} (ho : OpR X (binaryOp op) r) (hv : OpV X.K r f) (hx : NoX f) {g1 g2 : Bool} (ha : QE X E g1 a ta ma) (hb : QE X E g2 b tb mb) : QE X E (g1 && g2) (.BinOp a op b pos) (tOp r ta tb) (mBin f ma mb) := ⟨pe_op ho ha.pe hb.pe, sim_bin hv hx ha.sim hb.sim⟩
theorem qe_cmp {op : CmpOp} {r : R2} {f : T → T → R RV} {ma mb : MEx} (ho : OpR X (compareOp op) r) (hv : OpV X.K r f) (hx : NoX f) {g1 g2 : Bool} (ha : QE X E g1 a ta ma) (hb : QE X E g2 b tb mb) (hm : behindInMarks op b = false) : QE X E (g1 && g2) (.Compare a [op] [b] pos) (tOp r ta tb) (mBin f ma mb) := ⟨pe_cmpR ho ha.pe hb.pe hm, sim_bin hv hx ha.sim hb.sim⟩
theorem qe_ix {ma mb : MEx} {g1 g2 : Bool} (ha : QE X E g1 a ta ma) (hb : QE X E g2 b tb mb) (hs : PlainIx b := by exact fun _ _ => rfl) : QE X E (g1 && g2) (.Subscript a b pos) (tOp (rIx X.K) ta tb) (mBin opIdx ma mb) := ⟨pe_ix ix_seq ha.pe hb.pe hs, sim_bin opIdx_v opIdx_nox ha.sim hb.sim⟩
end
abbrev MA := Env → R (List T × Env)
def SimA (K : PySem.W.Frag) (E : Str → Hp → Prop) (gr : Bool) (ta : TA) (m : MA) : Prop :=
  ∀ (c : C0) (H : Hp) (tv : List (Option V)) (td : Env) (σ : L2.St) (ρ : Env), tv.length = td.length → StR K c H (tv ++ σ) (td ++ ρ) → ∀ Q : List V → Hp → Prop,
    Then (m ρ) (fun r => ∀ vs H', (gr = true → Same H H') → vs.length = r.1.length → StR K c H' (vs.map some ++ (tv ++ σ)) (r.1.map some ++ (td ++ r.2)) → Q vs H') (fun x => ∀ H', KeepC c H' → E x H') → ta σ H Q
structure QA (X : Cx) (E : Str → Hp → Prop) (gr : Bool) (es : List Expr) (ta : TA) (m : MA) : Prop where
  pa : PA X es ta
  sim : SimA X.K E gr ta m
  len : ∀ ρ r, m ρ = .ok r → r.1.length = es.length
def mNil : MA := fun ρ => .ok ([], ρ)
def mCons (m : MEx) (r : MA) : MA := fun ρ => (m ρ).bind fun x => (r x.2).bind fun y => .ok (x.1 :: y.1, y.2)
abbrev MPA := Env → Option (List T)
def SimPA (K : PySem.W.Frag) (ta : TA) (m : MPA) : Prop :=
  ∀ (c : C0) (H : Hp) (tv : List (Option V)) (td : Env) (σ : L2.St) (ρ : Env) (A : List Addr) (ts : List T), tv.length = td.length → StW K c H (tv ++ σ) (td ++ ρ) A → m ρ = some ts → ∀ Q : List V → Hp → Prop,
    (∀ vs A1, RpAll K (Fok c A) H vs ts A1 → (∀ a ∈ A1, a ∈ A) → Q vs H) → ta σ H Q
structure QPA (X : Cx) (es : List Expr) (ta : TA) (m : MPA) : Prop where
  pa : PA X es ta
  sim : SimPA X.K ta m
def pNil : MPA := fun _ => some []
def pCons (m : MP) (r : MPA) : MPA := fun ρ => (m ρ).bind fun x => (r ρ).bind fun y => some (x :: y)
section
variable {X : Cx} {E : Str → Hp → Prop} {e a b : Expr} {es : List Expr} {te ta tb : TE} {t : TA} {m ma mb : MEx} {r : MA} {pos : Pos}
theorem qa_nil : QA X E true [] tNil mNil := ⟨pa_nil, fun c H tv td σ ρ hl st Q q => q [] H (fun _ => Same.refl H) rfl st, fun ρ r e => by cases e; rfl⟩
theorem qa_cons {g1 g2 : Bool} (h : QE X E g1 e te m) (hr : QA X E g2 es t r) (hs : starEach (e :: es) X.env = (false, eval e X.env) :: starEach es X.env := by rfl) : QA X E (g1 && g2) (e :: es) (tCons te t) (mCons m r) := by
  refine ⟨pa_cons h.pe hr.pa hs, fun c H tv td σ ρ hl st Q q => ?_, fun ρ z ez => ?_⟩
  · unfold mCons at q
    rw [then_bind] at q
    refine h.sim c H tv td σ ρ hl st _ (q.imp ?_)
    intro x q1 v H1 sm1 st1
    rw [then_bind] at q1
    refine hr.sim c H1 (some v :: tv) (some x.1 :: td) σ x.2 (by simp [hl]) st1 _ (q1.imp ?_)
    intro y q2 vs H2 sm2 hvs st2
    refine q2 (v :: vs) H2 (fun e => by rw [Bool.and_eq_true] at e; exact (sm1 e.1).trans (sm2 e.2)) (by simp [hvs]) ?_
    exact StR.raise (xs := vs.map some) (as := y.1.map some) (by simp [hvs]) st2
  · unfold mCons at ez
    cases e1 : m ρ with
    | ok x =>
      rw [e1] at ez
      cases e2 : r x.2 with
      | ok y =>
        have ez' : (R.ok (x.1 :: y.1, y.2) : R (List T × Env)) = .ok z := by rw [← ez]; show _ = (r x.2).bind _; rw [e2]; rfl
        cases ez'
        simp [hr.len _ _ e2]
      | exc _ => have ez' : (r x.2).bind (fun y => R.ok (x.1 :: y.1, y.2)) = R.ok z := ez; rw [e2] at ez'; cases ez'
      | bad => have ez' : (r x.2).bind (fun y => R.ok (x.1 :: y.1, y.2)) = R.ok z := ez; rw [e2] at ez'; cases ez'
    | exc _ => rw [e1] at ez; cases ez
    | bad => rw [e1] at ez; cases ez
theorem qpa_nil : QPA X [] tNil pNil := ⟨pa_nil, fun c H tv td σ ρ A ts _ _ e Q q => by cases e; exact q [] [] .nil fun _ z => by simp at z⟩
theorem qpa_cons {m : MP} {r : MPA} (h : QP X e te m) (hr : QPA X es t r) (hs : starEach (e :: es) X.env = (false, eval e X.env) :: starEach es X.env := by rfl) : QPA X (e :: es) (tCons te t) (pCons m r) := by
  refine ⟨pa_cons h.pe hr.pa hs, fun c H tv td σ ρ A ts hl w e Q q => ?_⟩
  unfold pCons at e
  obtain ⟨x, e1, e⟩ := Option.bind_eq_some_iff.mp e
  obtain ⟨y, e2, e⟩ := Option.bind_eq_some_iff.mp e
  cases e
  refine h.sim c H tv td σ ρ A x hl w e1 _ fun v A1 r1 h1 => ?_
  refine hr.sim c H tv td σ ρ A y hl w e2 _ fun vs A2 r2 h2 => ?_
  exact q (v :: vs) (A1 ++ A2) (.cons r1 r2) fun a ha => (List.mem_append.mp ha).elim (h1 a) (h2 a)
section
variable {K : PySem.W.Frag} {F : Addr → Prop} {H : Hp}
theorem Sl.front : ∀ {vs : List V} {ts : List T} {sl : List (Option V)} {ρ : Env} {A : List Addr}, vs.length = ts.length → Sl K F H (vs.map some ++ sl) (ts.map some ++ ρ) A → ∃ A1 B, A = A1 ++ B ∧ RpAll K F H vs ts A1 ∧ Sl K F H sl ρ B
  | [], [], _, _, A, _, h => ⟨[], A, rfl, .nil, h⟩
  | v :: vs, t :: ts, _, _, _, hl, h => by
    cases h with
    | cons x r =>
      obtain ⟨A1, B, e, ra, s⟩ := r.front (by simpa using hl)
      exact ⟨_, B, by rw [e, ← List.append_assoc], .cons x ra, s⟩
  | [], _ :: _, _, _, _, hl, _ => by simp at hl
  | _ :: _, [], _, _, _, hl, _ => by simp at hl
end
def mkTup (ts : List T) : T := match T.allD ts with | some ds => .d (.tuple ds) | none => .ot ts
def mTup (m : MA) : MEx := fun ρ => (m ρ).bind fun r => .ok (mkTup r.1, r.2)
def mLst (m : MA) : MEx := fun ρ => (m ρ).bind fun r => .ok (.ol r.1, r.2)
theorem sz1000 {n : Nat} (h : n ≤ 1000) : n ≤ sizeLine := Nat.le_trans h (by decide)
theorem qe_tup {k : Nat} {ma : MA} {g1 : Bool} (h : QA X E g1 es t ma) (hz : es.length ≤ 1000 := by decide) : QE X E g1 (.Tuple es k pos) (tTup t) (mTup ma) := by
  refine ⟨pe_tup h.pa, fun c H tv td σ ρ hl st Q q => ?_⟩
  unfold mTup at q
  rw [then_bind] at q
  refine h.sim c H tv td σ ρ hl st _ ?_
  have hlen := h.len ρ
  cases e : ma ρ with
  | bad => rw [e] at q; exact q.elim
  | exc x => rw [e] at q; exact q
  | ok r =>
    rw [e] at q
    intro vs H1 sm1 hvs st1
    have hn := hlen r e
    refine ⟨sz1000 (by omega), fun p hp => q _ _ (fun e => (sm1 e).trans (same_upd hp)) ?_⟩
    obtain ⟨A, w⟩ := st1
    obtain ⟨A1, B, eA, ra, s⟩ := w.slots.front hvs
    have sm := same_upd (o := .tup vs) hp
    have w2 := w.grow sm
    have eq1 : ∀ a ∈ A, (upd H1 p (.tup vs)) a = H1 a := fun a ha => upd_ne (fun z => w.not_mem_of_none hp (by rw [← z]; exact ha))
    have ra2 := ra.mono (.same sm) fun a ha => eq1 a (by rw [eA]; exact List.mem_append_left _ ha)
    have s2 := s.mono (.same sm) fun a ha => eq1 a (by rw [eA]; exact List.mem_append_right _ ha)
    refine ⟨A1 ++ B, w2.remake (fun a => by rw [eA]; exact Nat.le_refl _) (.cons ?_ s2)⟩
    show Rp X.K (Fok c A) (upd H1 p (.tup vs)) (.ref p) (mkTup r.1) A1
    unfold mkTup
    cases ed : T.allD r.1 with
    | none => exact .ot upd_same ra2
    | some ds =>
      obtain ⟨f, z, _⟩ := ra2.data ed
      subst z
      exact .d (.tup (.of upd_same) f)
theorem qe_lst {ma : MA} {g1 : Bool} (h : QA X E g1 es t ma) (hz : es.length ≤ 1000 := by decide) : QE X E g1 (.List es pos) (tLst t) (mLst ma) := by
  refine ⟨pe_lst h.pa, fun c H tv td σ ρ hl st Q q => ?_⟩
  unfold mLst at q
  rw [then_bind] at q
  refine h.sim c H tv td σ ρ hl st _ ?_
  have hlen := h.len ρ
  cases e : ma ρ with
  | bad => rw [e] at q; exact q.elim
  | exc x => rw [e] at q; exact q
  | ok r =>
    rw [e] at q
    intro vs H1 sm1 hvs st1
    have hn := hlen r e
    refine ⟨sz1000 (by omega), fun p hp => q _ _ (fun e => (sm1 e).trans (same_upd hp)) ?_⟩
    obtain ⟨A, w⟩ := st1
    obtain ⟨A1, B, eA, ra, s⟩ := w.slots.front hvs
    have sm := same_upd (o := .lst vs) hp
    have m0 : Mono (Fok c A) (Fok c (p :: A)) H1 H1 := Fok.fresh hp
    have eq1 : ∀ a ∈ A, (upd H1 p (.lst vs)) a = H1 a := fun a ha => upd_ne (fun z => w.not_mem_of_none hp (by rw [← z]; exact ha))
    have ra2 := (ra.mono m0 fun _ _ => rfl).mono (.same sm) fun a ha => eq1 a (by rw [eA]; exact List.mem_append_left _ ha)
    have s2 := (s.mono m0 fun _ _ => rfl).mono (.same sm) fun a ha => eq1 a (by rw [eA]; exact List.mem_append_right _ ha)
    have ec : (p :: A1) ++ B = p :: A := by rw [eA]; rfl
    have cc : Sl X.K (Fok c (p :: A)) (upd H1 p (.lst vs)) (some (.ref p) :: (tv ++ σ)) (some (.ol r.1) :: (td ++ r.2)) ((p :: A1) ++ B) := .cons (.ol upd_same ra2) s2
    rw [ec] at cc
    refine ⟨p :: A, fun a => ?_, cc, fun a ha => ?_, w.keep.grow sm⟩
    · rw [List.count_cons]
      have h2 := w.uniq a
      by_cases e : p = a
      · subst e
        have : A.count p = 0 := List.count_eq_zero.mpr (w.not_mem_of_none hp)
        simp [this]
      · have e' : (p == a) = false := by simpa using e
        simp [e']; omega
    · rcases List.mem_cons.mp ha with z | z
      · subst z
        exact .inr (w.keep.there _ hp)
      · exact w.own a z
def CallV (K : PySem.W.Frag) (r : List V → Hp → VK → Prop) (op : List T → R RV) : Prop := ∀ (F : Addr → Prop) (H : Hp) (vs : List V) (ts : List T) (A : List Addr), RpAll K F H vs ts A → ∀ Q : VK, Then (op ts) (RVto K F H A Q) (fun _ => False) → r vs H Q
def NoXL (op : List T → R RV) : Prop := ∀ x c, op x ≠ .exc c
def mCallB (op : List T → R RV) (m : MA) : MEx := fun ρ => (m ρ).bind fun r => (op r.1).bind fun z => .ok (z.toT, r.2)
def pCallB (op : List T → R RV) (m : MPA) : MP := fun ρ => (m ρ).bind fun ts => okV (op ts)
theorem sim_callB {K : PySem.W.Frag} {rr : List V → Hp → VK → Prop} {op : List T → R RV} {ma : MA} (ho : CallV K rr op) (hx : NoXL op) {g1 : Bool} (sa : SimA K E g1 t ma) : SimE K E g1 (tCB rr t) (mCallB op ma) := by
  intro c H tv td σ ρ hl st Q q
  unfold mCallB at q
  rw [then_bind] at q
  refine sa c H tv td σ ρ hl st _ (q.imp ?_)
  intro x q1 vs H1 sm1 hvs st1
  rw [then_bind] at q1
  obtain ⟨A, w⟩ := st1
  obtain ⟨A1, B, eA, ra, s⟩ := w.slots.front hvs
  refine ho _ H1 vs x.1 A1 ra Q (noexc (hx _) q1 fun z q3 => ?_)
  refine StW.result (fun a => ?_) w.uniq w.own w.keep s fun v' H' sm' => q3 v' H' fun e => (sm1 e).trans sm'
  rw [eA, List.count_append]
  omega
theorem sim_pcallB {K : PySem.W.Frag} {rr : List V → Hp → VK → Prop} {op : List T → R RV} {ma : MPA} (ho : CallV K rr op) (sa : SimPA K t ma) : SimP K (tCB rr t) (pCallB op ma) := by
  intro c H tv td σ ρ A tt hl w e Q q
  unfold pCallB at e
  obtain ⟨x, e1, e⟩ := Option.bind_eq_some_iff.mp e
  refine sa c H tv td σ ρ A x hl w e1 _ fun vs A1 r1 h1 => ?_
  refine ho _ H vs x A1 r1 Q (then_okV e ?_)
  intro w' C r3 h3
  exact q w' C r3 fun a ha => h1 a (List.count_pos_iff.mp (Nat.lt_of_lt_of_le (List.count_pos_iff.mpr ha) (h3 a)))
variable {x : Str} {p : Pos} {id TY : String} {rr : List V → Hp → VK → Prop} {op : List T → R RV}
theorem qp_callB {ma : MPA} (hc : CallR X (.builtin id) rr) (hv : CallV X.K rr op) (hm : X.mg x = none) (hb : bootBuiltins x = some (.builtin id)) (ha : QPA X (e :: es) t ma) (hg : Gl X x := by rfl) (hn : x ≠ "__name__" := by decide) (hdb : (x == ("__debug__" : Str)) = false := by decide)
    (he : starEach (e :: es) X.env = (false, eval e X.env) :: starEach es X.env := by rfl) (hpl : (backTo pos (starEach es X.env)).any (·.1) = false := by rfl) : QP X (.Call (.Name x p) (e :: es) [] pos) (tCB rr t) (pCallB op ma) :=
  ⟨pe_callB hc hg hm hb ha.pa hn hdb he hpl, sim_pcallB hv ha.sim⟩
theorem qe_callTy {ma : MA} (hc : CallR X (.type TY) rr) (hv : CallV X.K rr op) (hx : NoXL op) (hm : X.mg x = none) (hb : bootBuiltins x = some (.type TY)) {g1 : Bool} (ha : QA X E g1 (e :: es) t ma) (hg : Gl X x := by rfl) (hn : x ≠ "__name__" := by decide) (hdb : (x == ("__debug__" : Str)) = false := by decide)
    (he : starEach (e :: es) X.env = (false, eval e X.env) :: starEach es X.env := by rfl) (hpl : (backTo pos (starEach es X.env)).any (·.1) = false := by rfl) : QE X E g1 (.Call (.Name x p) (e :: es) [] pos) (tCB rr t) (mCallB op ma) :=
  ⟨pe_callTy hc hg hm hb ha.pa hn hdb he hpl, sim_callB hv hx ha.sim⟩
theorem qp_callTy {ma : MPA} (hc : CallR X (.type TY) rr) (hv : CallV X.K rr op) (hm : X.mg x = none) (hb : bootBuiltins x = some (.type TY)) (ha : QPA X (e :: es) t ma) (hg : Gl X x := by rfl) (hn : x ≠ "__name__" := by decide) (hdb : (x == ("__debug__" : Str)) = false := by decide)
    (he : starEach (e :: es) X.env = (false, eval e X.env) :: starEach es X.env := by rfl) (hpl : (backTo pos (starEach es X.env)).any (·.1) = false := by rfl) : QP X (.Call (.Name x p) (e :: es) [] pos) (tCB rr t) (pCallB op ma) :=
  ⟨pe_callTy hc hg hm hb ha.pa hn hdb he hpl, sim_pcallB hv ha.sim⟩
end
end L3
namespace L3
open PySem PySem.Spec PyProof.Rows L2
abbrev MT := Env → R (Bool × Env)
def SimT (K : PySem.W.Frag) (E : Str → Hp → Prop) (tt : TT) (m : MT) : Prop :=
  ∀ (c : C0) (H : Hp) (tv : List (Option V)) (td : Env) (σ : L2.St) (ρ : Env), tv.length = td.length → StR K c H (tv ++ σ) (td ++ ρ) → ∀ Q : Bool → Hp → Prop,
    Then (m ρ) (fun r => ∀ H', StR K c H' (tv ++ σ) (td ++ r.2) → Q r.1 H') (fun x => ∀ H', KeepC c H' → E x H') → tt σ H Q
structure QT (X : Cx) (E : Str → Hp → Prop) (e : Expr) (tt : TT) (m : MT) : Prop where
  pt : PT X e tt
  sim : SimT X.K E tt m
structure QW (X : Cx) (E : Str → Hp → Prop) (e : Expr) (tt : TT) (m : MT) : Prop where
  pw : PW X e tt
  sim : SimT X.K E tt m
def mTest (m : MEx) : MT := fun ρ => (m ρ).bind fun r => match r.1 with | .d (.bool b) => .ok (b, r.2) | _ => .bad
def T.truth : T → Option Bool
  | .d .none => some false
  | .d (.bool b) => some b
  | .d (.int i) => some (i != 0)
  | .d (.list ds) => some (!ds.isEmpty)
  | .d (.tuple ds) => some (!ds.isEmpty)
  | .ol ts => some (!ts.isEmpty)
  | _ => none
def mTruth (m : MP) : MT := fun ρ => match (m ρ).bind T.truth with | some b => .ok (b, ρ) | none => .bad
def mNot (m : MT) : MT := fun ρ => (m ρ).bind fun r => .ok (!r.1, r.2)
def mAnd (m n : MT) : MT := fun ρ => (m ρ).bind fun r => if r.1 = true then n r.2 else .ok (false, r.2)
def mOr (m n : MT) : MT := fun ρ => (m ρ).bind fun r => if r.1 = true then .ok (true, r.2) else n r.2
def mIf (m : MT) (a b : MEx) : MEx := fun ρ => (m ρ).bind fun r => if r.1 = true then a r.2 else b r.2
section
variable {X : Cx} {E : Str → Hp → Prop} {e a b c' : Expr} {es : List Expr} {te ta tb : TE} {tt tu : TT} {m ma mb : MEx} {mt mu : MT} {g1 g2 : Bool} {pos : Pos}
theorem sim_test {K : PySem.W.Frag} {g : Bool} (s : SimE K E g te m) : SimT K E (tTest te) (mTest m) := by
  intro c H tv td σ ρ hl st Q q
  unfold mTest at q
  rw [then_bind] at q
  refine s c H tv td σ ρ hl st _ (q.imp ?_)
  rintro ⟨t, ρ1⟩ q1 v H1 _ st1
  dsimp only at q1
  split at q1
  · obtain ⟨A, w⟩ := st1
    obtain ⟨f, w'⟩ := w.topD
    cases f
    exact ⟨_, rfl, q1 H1 ⟨A, w'⟩⟩
  · exact q1.elim
theorem qt_cmp {op : CmpOp} {r : R2} {f : T → T → R RV} (ho : OpR X (compareOp op) r) (hv : OpV X.K r f) (hx : NoX f) (ha : QE X E g1 a ta ma) (hb : QE X E g2 b tb mb) (hm : behindInMarks op b = false) : QT X E (.Compare a [op] [b] pos) (tTest (tOp r ta tb)) (mTest (mBin f ma mb)) :=
  ⟨pt_cmpR ho ha.pe hb.pe hm, sim_test (sim_bin hv hx ha.sim hb.sim)⟩
theorem qt_pcmp {op : CmpOp} {r : R2} {f : T → T → R RV} {ma mb : MP} (ho : OpR X (compareOp op) r) (hv : OpV X.K r f) (ha : QP X a ta ma) (hb : QP X b tb mb) (hm : behindInMarks op b = false) : QT X E (.Compare a [op] [b] pos) (tTest (tOp r ta tb)) (mTest (mLift (pBin f ma mb))) :=
  ⟨pt_cmpR ho ha.pe hb.pe hm, sim_test (qp_cmp (pos := pos) ho hv ha hb hm).lift.sim⟩
theorem qt_val (h : QE X E g1 e te m) (he : ∀ whole, isTrue e X.env whole = (do let v ← whole; standAt e.pos; holding [v] (truthy v)) := by intro _; rfl) : QT X E e (tTest te) (mTest m) := ⟨pt_val h.pe he, sim_test h.sim⟩
theorem sim_tnot {K : PySem.W.Frag} (s : SimT K E tt mt) : SimT K E (tNot tt) (mNot mt) := by
  intro c H tv td σ ρ hl st Q q
  unfold mNot at q
  rw [then_bind] at q
  exact s c H tv td σ ρ hl st _ (q.imp fun r q1 H1 st1 => q1 H1 st1)
theorem qt_not (h : QT X E e tt mt) : QT X E (.UnaryOp .Not e pos) (tNot tt) (mNot mt) := ⟨pt_not h.pt, sim_tnot h.sim⟩
theorem QW.qt (h : QW X E e tt mt) : QT X E e tt mt := ⟨h.pw.pt, h.sim⟩
theorem qw_or1 (h : QT X E a tt mt) : QW X E (.BoolOp .Or [a] pos) tt mt := ⟨pw_or1 h.pt, h.sim⟩
theorem sim_tor {K : PySem.W.Frag} (s : SimT K E tt mt) (s2 : SimT K E tu mu) : SimT K E (tOr tt tu) (mOr mt mu) := by
  intro c H tv td σ ρ hl st Q q
  unfold mOr at q
  rw [then_bind] at q
  refine s c H tv td σ ρ hl st _ (q.imp ?_)
  rintro ⟨k, ρ1⟩ q1 H1 st1
  cases k with
  | true => exact q1 H1 st1
  | false => exact s2 c H1 tv td σ ρ1 hl st1 Q q1
theorem qw_or {rest : List Expr} (h : QT X E a tt mt) (h2 : QW X E (.BoolOp .Or (b :: rest) pos) tu mu) : QW X E (.BoolOp .Or (a :: b :: rest) pos) (tOr tt tu) (mOr mt mu) := ⟨pw_or h.pt h2.pw, sim_tor h.sim h2.sim⟩
def mAndV (m n : MEx) : MEx := fun ρ => (mTest m ρ).bind fun r => if r.1 = true then n r.2 else .ok (.d (.bool false), r.2)
def mOrV (m n : MEx) : MEx := fun ρ => (mTest m ρ).bind fun r => if r.1 = true then .ok (.d (.bool true), r.2) else n r.2
def mNotV (m : MEx) : MEx := fun ρ => (mTest m ρ).bind fun r => .ok (.d (.bool (!r.1)), r.2)
theorem StR.pushC {K : PySem.W.Frag} {c : C0} {H : Hp} {sl : List (Option V)} {ρ : Env} {v : V} {x : PyData} (h : StR K c H sl ρ) (f : ∀ F H, Fz K F H v x) : StR K c H (some v :: sl) (some (.d x) :: ρ) := let ⟨A, w⟩ := h; ⟨A, w.pushD (f _ _)⟩
theorem StR.topB {K : PySem.W.Frag} {c : C0} {H : Hp} {sl : List (Option V)} {ρ : Env} {v : V} {b : Bool} (h : StR K c H (some v :: sl) (some (.d (.bool b)) :: ρ)) : v = .bl b ∧ StR K c H sl ρ := by
  obtain ⟨A, w⟩ := h
  obtain ⟨f, w'⟩ := w.topD
  cases f
  exact ⟨rfl, A, w'⟩
theorem sim_boolean {K : PySem.W.Frag} {g : Bool} (s : SimE K E g te m) {c : C0} {H : Hp} {tv : List (Option V)} {td : Env} {σ : L2.St} {ρ : Env} (hl : tv.length = td.length) (st : StR K c H (tv ++ σ) (td ++ ρ)) {Q : VK}
    (q : Then (mTest m ρ) (fun r => ∀ H', (g = true → Same H H') → StR K c H' (tv ++ σ) (td ++ r.2) → Q (.bl r.1) H') (fun x => ∀ H', KeepC c H' → E x H')) : te σ H Q := by
  unfold mTest at q
  rw [then_bind] at q
  refine s c H tv td σ ρ hl st _ (q.imp ?_)
  rintro ⟨t, ρ1⟩ q1 v H1 sm st1
  dsimp only at q1
  split at q1
  · obtain ⟨rfl, st2⟩ := st1.topB
    exact q1 H1 sm st2
  · exact q1.elim
theorem qe_and {rest : List Expr} (h : QE X E g1 a ta ma) (h2 : QE X E g2 (.BoolOp .And (b :: rest) pos) tb mb) : QE X E (g1 && g2) (.BoolOp .And (a :: b :: rest) pos) (tAndV ta tb) (mAndV ma mb) := by
  refine ⟨pe_and h.pe h2.pe, fun c H tv td σ ρ hl st Q q => ?_⟩
  unfold mAndV at q
  rw [then_bind] at q
  refine sim_boolean h.sim hl st (q.imp ?_)
  rintro ⟨k, ρ1⟩ q1 H1 sm st1
  refine ⟨k, rfl, ?_⟩
  cases k with
  | true => exact h2.sim c H1 tv td σ ρ1 hl st1 Q (q1.imp fun r q2 v H2 sm2 st2 => q2 v H2 (fun e => by rw [Bool.and_eq_true] at e; exact (sm e.1).trans (sm2 e.2)) st2)
  | false => exact q1 _ H1 (fun e => by rw [Bool.and_eq_true] at e; exact sm e.1) (st1.pushC fun _ _ => .bl false)
theorem qe_one {op : BoolOp} (h : QE X E g1 a ta ma) : QE X E g1 (.BoolOp op [a] pos) ta ma := ⟨pe_one h.pe, h.sim⟩
theorem qe_not (h : QE X E g1 a ta ma) : QE X E g1 (.UnaryOp .Not a pos) (tNotV ta) (mNotV ma) := by
  refine ⟨pe_not h.pe, fun c H tv td σ ρ hl st Q q => ?_⟩
  unfold mNotV at q
  rw [then_bind] at q
  refine sim_boolean h.sim hl st (q.imp ?_)
  rintro ⟨k, ρ1⟩ q1 H1 sm st1
  exact ⟨k, rfl, q1 _ H1 sm (st1.pushC fun _ _ => .bl _)⟩
def mFz (m : MEx) : MEx := fun ρ => (m ρ).bind fun r => match r.1.fz with | some x => .ok (.d x, r.2) | none => .bad
theorem StW.freezeTop {K : PySem.W.Frag} {c : C0} {H : Hp} {sl : List (Option V)} {ρ : Env} {A : List Addr} {v : V} {t : T} {x : PyData} (w : StW K c H (some v :: sl) (some t :: ρ) A) (e : t.fz = some x) : StR K c H (some v :: sl) (some (.d x) :: ρ) := by
  obtain ⟨A1, B, eA, r, s⟩ := w.top
  have hB : ∀ a, B.count a ≤ A.count a := fun a => by rw [eA, List.count_append]; omega
  have own1 : ∀ a ∈ A1, Fok c B a := fun a ha => by
    have h1 := List.count_pos_iff.mpr ha
    have h3 := w.uniq a
    rw [eA, List.count_append] at h3
    refine ⟨?_, fun z => ?_⟩
    · rcases w.own a (by rw [eA]; exact List.mem_append_left _ ha) with z | z
      · exact .inr (.inr z)
      · exact .inr (.inl z)
    · have := List.count_pos_iff.mpr z
      omega
  have f := r.freeze (fun a _ => Fok.sub hB a) own1 e
  have w' : StW K c H sl ρ B := ⟨fun a => Nat.le_trans (hB a) (w.uniq a), s.mono (.sub fun a _ => Fok.sub hB a) fun _ _ => rfl, fun a ha => w.own a (by rw [eA]; exact List.mem_append_right _ ha), w.keep⟩
  exact ⟨B, w'.pushD f⟩
theorem QE.fz (h : QE X E g1 e te m) : QE X E g1 e te (mFz m) := by
  refine ⟨h.pe, fun c H tv td σ ρ hl st Q q => ?_⟩
  unfold mFz at q
  rw [then_bind] at q
  refine h.sim c H tv td σ ρ hl st _ (q.imp ?_)
  rintro ⟨t, ρ1⟩ q1 v H1 sm st1
  dsimp only at q1
  cases e1 : t.fz with
  | none => rw [e1] at q1; exact q1.elim
  | some x =>
    rw [e1] at q1
    obtain ⟨A, w⟩ := st1
    exact q1 v H1 sm (w.freezeTop e1)
end
inductive Out where
  | next (ρ : Env) | ret (t : T) (ρ : Env) | brk (ρ : Env) | cont (ρ : Env)
abbrev MS := Env → R Out
structure SameIo (io : List Nat) (σ σ' : L2.St) : Prop where
  len : σ'.length = σ.length
  same : ∀ i ∈ io, σ'[i]? = σ[i]?
theorem SameIo.refl {io : List Nat} {σ : L2.St} : SameIo io σ σ := ⟨rfl, fun _ _ => rfl⟩
theorem SameIo.trans {io : List Nat} {σ σ1 σ2 : L2.St} (a : SameIo io σ σ1) (b : SameIo io σ1 σ2) : SameIo io σ σ2 := ⟨b.len.trans a.len, fun i h => (b.same i h).trans (a.same i h)⟩
theorem SameIo.set {io : List Nat} {σ : L2.St} {i : Nat} {o : Option V} (h : io.contains i = false) : SameIo io σ (σ.set i o) := ⟨by simp, fun j hj => by
  have e : i ≠ j := fun z => by
    subst z
    rw [List.contains_eq_mem] at h
    simp [hj] at h
  rw [List.getElem?_set_ne e]⟩
def OutTo (K : PySem.W.Frag) (c : C0) (tv : List (Option V)) (td : Env) (io : List Nat) (σ : L2.St) (D : Ends) : Out → Prop
  | .next ρ' => ∀ σ' H', SameIo io σ σ' → StR K c H' (tv ++ σ') (td ++ ρ') → D.nx σ' H'
  | .ret t ρ' => ∀ v σ' H', SameIo io σ σ' → StR K c H' (some v :: (tv ++ σ')) (some t :: (td ++ ρ')) → D.rt v H'
  | .brk ρ' => ∀ σ' H', SameIo io σ σ' → StR K c H' (tv ++ σ') (td ++ ρ') → D.bk σ' H'
  | .cont ρ' => ∀ σ' H', SameIo io σ σ' → StR K c H' (tv ++ σ') (td ++ ρ') → D.ct σ' H'
theorem OutTo.from {K : PySem.W.Frag} {c : C0} {tv : List (Option V)} {td : Env} {io : List Nat} {σ σ1 : L2.St} {D : Ends} {o : Out} (s : SameIo io σ σ1) (h : OutTo K c tv td io σ D o) : OutTo K c tv td io σ1 D o := by
  cases o with
  | next ρ => exact fun σ' H' s' st => h σ' H' (s.trans s') st
  | ret t ρ => exact fun v σ' H' s' st => h v σ' H' (s.trans s') st
  | brk ρ => exact fun σ' H' s' st => h σ' H' (s.trans s') st
  | cont ρ => exact fun σ' H' s' st => h σ' H' (s.trans s') st
def SimS (K : PySem.W.Frag) (E : Str → Hp → Prop) (io : List Nat) (ts : TS) (m : MS) : Prop :=
  ∀ (c : C0) (H : Hp) (tv : List (Option V)) (td : Env) (σ : L2.St) (ρ : Env), tv.length = td.length → StR K c H (tv ++ σ) (td ++ ρ) → ∀ D : Ends,
    Then (m ρ) (OutTo K c tv td io σ D) (fun x => ∀ H', KeepC c H' → E x H') → ts D σ H
structure QS (X : Cx) (E : Str → Hp → Prop) (io : List Nat) (s : Stmt) (ts : TS) (m : MS) : Prop where
  ps : PS X s ts
  sim : SimS X.K E io ts m
structure QSs (X : Cx) (E : Str → Hp → Prop) (io : List Nat) (s : List Stmt) (ts : TS) (m : MS) : Prop where
  ps : PSs X s ts
  sim : SimS X.K E io ts m
def SimS0 (K : PySem.W.Frag) (E : Str → Hp → Prop) (io : List Nat) (ts : TS) (m : MS) : Prop :=
  ∀ (c : C0) (H : Hp) (σ : L2.St) (ρ : Env), StR K c H σ ρ → ∀ D : Ends,
    Then (m ρ) (OutTo K c [] [] io σ D) (fun x => ∀ H', KeepC c H' → E x H') → ts D σ H
theorem SimS.z {K : PySem.W.Frag} {E : Str → Hp → Prop} {io : List Nat} {ts : TS} {m : MS} (h : SimS K E io ts m) : SimS0 K E io ts m := fun c H σ ρ st D q => h c H [] [] σ ρ rfl st D q
structure QSs0 (X : Cx) (E : Str → Hp → Prop) (io : List Nat) (s : List Stmt) (ts : TS) (m : MS) : Prop where
  ps : PSs X s ts
  sim : SimS0 X.K E io ts m
structure QS0 (X : Cx) (E : Str → Hp → Prop) (io : List Nat) (s : Stmt) (ts : TS) (m : MS) : Prop where
  ps : PS X s ts
  sim : SimS0 X.K E io ts m
theorem QSs.z {X : Cx} {E : Str → Hp → Prop} {io : List Nat} {s : List Stmt} {ts : TS} {m : MS} (h : QSs X E io s ts m) : QSs0 X E io s ts m := ⟨h.ps, h.sim.z⟩
theorem QS.z {X : Cx} {E : Str → Hp → Prop} {io : List Nat} {s : Stmt} {ts : TS} {m : MS} (h : QS X E io s ts m) : QS0 X E io s ts m := ⟨h.ps, h.sim.z⟩
def mNext : MS := fun ρ => .ok (.next ρ)
def mSeq (m n : MS) : MS := fun ρ => (m ρ).bind fun o => match o with | .next ρ1 => n ρ1 | o => .ok o
def mRet (m : MEx) : MS := fun ρ => (m ρ).bind fun r => .ok (.ret r.1 r.2)
def mDrop (m : MEx) : MS := fun ρ => (m ρ).bind fun r => .ok (.next r.2)
def mIfS (m : MT) (a b : MS) : MS := fun ρ => (m ρ).bind fun r => if r.1 = true then a r.2 else b r.2
def mBrk : MS := fun ρ => .ok (.brk ρ)
def mCont : MS := fun ρ => .ok (.cont ρ)
section
variable {X : Cx} {E : Str → Hp → Prop} {io : List Nat} {e a b c' : Expr} {st : Stmt} {rest : List Stmt} {te ta tb : TE} {tt tu : TT} {t u : TS} {m ma mb : MEx} {mt mu : MT} {ms mr : MS} {g1 g2 : Bool} {pos : Pos}
theorem sim_next {K : PySem.W.Frag} : SimS K E io tNext mNext := fun c H tv td σ ρ hl st D q => q σ H .refl st
theorem qss_nil : QSs X E io [] tNext mNext := ⟨pss_nil, sim_next⟩
theorem sim_seq {K : PySem.W.Frag} (s1 : SimS K E io t ms) (s2 : SimS K E io u mr) : SimS K E io (tSeq t u) (mSeq ms mr) := by
  intro c H tv td σ ρ hl st D q
  unfold mSeq at q
  rw [then_bind] at q
  refine s1 c H tv td σ ρ hl st { D with nx := u D } (q.imp ?_)
  intro o q1
  cases o with
  | next ρ1 => exact fun σ' H' s' st' => s2 c H' tv td σ' ρ1 hl st' D (q1.imp fun o' z => z.from s')
  | ret t ρ1 => exact q1
  | brk ρ1 => exact q1
  | cont ρ1 => exact q1
theorem qss_cons (h : QS X E io st t ms) (h2 : QSs X E io rest u mr) : QSs X E io (st :: rest) (tSeq t u) (mSeq ms mr) := ⟨pss_cons h.ps h2.ps, sim_seq h.sim h2.sim⟩
theorem qss_one (h : QS X E io st t ms) : QSs X E io [st] t ms := ⟨pss_one h.ps, h.sim⟩
theorem qs_ret (h : QE X E g1 e te m) : QS X E io (.Return (some e) pos) (tRet te) (mRet m) := by
  refine ⟨ps_ret h.pe, fun c H tv td σ ρ hl st D q => ?_⟩
  unfold mRet at q
  rw [then_bind] at q
  exact h.sim c H tv td σ ρ hl st _ (q.imp fun r q1 v H1 _ st1 => q1 v σ H1 .refl st1)
theorem qs_expr (h : QE X E g1 e te m) (hs : swapsWith e none pos.line X.env = pure false := by rfl) : QS X E io (.Expr e pos) (tDrop te) (mDrop m) := by
  refine ⟨ps_expr h.pe hs, fun c H tv td σ ρ hl st D q => ?_⟩
  unfold mDrop at q
  rw [then_bind] at q
  exact h.sim c H tv td σ ρ hl st _ (q.imp fun r q1 v H1 _ st1 => q1 σ H1 .refl st1.drop)
theorem qs_if {p q' : List Stmt} (h : QT X E c' tt mt) (h1 : QSs X E io p t ms) (h2 : QSs X E io q' u mr) : QS X E io (.If c' p q' pos) (tIfS tt t u) (mIfS mt ms mr) := by
  refine ⟨ps_if h.pt h1.ps h2.ps, fun c H tv td σ ρ hl st D q => ?_⟩
  unfold mIfS at q
  rw [then_bind] at q
  refine h.sim c H tv td σ ρ hl st _ (q.imp ?_)
  rintro ⟨k, ρ1⟩ q1 H1 st1
  cases k with
  | true => exact h1.sim c H1 tv td σ ρ1 hl st1 D q1
  | false => exact h2.sim c H1 tv td σ ρ1 hl st1 D q1
def mNever : MS := fun _ => .bad
structure SameP (pr : Nat → Bool) (σ σ' : L2.St) : Prop where
  len : σ'.length = σ.length
  same : ∀ i, pr i = true → σ'[i]? = σ[i]?
theorem SameP.refl {pr : Nat → Bool} {σ : L2.St} : SameP pr σ σ := ⟨rfl, fun _ _ => rfl⟩
theorem SameP.trans {pr : Nat → Bool} {σ σ1 σ2 : L2.St} (a : SameP pr σ σ1) (b : SameP pr σ1 σ2) : SameP pr σ σ2 := ⟨b.len.trans a.len, fun i h => (b.same i h).trans (a.same i h)⟩
theorem SameP.set {pr : Nat → Bool} {σ : L2.St} {i : Nat} {o : Option V} (h : pr i = false) : SameP pr σ (σ.set i o) := ⟨by simp, fun j hj => by
  have e : i ≠ j := fun z => by
    subst z
    rw [h] at hj
    cases hj
  rw [List.getElem?_set_ne e]⟩
abbrev inIo (io : List Nat) : Nat → Bool := fun i => io.contains i
theorem SameP.toIo {io : List Nat} {σ σ' : L2.St} (h : SameP (inIo io) σ σ') : SameIo io σ σ' := ⟨h.len, fun i hi => h.same i (by show io.contains i = true; rw [List.contains_eq_mem]; exact decide_eq_true hi)⟩
variable {pr : Nat → Bool}
abbrev MG := T → Env → Option Env
def SimG (K : PySem.W.Frag) (pr : Nat → Bool) (tg : TG) (m : MG) : Prop :=
  ∀ (c : C0) (H : Hp) (tv : List (Option V)) (td : Env) (σ : L2.St) (ρ ρ' : Env) (v : V) (t : T), tv.length = td.length → StR K c H (some v :: (tv ++ σ)) (some t :: (td ++ ρ)) → m t ρ = some ρ' → ∀ Q : L2.St → Hp → Prop,
    (∀ σ' H', SameP pr σ σ' → StR K c H' (tv ++ σ') (td ++ ρ') → Q σ' H') → tg v σ H Q
structure QG (X : Cx) (pr : Nat → Bool) (e : Expr) (tg : TG) (m : MG) : Prop where
  pg : PG X e tg
  sim : SimG X.K pr tg m
def mgName (i : Nat) : MG := fun t ρ => some (ρ.set i (some t))
theorem StR.store {K : PySem.W.Frag} {c : C0} {H : Hp} {tv : List (Option V)} {td : Env} {σ : L2.St} {ρ : Env} {v : V} {t : T} {i : Nat} (hl : tv.length = td.length) (h : StR K c H (some v :: (tv ++ σ)) (some t :: (td ++ ρ))) : StR K c H (tv ++ σ.set i (some v)) (td ++ ρ.set i (some t)) := by
  obtain ⟨A, w⟩ := h
  obtain ⟨A1, B, eA, r, s⟩ := w.top
  have hlen : (tv ++ σ).length = (td ++ ρ).length := s.len
  by_cases hi : i < σ.length
  · obtain ⟨B1, hb, ar, _⟩ := s.around (i := tv.length + i) (by rw [List.length_append]; omega)
    obtain ⟨C, s', z⟩ := ar.put (Mono.sub fun _ _ x => x) (fun _ _ => rfl) r
    rw [app_set rfl, app_set hl.symm] at s'
    refine ⟨C, w.remake (fun a => ?_) s'⟩
    rw [z a, eA, List.count_append]
    have := hb a
    omega
  · have hi2 : ¬ i < ρ.length := by
      rw [List.length_append, List.length_append] at hlen; omega
    rw [List.set_eq_of_length_le (by omega), List.set_eq_of_length_le (by omega)]
    exact ⟨B, w.remake (fun a => by rw [eA, List.count_append]; omega) s⟩
theorem sim_gname {K : PySem.W.Frag} {i : Nat} (hio : pr i = false) : SimG K pr (gName i) (mgName i) := by
  intro c H tv td σ ρ ρ' v t hl st e Q q
  cases e
  exact q _ H (.set hio) (st.store hl)
theorem qg_name {i : Nat} {x : Str} (hN : X.N.Nodup) (hi : X.N[i]? = some x := by rfl) (hx : Loc X.env.scope x := by first | exact Or.inl rfl | exact Or.inr rfl) (hio : pr i = false := by rfl) (hf : X.fn x = true ∨ X.env.scope.names.lookup x = some .local := by first | exact .inl rfl | exact .inr rfl | assumption) : QG X pr (.Name x pos) (gName i) (mgName i) :=
  ⟨pg_name hN hi hx hf, sim_gname hio⟩
def mAsg (m : MEx) (g : MG) : MS := fun ρ => (m ρ).bind fun r => (ofO (g r.1 r.2)).bind fun ρ' => .ok (.next ρ')
theorem sim_asg {K : PySem.W.Frag} {g : TG} {mg : MG} (s : SimE K E g1 te m) (sg : SimG K (inIo io) g mg) : SimS K E io (tAsg te g) (mAsg m mg) := by
  intro c H tv td σ ρ hl st D q
  unfold mAsg at q
  rw [then_bind] at q
  refine s c H tv td σ ρ hl st _ (q.imp ?_)
  intro r q1 v H1 _ st1
  obtain ⟨ρ', e, q2⟩ := then_ofO.mp (then_bind.mp q1)
  exact sg c H1 tv td σ r.2 ρ' v r.1 hl st1 e _ fun σ' H' s st' => q2 σ' H' s.toIo st'
theorem qs_set {i : Nat} {x : Str} {pos' : Pos} (hN : X.N.Nodup) (he : QE X E g1 e te m) (hi : X.N[i]? = some x := by rfl) (hx : Loc X.env.scope x := by first | exact Or.inl rfl | exact Or.inr rfl) (hs : swapsWith e (some (.Name x pos')) pos.line X.env = pure false := by rfl) (hio : inIo io i = false := by rfl)
    (hf : X.fn x = true ∨ X.env.scope.names.lookup x = some .local := by first | exact .inl rfl | exact .inr rfl | assumption) : QS X E io (.Assign [.Name x pos'] e pos) (tAsg te (gName i)) (mAsg m (mgName i)) := ⟨ps_set hN hi hx he.pe hs hf, sim_asg he.sim (sim_gname hio)⟩
theorem qs_asg {tg : Expr} {g : TG} {mg : MG} (he : QE X E g1 e te m) (hg : QG X (inIo io) tg g mg) (hs : swapsWithSole [tg] e pos.line X.env = pure false := by rfl) (hw : swappedStores [tg] e X.env = pure none := by rfl)
    (h1 : (assignEach [tg] X.env).map (·.2) = [assign tg X.env] := by rfl) : QS X E io (.Assign [tg] e pos) (tAsg te g) (mAsg m mg) := ⟨ps_asg he.pe hg.pg hs hw h1, sim_asg he.sim hg.sim⟩
abbrev MGs := List T → Env → Option Env
def SimGs (K : PySem.W.Frag) (pr : Nat → Bool) (tg : TGs) (m : MGs) : Prop :=
  ∀ (c : C0) (H : Hp) (tv : List (Option V)) (td : Env) (σ : L2.St) (ρ ρ' : Env) (vs : List V) (ts : List T), tv.length = td.length → vs.length = ts.length → StR K c H (vs.map some ++ (tv ++ σ)) (ts.map some ++ (td ++ ρ)) → m ts ρ = some ρ' → ∀ Q : L2.St → Hp → Prop,
    (∀ σ' H', SameP pr σ σ' → StR K c H' (tv ++ σ') (td ++ ρ') → Q σ' H') → tg vs σ H Q
structure QGs (X : Cx) (pr : Nat → Bool) (es : List Expr) (tg : TGs) (m : MGs) : Prop where
  pg : PGs X es tg
  sim : SimGs X.K pr tg m
def mgNil : MGs := fun ts ρ => if ts.isEmpty then some ρ else none
def mgCons (g : MG) (r : MGs) : MGs := fun ts ρ => match ts with | t :: ts => (g t ρ).bind fun ρ1 => r ts ρ1 | [] => none
theorem qgs_nil : QGs X pr [] gNil mgNil := by
  refine ⟨pgs_nil, fun c H tv td σ ρ ρ' vs ts hl hv st e Q q => ?_⟩
  unfold mgNil at e
  cases ts with
  | nil =>
    cases vs with
    | nil => cases e; exact ⟨rfl, q σ H .refl st⟩
    | cons _ _ => simp at hv
  | cons _ _ => cases e
theorem qgs_cons {es : List Expr} {tg : TG} {tgs : TGs} {g : MG} {r : MGs} (h : QG X pr e tg g) (h2 : QGs X pr es tgs r) (hs : (assignEach (e :: es) X.env).map (·.2) = assign e X.env :: (assignEach es X.env).map (·.2) := by rfl) : QGs X pr (e :: es) (gCons tg tgs) (mgCons g r) := by
  refine ⟨pgs_cons h.pg h2.pg hs, fun c H tv td σ ρ ρ' vs ts hl hv st e Q q => ?_⟩
  cases ts with
  | nil => cases e
  | cons t ts =>
    cases vs with
    | nil => simp at hv
    | cons v vs =>
      obtain ⟨ρ1, e1, e2⟩ := Option.bind_eq_some_iff.mp e
      have hv' : vs.length = ts.length := by simpa using hv
      refine ⟨v, vs, rfl, ?_⟩
      refine h.sim c H (vs.map some ++ tv) (ts.map some ++ td) σ ρ ρ1 v t (by simp [hl, hv']) (by simpa using st) e1 _ fun σ1 H1 s1 st1 => ?_
      exact h2.sim c H1 tv td σ1 ρ1 ρ' vs ts hl hv' (by simpa using st1) e2 Q fun σ2 H2 s2 st2 => q σ2 H2 (s1.trans s2) st2
def T.parts : T → Option (List T)
  | .d (.tuple ds) => some (ds.map T.d)
  | .ot ts => some ts
  | _ => none
def mgTup (n : Nat) (r : MGs) : MG := fun t ρ => match t.parts with | some ts => if ts.length = n then r ts ρ else none | none => none
section
variable {K : PySem.W.Frag} {F : Addr → Prop} {H : Hp}
theorem Sl.many : ∀ {vs : List V} {ts : List T} {A B : List Addr} {sl : List (Option V)} {ρ : Env}, RpAll K F H vs ts A → Sl K F H sl ρ B → Sl K F H (vs.map some ++ sl) (ts.map some ++ ρ) (A ++ B)
  | _, _, _, _, _, _, .nil, s => s
  | _, _, _, _, _, _, .cons x r, s => by
    rw [List.append_assoc]
    exact .cons x (Sl.many r s)
theorem Rp.parts {v : V} {t : T} {ts : List T} {A : List Addr} (h : Rp K F H v t A) (e : t.parts = some ts) : ∃ a vs, v = .ref a ∧ SqT K H a vs ∧ RpAll K F H vs ts A := by
  unfold T.parts at e
  split at e
  · cases e
    cases h with
    | d h =>
      cases h with
      | tup h f => exact ⟨_, _, rfl, h, RpAll.ofFz f⟩
  · cases e
    cases h with
    | ot h r => exact ⟨_, _, rfl, .of h, r⟩
  · cases e
end
theorem qg_tup {es : List Expr} {k : Nat} {tgs : TGs} {r : MGs} (hc : X.calm = true) (h : QGs X pr es tgs r) {n : Nat} (hn : (assignEach es X.env).length = n := by rfl) (hst : (assignEach es X.env).findIdx? (·.1) = none := by rfl) : QG X pr (.Tuple es k pos) (gTup X.K n tgs) (mgTup n r) := by
  refine ⟨pg_tup hc h.pg hn hst, fun c H tv td σ ρ ρ' v t hl st e Q q => ?_⟩
  unfold mgTup at e
  cases ep : t.parts with
  | none => rw [ep] at e; cases e
  | some ts =>
    rw [ep] at e
    dsimp only at e
    split at e
    · rename_i hlen
      obtain ⟨A, w⟩ := st
      obtain ⟨A1, B, eA, x, s⟩ := w.top
      obtain ⟨a, vs, rfl, hq, ra⟩ := x.parts ep
      have hvt := ra.len
      refine ⟨a, vs, rfl, hq, by omega, ?_⟩
      exact h.sim c H tv td σ ρ ρ' vs ts hl hvt ⟨A1 ++ B, w.remake (fun b => by rw [eA]; exact Nat.le_refl _) (Sl.many ra s)⟩ e Q q
    · cases e
end
end L3
namespace L3
open PySem PySem.Spec PyProof.Rows L2
section
variable {K : PySem.W.Frag} {F F' : Addr → Prop} {H H' : Hp}
theorem Sl.raiseO : ∀ {xs : List (Option V)} {as : Env} {ys : List (Option V)} {bs : Env} {v : Option V} {t : Option T} {A : List Addr}, xs.length = as.length → Sl K F H (xs ++ v :: ys) (as ++ t :: bs) A →
    ∃ C, Sl K F H (v :: (xs ++ ys)) (t :: (as ++ bs)) C ∧ ∀ a, C.count a = A.count a
  | [], [], _, _, _, _, A, _, h => ⟨A, h, fun _ => rfl⟩
  | o :: xs, a :: as, ys, bs, v, t, _, hl, h => by
    have hl' : xs.length = as.length := by simpa using hl
    cases h with
    | skip r =>
      obtain ⟨C, s, z⟩ := r.raiseO hl'
      cases s with
      | cons x s => exact ⟨_, .cons x (.skip s), z⟩
      | skip s => exact ⟨_, .skip (.skip s), z⟩
    | cons y r =>
      rename_i u t0 A1 B1
      obtain ⟨C, s, z⟩ := r.raiseO hl'
      cases s with
      | cons x s =>
        rename_i A2 B2
        exact ⟨_, .cons x (.cons y s), fun a => by have := z a; simp only [List.count_append] at this ⊢; omega⟩
      | skip s => exact ⟨_, .skip (.cons y s), fun a => by have := z a; simp only [List.count_append] at this ⊢; omega⟩
  | [], _ :: _, _, _, _, _, _, hl, _ => by simp at hl
  | _ :: _, [], _, _, _, _, _, hl, _ => by simp at hl
end
def sel (io : List Nat) (vs : List V) : List V := io.filterMap fun i => vs[i]?
structure KeepF (H H' : Hp) (A : List Addr) : Prop where
  keep : ∀ a o, H a = some o → a ∉ A → H' a = some o
  there : ∀ a, H' a = none → H a = none
def EX (cl : Str → Option Addr) (E : XK) : Str → Hp → Prop := fun x H' => ∀ C, cl x = some C → E (.ref C) none H'
def spT (K : PySem.W.Frag) (rz : Bool) (cl : Str → Option Addr) (n : Nat) (io : List Nat) (m : List T → R (T × List T)) : Sp := fun vs H Q E => ∃ (ts : List T) (F : Addr → Prop) (A : List Addr), vs.length = n ∧ (∀ a, A.count a ≤ 1) ∧ RpAll K (fun a => F a ∧ a ∉ A) H vs ts A ∧
  Then (m ts) (fun r => ∀ v H' A', (∀ a, A'.count a ≤ 1) → (∀ a ∈ A', a ∈ A ∨ H a = none) → KeepF H H' A → (io = [] → A = [] → Same H H') → RpAll K (fun a => (F a ∨ H a = none ∨ a ∈ A) ∧ a ∉ A') H' (v :: sel io vs) (r.1 :: r.2) A' → Q v H') (fun x => rz = true ∧ ∀ H', KeepF H H' A → EX cl E x H')
def outs : List Nat → Env → R (List T)
  | [], _ => .ok []
  | i :: r, ρ => match ρ[i]? with
    | some (some t) => (outs r ρ).bind fun os => .ok (t :: os)
    | _ => .bad
def mFn (io : List Nat) (k : Nat) (ms : MS) : List T → R (T × List T) := fun ts => (ms (ts.map some ++ List.replicate k none)).bind fun o => match o with
  | .ret t ρ => (outs io ρ).bind fun os => .ok (t, os)
  | .next ρ => (outs io ρ).bind fun os => .ok (.d .none, os)
  | _ => .bad
section
variable {K : PySem.W.Frag} {F F' : Addr → Prop} {H H' : Hp}
theorem outs_cons {i : Nat} {r : List Nat} {ρ : Env} {os : List T} (e : outs (i :: r) ρ = .ok os) : ∃ t os', ρ[i]? = some (some t) ∧ outs r ρ = .ok os' ∧ os = t :: os' := by
  unfold outs at e
  split at e
  · rename_i t e0
    cases e1 : outs r ρ with
    | ok os' => rw [e1] at e; cases e; exact ⟨t, os', e0, rfl, rfl⟩
    | exc _ => rw [e1] at e; cases e
    | bad => rw [e1] at e; cases e
  · cases e
theorem outs_gone {i : Nat} : ∀ {r : List Nat} {ρ : Env} {os : List T}, i ∉ r → outs r ρ = .ok os → outs r (ρ.set i none) = .ok os
  | [], _, _, _, e => e
  | j :: r, ρ, os, h, e => by
    obtain ⟨t, os', e1, e2, rfl⟩ := outs_cons e
    have hj : i ≠ j := fun z => h (by rw [z]; exact List.mem_cons_self)
    have e3 := outs_gone (fun z => h (List.mem_cons_of_mem _ z)) e2
    unfold outs
    rw [List.getElem?_set_ne hj, e1]
    dsimp only
    rw [e3]
    rfl
theorem Sl.pick {us : List V} : ∀ {io : List Nat} {sl : List (Option V)} {ρ : Env} {A : List Addr} {os : List T}, io.Nodup → (∀ i ∈ io, ∃ v, us[i]? = some v ∧ sl[i]? = some (some v)) → Sl K F H sl ρ A → outs io ρ = .ok os →
    ∃ A1 B, RpAll K F H (sel io us) os A1 ∧ ∀ a, A1.count a + List.count a B = A.count a
  | [], _, _, A, _, _, _, s, e => by cases e; exact ⟨[], A, .nil, fun a => by simp⟩
  | i :: io, sl, ρ, A, os, nd, hv, s, e => by
    obtain ⟨t, os', e1, e2, rfl⟩ := outs_cons e
    obtain ⟨v, hv1, hv2⟩ := hv i List.mem_cons_self
    have hi : i < sl.length := (List.getElem?_eq_some_iff.mp hv2).1
    obtain ⟨B, hb, ar, get⟩ := s.around hi
    obtain ⟨v', A1, e3, x, hc⟩ := get t e1
    have ev : v' = v := by rw [hv2] at e3; cases e3; rfl
    subst ev
    obtain ⟨C, s', z⟩ := ar.gone (some v')
    have hnd := List.nodup_cons.mp nd
    rw [set_self hv2] at s'
    obtain ⟨A2, B2, ra, hc2⟩ := Sl.pick (us := us) hnd.2 (fun j hj => hv j (List.mem_cons_of_mem _ hj)) s' (outs_gone hnd.1 e2)
    refine ⟨A1 ++ A2, B2, ?_, fun a => ?_⟩
    · have : sel (i :: io) us = v' :: sel io us := by unfold sel; rw [List.filterMap_cons, hv1]
      rw [this]
      exact .cons x ra
    · have h1 := hc a
      have h2 := hc2 a
      have h3 := z a
      rw [List.count_append]
      omega
theorem Sl.nones : ∀ (k : Nat) (sl : List (Option V)), sl.length = k → Sl K F H sl (List.replicate k none) []
  | 0, [], _ => .nil
  | k + 1, o :: sl, h => by
    rw [List.replicate_succ]
    exact .skip (Sl.nones k sl (by simpa using h))
  | 0, _ :: _, h => by simp at h
  | _ + 1, [], h => by simp at h
theorem start_eq (N : List Str) (vs : List V) : start N vs = vs.map some ++ List.replicate (N.length - vs.length) none := rfl
theorem body_run {E : Str → Hp → Prop} {io : List Nat} {tb : TS} {ms : MS} {cl : Str → Option Addr} {N : List Str} {vs : List V} {Q : VK} {Ek : XK} {rz : Bool} {n : Nat} (sm : SimS0 K E io tb ms) (hE : ∀ x H', EX cl Ek x H' → E x H') (hnd : io.Nodup) (hio : ∀ i ∈ io, i < n)
    (h : spT K rz cl n io (mFn io (N.length - n) ms) vs H Q Ek) : tb { nx := fun _ H' => Q .non H', rt := Q } (start N vs) H := by
  obtain ⟨ts, F, A, hn, u, ra, q⟩ := h
  have hts := ra.len
  unfold mFn at q
  rw [then_bind] at q
  have c0 : Sl K (Fok ⟨H, A, F⟩ A) H (start N vs) (ts.map some ++ List.replicate (N.length - n) none) A := by
    rw [start_eq, hn]
    have r2 : RpAll K (Fok ⟨H, A, F⟩ A) H vs ts A := ra.mono (.sub fun a _ ⟨x, y⟩ => ⟨.inl x, y⟩) fun _ _ => rfl
    have := Sl.many r2 (Sl.nones (N.length - n) (List.replicate (N.length - n) none) (by simp))
    rwa [List.append_nil] at this
  have w0 : StW K ⟨H, A, F⟩ H (start N vs) (ts.map some ++ List.replicate (N.length - n) none) A := ⟨u, c0, fun a ha => .inl ha, ⟨fun _ _ e _ => e, fun _ e => e⟩⟩
  refine sm ⟨H, A, F⟩ H (start N vs) _ ⟨A, w0⟩ _ (q.mono ?_ fun x k H' kc => hE _ _ (k.2 H' ⟨kc.keep, kc.there⟩))
  have pickS : ∀ {σ' : L2.St} {H' : Hp} {ρ' : Env} {os : List T} {B : List Addr} {F1 : Addr → Prop}, SameIo io (start N vs) σ' → Sl K F1 H' σ' ρ' B → outs io ρ' = .ok os → ∃ A1 B1, RpAll K F1 H' (sel io vs) os A1 ∧ ∀ a, A1.count a + List.count a B1 = B.count a := by
    intro σ' H' ρ' os B F1 s' sl eo
    refine Sl.pick hnd (fun i hi => ?_) sl eo
    have h1 : i < vs.length := by have := hio i hi; omega
    refine ⟨vs[i], List.getElem?_eq_getElem h1, ?_⟩
    rw [s'.same i hi, start_eq, List.getElem?_append_left (by simpa using h1), List.getElem?_map, List.getElem?_eq_getElem h1]
    rfl
  have fin : ∀ {v : V} {t : T} {σ' : L2.St} {H' : Hp} {ρ' : Env} {os : List T}, SameIo io (start N vs) σ' → StR K ⟨H, A, F⟩ H' (some v :: σ') (some t :: ρ') → outs io ρ' = .ok os →
      (∀ v H' A', (∀ a, A'.count a ≤ 1) → (∀ a ∈ A', a ∈ A ∨ H a = none) → KeepF H H' A → (io = [] → A = [] → Same H H') → RpAll K (fun a => (F a ∨ H a = none ∨ a ∈ A) ∧ a ∉ A') H' (v :: sel io vs) (t :: os) A' → Q v H') → Q v H' := by
    intro v t σ' H' ρ' os s' st eo k
    obtain ⟨A2, w⟩ := st
    obtain ⟨A3, B, eA, x, s⟩ := w.top
    obtain ⟨A4, B4, rr, hc⟩ := pickS s' s eo
    have hle : ∀ a, (A3 ++ A4).count a ≤ A2.count a := fun a => by rw [eA, List.count_append, List.count_append]; have := hc a; omega
    refine k v H' (A3 ++ A4) (fun a => Nat.le_trans (hle a) (w.uniq a)) (fun a ha => ?_) ⟨w.keep.keep, w.keep.there⟩ (fun _ eA0 a o e => w.keep.keep a o e (by rw [eA0]; simp)) ?_
    · exact w.own a (List.count_pos_iff.mp (Nat.lt_of_lt_of_le (List.count_pos_iff.mpr ha) (hle a)))
    · exact (RpAll.cons x rr).mono (.sub fun a _ => Fok.sub hle a) fun _ _ => rfl
  intro o qo
  cases o with
  | ret t ρ' =>
    intro v σ' H' s' st
    cases eo : outs io ρ' with
    | ok os =>
      have qo' : Then ((outs io ρ').bind fun os => R.ok (t, os)) _ _ := qo
      rw [eo] at qo'
      exact fin s' st eo qo'
    | exc _ => have qo' : Then ((outs io ρ').bind fun os => R.ok (t, os)) _ _ := qo; rw [eo] at qo'; exact (outs_noexc eo).elim
    | bad => have qo' : Then ((outs io ρ').bind fun os => R.ok (t, os)) _ _ := qo; rw [eo] at qo'; exact qo'.elim
  | next ρ' =>
    intro σ' H' s' st
    have st2 : StR K ⟨H, A, F⟩ H' (some .non :: σ') (some (.d .none) :: ρ') := st.pushC fun _ _ => .non
    cases eo : outs io ρ' with
    | ok os =>
      have qo' : Then ((outs io ρ').bind fun os => R.ok (T.d .none, os)) _ _ := qo
      rw [eo] at qo'
      exact fin s' st2 eo qo'
    | exc _ => have qo' : Then ((outs io ρ').bind fun os => R.ok (T.d .none, os)) _ _ := qo; rw [eo] at qo'; exact (outs_noexc eo).elim
    | bad => have qo' : Then ((outs io ρ').bind fun os => R.ok (T.d .none, os)) _ _ := qo; rw [eo] at qo'; exact qo'.elim
  | brk ρ' => exact qo.elim
  | cont ρ' => exact qo.elim
where
  outs_noexc {io : List Nat} {ρ : Env} {x : Str} (e : outs io ρ = .exc x) : False := by
    induction io with
    | nil => cases e
    | cons i r ih =>
      unfold outs at e
      split at e
      · cases e1 : outs r ρ with
        | ok os => rw [e1] at e; cases e
        | exc y => rw [e1] at e; cases e; exact ih e1
        | bad => rw [e1] at e; cases e
      · cases e
end
section
variable {P : Program} {w : World} {K : PySem.W.Frag} {mg : Str → Option Value} {base : Heap} {cl : Str → Option Addr}
theorem fnT {x qual : Str} {st : Stmt} {f : Addr} {fd : FuncData} {N ps : List Str} {k : Nat} {io : List Nat} {ms : MS} (Fu : Fun K x qual st f fd) (S : FnScope N ps (defScope st)) (hnd : io.Nodup) (hio : ∀ i ∈ io, i < ps.length)
    (body : ∀ (cdv : Value) (A : Around) (outer : List PySem.Env) (s : Shared) (H : Hp) (E : XK), Room k (A.deeper (envOfC qual (defScope st) s.heap.objs.size f cdv)) →
      ∃ t, QSs ((cxOf CX0 P w K mg base N qual (defScope st) f cdv A outer s H E).nox) (EX cl E0) io (defBody st) t ms) : FnOk P w K mg base CX0 (k + 1) f fd ps (spT K false cl ps.length io (mFn io (N.length - ps.length) ms)) := by
  refine Fu.ok S (fun vs H Q E h => by obtain ⟨_, _, _, h, _⟩ := h; exact h) fun cdv A outer s H vs Q E hr h => ?_
  obtain ⟨t, b⟩ := body cdv A outer s H E hr
  refine ⟨t, b.ps, ?_⟩
  obtain ⟨ts, F, A1, h1, h2, h3, h4⟩ := h
  exact body_run (Ek := E0) (rz := false) b.sim.z (fun _ _ z => z) hnd hio ⟨ts, F, A1, h1, h2, h3, h4.mono (fun _ z => z) fun _ z => by cases z.1⟩
end
abbrev MB := Env → R (List (Option T) × Env)
def SimB (K : PySem.W.Frag) (E : Str → Hp → Prop) (gr : Bool) (ks : List (Option Nat)) (ta : TA) (m : MB) : Prop :=
  ∀ (c : C0) (H : Hp) (tv : List (Option V)) (td : Env) (σ : L2.St) (ρ : Env), tv.length = td.length → StR K c H (tv ++ σ) (td ++ ρ) → ∀ Q : List V → Hp → Prop,
    Then (m ρ) (fun r => ∀ vs H', (gr = true → Same H H') → vs.length = r.1.length → (∀ (j i : Nat), ks[j]? = some (some i) → ∃ v, vs[j]? = some v ∧ σ[i]? = some (some v)) → StR K c H' (vs.map some ++ (tv ++ σ)) (r.1 ++ (td ++ r.2)) → Q vs H') (fun x => ∀ H', KeepC c H' → E x H') → ta σ H Q
structure QB (X : Cx) (E : Str → Hp → Prop) (gr : Bool) (ks : List (Option Nat)) (es : List Expr) (ta : TA) (m : MB) : Prop where
  pa : PA X es ta
  sim : SimB X.K E gr ks ta m
def mbNil : MB := fun ρ => .ok ([], ρ)
def mbCons (m : MEx) (r : MB) : MB := fun ρ => (m ρ).bind fun x => (r x.2).bind fun y => .ok (some x.1 :: y.1, y.2)
def mbIo (i : Nat) (r : MB) : MB := fun ρ => match ρ[i]? with | some (some _) => (r ρ).bind fun y => .ok (none :: y.1, y.2) | _ => .bad
theorem StR.raiseO {K : PySem.W.Frag} {c : C0} {H : Hp} {xs : List (Option V)} {as : Env} {ys : List (Option V)} {bs : Env} {v : Option V} {t : Option T} (hl : xs.length = as.length) (h : StR K c H (xs ++ v :: ys) (as ++ t :: bs)) : StR K c H (v :: (xs ++ ys)) (t :: (as ++ bs)) := by
  obtain ⟨A, w⟩ := h
  obtain ⟨C, s, z⟩ := w.slots.raiseO hl
  exact ⟨C, w.remake (fun a => Nat.le_of_eq (z a)) s⟩
section
variable {X : Cx} {E : Str → Hp → Prop} {e : Expr} {es : List Expr} {te : TE} {t : TA} {m : MEx} {r : MB} {ks : List (Option Nat)} {g1 g2 : Bool} {pos : Pos}
theorem qb_nil : QB X E true [] [] tNil mbNil := ⟨pa_nil, fun c H tv td σ ρ hl st Q q => q [] H (fun _ => Same.refl H) rfl (fun _ _ z => by simp at z) st⟩
theorem qb_cons (h : QE X E g1 e te m) (hr : QB X E g2 ks es t r) (hs : starEach (e :: es) X.env = (false, eval e X.env) :: starEach es X.env := by rfl) : QB X E (g1 && g2) (none :: ks) (e :: es) (tCons te t) (mbCons m r) := by
  refine ⟨pa_cons h.pe hr.pa hs, fun c H tv td σ ρ hl st Q q => ?_⟩
  unfold mbCons at q
  rw [then_bind] at q
  refine h.sim c H tv td σ ρ hl st _ (q.imp ?_)
  intro x q1 v H1 sm1 st1
  rw [then_bind] at q1
  refine hr.sim c H1 (some v :: tv) (some x.1 :: td) σ x.2 (by simp [hl]) st1 _ (q1.imp ?_)
  intro y q2 vs H2 sm2 hvs hk st2
  refine q2 (v :: vs) H2 (fun e => by rw [Bool.and_eq_true] at e; exact (sm1 e.1).trans (sm2 e.2)) (by simp [hvs]) (fun j i z => ?_) ?_
  · cases j with
    | zero => simp at z
    | succ j => exact hk j i (by simpa using z)
  · exact StR.raiseO (xs := vs.map some) (as := y.1) (by simp [hvs]) st2
end
def fillIo : List (Option Nat) → List (Option T) → Env → Option (List T × Env)
  | [], [], ρ => some ([], ρ)
  | none :: ks, some t :: ts, ρ => (fillIo ks ts ρ).map fun r => (t :: r.1, r.2)
  | some i :: ks, none :: ts, ρ => match ρ[i]? with
    | some (some t) => (fillIo ks ts (ρ.set i none)).map fun r => (t :: r.1, r.2)
    | _ => none
  | _, _, _ => none
def putIo : List Nat → List T → Env → Option Env
  | [], [], ρ => some ρ
  | i :: is, t :: ts, ρ => putIo is ts (ρ.set i (some t))
  | _, _, _ => none
def R.nx {α : Type} : R α → R α
  | .exc _ => .bad
  | r => r
section
variable {K : PySem.W.Frag} {F F' : Addr → Prop} {H H' : Hp}
theorem Sl.fill {tv : List (Option V)} {td : Env} {σ : L2.St} (hl : tv.length = td.length) : ∀ {ks : List (Option Nat)} {vs : List V} {os : List (Option T)} {ρ ρ2 : Env} {ts : List T} {A : List Addr}, vs.length = os.length →
    (∀ (j i : Nat), ks[j]? = some (some i) → ∃ v, vs[j]? = some v ∧ σ[i]? = some (some v)) → Sl K F H (vs.map some ++ (tv ++ σ)) (os ++ (td ++ ρ)) A → fillIo ks os ρ = some (ts, ρ2) →
    ∃ A1 B, RpAll K F H vs ts A1 ∧ Sl K F H (tv ++ σ) (td ++ ρ2) B ∧ ∀ a, A1.count a + B.count a = A.count a
  | [], [], [], ρ, ρ2, ts, A, _, _, s, e => by
    cases e
    exact ⟨[], A, .nil, s, fun a => by simp⟩
  | none :: ks, v :: vs, some t :: os, ρ, ρ2, ts, A, hv, hk, s, e => by
    unfold fillIo at e
    obtain ⟨r, e1, e2⟩ := Option.map_eq_some_iff.mp e
    cases e2
    cases s with
    | cons x s =>
      rename_i A0 B0
      obtain ⟨A1, B, ra, s', hc⟩ := Sl.fill hl (by simpa using hv) (fun j i z => hk (j + 1) i (by simpa using z)) s e1
      exact ⟨A0 ++ A1, B, .cons x ra, s', fun a => by have := hc a; rw [List.count_append, List.count_append]; omega⟩
  | some i :: ks, v :: vs, none :: os, ρ, ρ2, ts, A, hv, hk, s, e => by
    unfold fillIo at e
    split at e
    · rename_i t e0
      obtain ⟨r, e1, e2⟩ := Option.map_eq_some_iff.mp e
      cases e2
      obtain ⟨v', h1, h2⟩ := hk 0 i rfl
      have ev : v = v' := by simpa using h1
      subst ev
      cases s with
      | skip s0 =>
        have s : Sl K F H (vs.map some ++ (tv ++ σ)) (os ++ (td ++ ρ)) A := s0
        have hv' : vs.length = os.length := by simpa using hv
        have hlen := s.len
        have hi : i < σ.length := (List.getElem?_eq_some_iff.mp h2).1
        obtain ⟨B0, hb, ar, get⟩ := s.around (i := vs.length + (tv.length + i)) (by simp only [List.length_append, List.length_map]; omega)
        have e3 : (os ++ (td ++ ρ))[vs.length + (tv.length + i)]? = some (some t) := by rw [app_at hv'.symm, app_at hl.symm, e0]
        obtain ⟨v2, A2, e4, x, hc⟩ := get t e3
        have e5 : (vs.map some ++ (tv ++ σ))[vs.length + (tv.length + i)]? = some (some v) := by rw [app_at (by simp), app_at rfl, h2]
        have : v2 = v := by rw [e4] at e5; cases e5; rfl
        subst this
        obtain ⟨C, s', z⟩ := ar.gone (some v2)
        rw [app_set (by simp), app_set rfl, set_self h2, app_set hv'.symm, app_set hl.symm] at s'
        obtain ⟨A1, B, ra, s2, hc2⟩ := Sl.fill hl hv' (fun j i z => hk (j + 1) i (by simpa using z)) s' e1
        exact ⟨A2 ++ A1, B, .cons x ra, s2, fun a => by have := hc a; have := hc2 a; have := z a; rw [List.count_append]; omega⟩
    · cases e
  | [], _ :: _, some _ :: _, _, _, _, _, hv, _, _, e => by cases e
  | [], _ :: _, none :: _, _, _, _, _, hv, _, _, e => by cases e
  | [], _ :: _, [], _, _, _, _, hv, _, _, e => by simp at hv
  | [], [], _ :: _, _, _, _, _, hv, _, _, e => by simp at hv
  | none :: _, [], [], _, _, _, _, _, hk, _, e => by cases e
  | some _ :: _, [], [], _, _, _, _, _, hk, _, e => by cases e
  | _ :: _, [], _ :: _, _, _, _, _, hv, _, _, e => by simp at hv
  | _ :: _, _ :: _, [], _, _, _, _, hv, _, _, e => by simp at hv
  | none :: _, _ :: _, none :: _, _, _, _, _, hv, _, _, e => by cases e
  | some _ :: _, _ :: _, some _ :: _, _, _, _, _, hv, _, _, e => by cases e
theorem Sl.putIo {tv : List (Option V)} {td : Env} {σ : L2.St} (hl : tv.length = td.length) : ∀ {is : List Nat} {us : List V} {os : List T} {ρ ρ2 : Env} {A B : List Addr}, RpAll K F H us os A → (∀ (j i : Nat), is[j]? = some i → ∃ v, us[j]? = some v ∧ σ[i]? = some (some v)) → us.length = is.length →
    Sl K F H (tv ++ σ) (td ++ ρ) B → L3.putIo is os ρ = some ρ2 → ∃ C, Sl K F H (tv ++ σ) (td ++ ρ2) C ∧ ∀ a, C.count a ≤ A.count a + B.count a
  | [], _, [], ρ, ρ2, A, B, ra, _, _, s, e => by
    cases e
    exact ⟨B, s, fun a => by omega⟩
  | i :: is, u :: us, o :: os, ρ, ρ2, _, B, ra, hk, hz, s, e => by
    cases ra with
    | cons x r =>
    rename_i A1 A2
    have e' : L3.putIo is os (ρ.set i (some o)) = some ρ2 := e
    obtain ⟨v, h1, h2⟩ := hk 0 i rfl
    have ev : u = v := by simpa using h1
    subst ev
    have hlen := s.len
    have hi : i < σ.length := (List.getElem?_eq_some_iff.mp h2).1
    obtain ⟨B0, hb, ar, _⟩ := s.around (i := tv.length + i) (by rw [List.length_append]; omega)
    obtain ⟨C, s', z⟩ := ar.put (Mono.sub fun _ _ x => x) (fun _ _ => rfl) x
    rw [app_set rfl, set_self h2, app_set hl.symm] at s'
    obtain ⟨C2, s2, z2⟩ := Sl.putIo hl r (fun j i z => hk (j + 1) i (by simpa using z)) (by simpa using hz) s' e'
    exact ⟨C2, s2, fun a => by have := z2 a; have := z a; have := hb a; rw [List.count_append]; omega⟩
  | _ :: _, [], _, _, _, _, _, _, _, hz, _, _ => by simp at hz
  | _ :: _, _ :: _, [], _, _, _, _, _, _, _, _, e => by cases e
  | [], _, _ :: _, _, _, _, _, _, _, _, _, e => by cases e
end
def posOf : List (Option Nat) → Nat → List Nat
  | [], _ => []
  | some _ :: r, n => n :: posOf r (n + 1)
  | none :: r, n => posOf r (n + 1)
theorem posOf_at {σ : L2.St} {vs0 : List V} : ∀ {ks : List (Option Nat)} {n : Nat}, (∀ (j i : Nat), ks[j]? = some (some i) → ∃ v, vs0[n + j]? = some v ∧ σ[i]? = some (some v)) →
    (sel (posOf ks n) vs0).length = (ks.filterMap id).length ∧ ∀ (j i : Nat), (ks.filterMap id)[j]? = some i → ∃ v, (sel (posOf ks n) vs0)[j]? = some v ∧ σ[i]? = some (some v)
  | [], n, _ => ⟨rfl, fun j i z => by simp at z⟩
  | none :: r, n, h => posOf_at (ks := r) (n := n + 1) fun j i z => by
      have := h (j + 1) i (by simpa using z)
      rwa [show n + (j + 1) = n + 1 + j by omega] at this
  | some i0 :: r, n, h => by
    obtain ⟨v, h1, h2⟩ := h 0 i0 rfl
    obtain ⟨a, b⟩ := posOf_at (ks := r) (n := n + 1) fun j i z => by
      have := h (j + 1) i (by simpa using z)
      rwa [show n + (j + 1) = n + 1 + j by omega] at this
    have e : sel (posOf (some i0 :: r) n) vs0 = v :: sel (posOf r (n + 1)) vs0 := by
      show List.filterMap _ (n :: posOf r (n + 1)) = _
      rw [List.filterMap_cons, show vs0[n]? = some v by simpa using h1]
      rfl
    rw [e]
    refine ⟨by simp [a], fun j i z => ?_⟩
    cases j with
    | zero =>
      have : i0 = i := by simpa using z
      subst this
      exact ⟨v, rfl, h2⟩
    | succ j => exact b j i (by simpa using z)
def allData : List T → Bool
  | [] => true
  | .d _ :: r => allData r
  | _ => false
theorem RpAll.allData {K : PySem.W.Frag} {F : Addr → Prop} {H : Hp} : ∀ {vs : List V} {ts : List T} {A : List Addr}, RpAll K F H vs ts A → L3.allData ts = true → A = []
  | _, _, _, .nil, _ => rfl
  | _, .d _ :: _, _, .cons x r, e => by
    cases x with
    | d _ => exact r.allData e
  | _, .ol _ :: _, _, .cons _ _, e => by cases e
  | _, .ot _ :: _, _, .cons _ _, e => by cases e
  | _, .od _ _ :: _, _, .cons _ _, e => by cases e
  | _, .fd _ _ _ :: _, _, .cons _ _, e => by cases e
  | _, .fk _ _ _ :: _, _, .cons _ _, e => by cases e
  | _, .dt _ _ _ :: _, _, .cons _ _, e => by cases e
  | _, .no _ :: _, _, .cons _ _, e => by cases e
  | _, .hl :: _, _, .cons _ _, e => by cases e
  | _, .ob _ _ _ :: _, _, .cons _ _, e => by cases e
  | _, .rd _ :: _, _, .cons _ _, e => by cases e
theorem nx_red {α : Type} {rz : Bool} {r : R α} {P P' : α → Prop} {E E' : Str → Prop} (h : Then (if rz = true then r else r.nx) P E) (hp : ∀ a, P a → P' a) (he : ∀ x, E x → E' x) : Then r P' (fun x => rz = true ∧ E' x) := by
  cases rz with
  | true =>
    rw [if_pos rfl] at h
    exact h.mono hp fun x z => ⟨rfl, he x z⟩
  | false =>
    rw [if_neg (by decide)] at h
    cases r with
    | ok a => exact hp a h
    | exc x => exact h.elim
    | bad => exact h.elim
section
variable {X : Cx} {CX : CXT} {k : Nat} {f : Addr} {fd : FuncData} {ps : List Str} {Ek : XK} {cl : Str → Option Addr} {x : Str} {p pos : Pos} {e : Expr} {es : List Expr} {t : TA} {mb : MB} {ks : List (Option Nat)} {io : List Nat} {fm : List T → R (T × List T)} {rz g : Bool} {n : Nat}
theorem sim_call {K : PySem.W.Frag} (hio : io = posOf ks 0) (sb : SimB K (EX cl Ek) g ks t mb) {gz : Bool} (hg : gz = true → g = true ∧ io = []) : SimE K (EX cl Ek) gz (tCall (spT K rz cl n io fm) [] Ek t) (fun ρ => (mb ρ).bind fun r => (ofO (fillIo ks r.1 r.2)).bind fun s =>
    guard (!gz || allData s.1) ((if decide (s.1.length = n) then (if rz = true then fm s.1 else (fm s.1).nx) else .bad).bind fun z => (ofO (putIo (ks.filterMap id) z.2 s.2)).bind fun ρ' => .ok (z.1, ρ'))) := by
  intro c H tv td σ ρ hl st Q q
  rw [then_bind] at q
  refine sb c H tv td σ ρ hl st _ (q.imp ?_)
  intro r q1 vs H1 sm1 hvs hk st1
  rw [then_bind] at q1
  obtain ⟨s, es, q1⟩ := then_ofO.mp q1
  obtain ⟨gd, q1⟩ := then_guard.mp q1
  rw [then_bind] at q1
  have hn : s.1.length = n := by
    by_cases h : s.1.length = n
    · exact h
    · rw [if_neg (by simp [h])] at q1; exact q1.elim
  rw [if_pos (by simp [hn])] at q1
  obtain ⟨A, w⟩ := st1
  obtain ⟨A1, B, ra, sl, hc⟩ := w.slots.fill hl hvs hk es
  have hA1 : ∀ a, A1.count a ≤ A.count a := fun a => by have := hc a; omega
  have hB : ∀ a, B.count a ≤ A.count a := fun a => by have := hc a; omega
  have mem1 : ∀ a ∈ A1, a ∈ A := fun a ha => List.count_pos_iff.mp (Nat.lt_of_lt_of_le (List.count_pos_iff.mpr ha) (hA1 a))
  have memB : ∀ a ∈ B, a ∈ A := fun a ha => List.count_pos_iff.mp (Nat.lt_of_lt_of_le (List.count_pos_iff.mpr ha) (hB a))
  have apart : ∀ a ∈ B, a ∉ A1 := fun a ha z => by
    have h1 := List.count_pos_iff.mpr ha
    have h2 := List.count_pos_iff.mpr z
    have h3 := hc a
    have h4 := w.uniq a
    omega
  have thereB : ∀ a ∈ B, H1 a ≠ none := fun a ha e => by
    obtain ⟨u, z, _⟩ := sl.own a ha
    rw [e] at z; cases z
  show spT K rz cl n io fm (vs ++ []) H1 Q Ek
  rw [List.append_nil]
  refine ⟨s.1, Fok c A, A1, by rw [ra.len, hn], fun a => Nat.le_trans (hA1 a) (w.uniq a), ra.mono (.sub fun a _ z => ⟨z, fun y => z.2 (mem1 a y)⟩) fun _ _ => rfl, ?_⟩
  have kc : ∀ {H' : Hp}, KeepF H1 H' A1 → KeepC c H' := fun {H'} kf => ⟨fun a o e n => kf.keep a o (w.keep.keep a o e n) fun ha => by
    rcases w.own a (mem1 a ha) with z | z
    · exact n z
    · exact absurd (e.symm.trans z) (by intro y; cases y), fun a e => w.keep.there a (kf.there a e)⟩
  refine nx_red q1 (fun z q2 => ?_) (fun y q2 H' kf => q2 H' (kc kf))
  rw [then_bind] at q2
  obtain ⟨ρ', ep, q2⟩ := then_ofO.mp q2
  intro v H' A' u' own' kf same rr
  cases rr with
  | cons xv rio =>
    rename_i C0 C1
    have own2 : ∀ a ∈ C0 ++ C1, a ∈ c.A0 ∨ c.H0 a = none := fun a ha => by
      rcases own' a ha with z | z
      · exact w.own a (mem1 a z)
      · exact .inr (w.keep.there a z)
    have eqB : ∀ a ∈ B, H' a = H1 a := fun a ha => by
      obtain ⟨u, z, _⟩ := sl.own a ha
      rw [z, kf.keep a _ z (apart a ha)]
    have dis : ∀ a ∈ B, a ∉ C0 ++ C1 := fun a ha z => by
      rcases own' a z with y | y
      · exact apart a ha y
      · exact thereB a ha y
    have tot : ∀ a, (C0 ++ C1).count a + B.count a ≤ 1 := fun a => by
      by_cases ha : a ∈ B
      · rw [List.count_eq_zero.mpr (dis a ha)]; have := hB a; have := w.uniq a; omega
      · rw [List.count_eq_zero.mpr ha]; exact u' a
    let G : Addr → Prop := fun a => (c.F0 a ∨ c.H0 a = none ∨ a ∈ c.A0) ∧ a ∉ C0 ++ C1 ∧ a ∉ B
    have mG : Mono (Fok c A) G H1 H' := ⟨fun a vs e f => by
      have na : a ∉ A := f.2
      have e2 := kf.keep a _ e fun z => na (mem1 a z)
      refine ⟨e2, f.1, fun z => ?_, fun z => na (memB a z)⟩
      rcases own' a z with y | y
      · exact na (mem1 a y)
      · exact absurd (e.symm.trans y) (by intro y; cases y), fun a u e st => kf.keep a u e fun z => by
        obtain ⟨u, y, ns⟩ := ra.own a z
        rw [e] at y; cases y; exact ns st⟩
    have mR : Mono (fun a => (Fok c A a ∨ H1 a = none ∨ a ∈ A1) ∧ a ∉ C0 ++ C1) G H' H' := .sub fun a _ ⟨h1, h2⟩ => by
      rcases h1 with h1 | h1 | h1
      · exact ⟨h1.1, h2, fun z => h1.2 (memB a z)⟩
      · exact ⟨.inr (.inl (w.keep.there a h1)), h2, fun z => thereB a z h1⟩
      · refine ⟨?_, h2, fun z => apart a z h1⟩
        rcases w.own a (mem1 a h1) with y | y
        · exact .inr (.inr y)
        · exact .inr (.inl y)
    have sl2 : Sl K G H' (tv ++ σ) (td ++ s.2) B := sl.mono mG eqB
    obtain ⟨hlen, hat⟩ := posOf_at (σ := σ) (vs0 := vs) (ks := ks) (n := 0) fun j i z => by rw [Nat.zero_add]; exact hk j i z
    rw [← hio] at hlen hat
    obtain ⟨C2, s3, hc3⟩ := sl2.putIo hl (rio.mono mR fun _ _ => rfl) hat hlen ep
    have hfin : ∀ a, (C0 ++ C2).count a ≤ (C0 ++ C1).count a + B.count a := fun a => by rw [List.count_append, List.count_append]; have := hc3 a; omega
    refine q2 v H' (fun e => ?_) ⟨C0 ++ C2, fun a => Nat.le_trans (hfin a) (tot a), ?_, fun a ha => ?_, kc kf⟩
    · obtain ⟨g1, g2⟩ := hg e
      have ad : allData s.1 = true := by rw [e] at gd; simpa using gd
      exact (sm1 g1).trans (same g2 (ra.allData ad))
    · have m3 : Mono G (Fok c (C0 ++ C2)) H' H' := .sub fun a _ ⟨h1, h2, h3⟩ => ⟨h1, fun z => by
        have := hfin a
        have := List.count_pos_iff.mpr z
        rw [List.count_eq_zero.mpr h2, List.count_eq_zero.mpr h3] at *
        omega⟩
      exact (Sl.cons (xv.mono mR fun _ _ => rfl) s3).mono m3 fun _ _ => rfl
    · have h1 := hfin a
      have h2 := List.count_pos_iff.mpr ha
      by_cases hb : a ∈ B
      · exact w.own a (memB a hb)
      · rw [List.count_eq_zero.mpr hb] at h1
        exact own2 a (List.count_pos_iff.mp (by omega))
def mCallF (rz gz : Bool) (n : Nat) (fm : List T → R (T × List T)) (ks : List (Option Nat)) (mb : MB) : MEx := fun ρ => (mb ρ).bind fun r => (ofO (fillIo ks r.1 r.2)).bind fun s =>
    guard (!gz || allData s.1) ((if decide (s.1.length = n) then (if rz = true then fm s.1 else (fm s.1).nx) else .bad).bind fun z => (ofO (putIo (ks.filterMap id) z.2 s.2)).bind fun ρ' => .ok (z.1, ρ'))
theorem qe_call (Fn : FnOk X.prog X.w X.K X.mg X.base CX k f fd ps (spT X.K rz cl n io fm)) (hr : Room k X.A) (hm : X.mg x = some (.ref f)) (hk : PySem.W.keepIn X.K (.ref f) = true) (hb : Binds X.K fd ps []) (hx : Passes CX X Ek)
    (ha : QB X (EX cl Ek) g ks (e :: es) t mb) (hio : io = posOf ks 0 := by rfl) (hg : Gl X x := by rfl) (hdb : (x == ("__debug__" : Str)) = false := by decide) (he : starEach (e :: es) X.env = (false, eval e X.env) :: starEach es X.env := by rfl) (hpl : (backTo pos (starEach es X.env)).any (·.1) = false := by rfl) :
    QE X (EX cl Ek) false (.Call (.Name x p) (e :: es) [] pos) (tCall (spT X.K rz cl n io fm) [] Ek t) (mCallF rz false n fm ks mb) := ⟨pe_call Fn hr hg hm hk hb .nil hx ha.pa hdb he hpl, sim_call hio ha.sim fun z => by cases z⟩
end
end L3
namespace L3
open PySem PySem.Spec PyProof.Rows L2
def mLoop (g : MG) (body : MS) : List T → Env → R Out
  | [], ρ => .ok (.next ρ)
  | x :: xs, ρ => (ofO (g x ρ)).bind fun ρ1 => (body ρ1).bind fun o => match o with
    | .next ρ2 => mLoop g body xs ρ2
    | .cont ρ2 => mLoop g body xs ρ2
    | .brk ρ2 => .ok (.next ρ2)
    | .ret t ρ2 => .ok (.ret t ρ2)
section
variable {K : PySem.W.Frag} {c : C0} {H : Hp}
theorem StR.drop2 {o o' : Option V} {t t' : Option T} {sl : List (Option V)} {ρ : Env} (h : StR K c H (o :: o' :: sl) (t :: t' :: ρ)) : StR K c H (o :: sl) (t :: ρ) := by
  obtain ⟨A, w⟩ := h
  obtain ⟨u, s, ow, k⟩ := w
  cases s with
  | skip s =>
    cases s with
    | skip s => exact ⟨_, u, .skip s, ow, k⟩
    | cons x s =>
      rename_i A1 B
      have w : StW K c H (o :: some _ :: sl) (none :: some _ :: ρ) (A1 ++ B) := ⟨u, .skip (.cons x s), ow, k⟩
      exact ⟨B, w.remake (fun a => by rw [List.count_append]; omega) (.skip s)⟩
  | cons y s =>
    rename_i A0 B0
    cases s with
    | skip s => exact ⟨_, u, .cons y s, ow, k⟩
    | cons x s =>
      rename_i A1 B
      have w : StW K c H (some _ :: some _ :: sl) (some _ :: some _ :: ρ) (A0 ++ (A1 ++ B)) := ⟨u, .cons y (.cons x s), ow, k⟩
      exact ⟨A0 ++ B, w.remake (fun a => by simp only [List.count_append]; omega) (.cons y s)⟩
end
structure Src (K : PySem.W.Frag) (J : It) (xv : List (Option V)) (xt : Env) (items : List T) : Prop where
  len : xv.length = xt.length
  goes : ∀ (c : C0) (H : Hp) (sl : List (Option V)) (ρ : Env) (i : Nat), i < items.length → StR K c H (xv ++ sl) (xt ++ ρ) → J.go i H
  stops : ∀ (c : C0) (H : Hp) (sl : List (Option V)) (ρ : Env), StR K c H (xv ++ sl) (xt ++ ρ) → J.stop items.length H
  yields : ∀ (c : C0) (H : Hp) (sl : List (Option V)) (ρ : Env) (i : Nat) (x : V) (H' : Hp) (t : T), items[i]? = some t → StR K c H (xv ++ sl) (xt ++ ρ) → J.yld i H x H' → Same H H' ∧ StR K c H' (some x :: (xv ++ sl)) (some t :: (xt ++ ρ))
theorem StR.dropN {K : PySem.W.Frag} {c : C0} {H : Hp} : ∀ {xs : List (Option V)} {as : Env} {sl : List (Option V)} {ρ : Env}, xs.length = as.length → StR K c H (xs ++ sl) (as ++ ρ) → StR K c H sl ρ
  | [], [], _, _, _, h => h
  | _ :: xs, _ :: as, _, _, e, h => StR.dropN (by simpa using e) h.drop
  | [], _ :: _, _, _, e, _ => by simp at e
  | _ :: _, [], _, _, e, _ => by simp at e
theorem StR.dropN1 {K : PySem.W.Frag} {c : C0} {H : Hp} {o : Option V} {t : Option T} : ∀ {xs : List (Option V)} {as : Env} {sl : List (Option V)} {ρ : Env}, xs.length = as.length → StR K c H (o :: (xs ++ sl)) (t :: (as ++ ρ)) → StR K c H (o :: sl) (t :: ρ)
  | [], [], _, _, _, h => h
  | _ :: xs, _ :: as, _, _, e, h => StR.dropN1 (by simpa using e) h.drop2
  | [], _ :: _, _, _, e, _ => by simp at e
  | _ :: _, [], _, _, e, _ => by simp at e
section
variable {E : Str → Hp → Prop} {io : List Nat}
theorem loop_run {K : PySem.W.Frag} {J : It} {xv : List (Option V)} {xt : Env} {items : List T} (S : Src K J xv xt items) {g : TG} {mg : MG} {tb : TS} {mb : MS} (sg : SimG K (inIo io) g mg) (sb : SimS K E io tb mb) {c : C0} {H : Hp} {tv : List (Option V)} {td : Env} {σ : L2.St} {ρ : Env}
    (hl : tv.length = td.length) (st : StR K c H (xv ++ (tv ++ σ)) (xt ++ (td ++ ρ))) {D : Ends} (q : Then (mLoop mg mb items ρ) (OutTo K c tv td io σ D) (fun x => ∀ H', KeepC c H' → E x H')) :
    ∃ W : Nat → Nat → L2.St → Hp → Prop, (∃ m, W 0 m σ H) ∧ ∀ i m σ H, W i m σ H →
      (J.stop i H ∧ D.nx σ H) ∨ (J.go i H ∧ ∃ N : L2.St → Hp → Prop, (∀ σ' H', N σ' H' → ∃ m', m' < m ∧ W (i + 1) m' σ' H') ∧ ∀ x H', J.yld i H x H' → g x σ H' fun σ2 H2 => tb { D with nx := N, ct := N, bk := D.nx } σ2 H2) := by
  refine ⟨fun i m σ' H' => m = items.length - i ∧ i ≤ items.length ∧ SameIo io σ σ' ∧ ∃ ρ', StR K c H' (xv ++ (tv ++ σ')) (xt ++ (td ++ ρ')) ∧ Then (mLoop mg mb (items.drop i) ρ') (OutTo K c tv td io σ D) (fun x => ∀ H', KeepC c H' → E x H'),
    ⟨items.length, by simp, Nat.zero_le _, .refl, ρ, st, by simpa using q⟩, ?_⟩
  rintro i m σ1 H1 ⟨rfl, hi, s1, ρ1, st1, q1⟩
  by_cases hlt : i < items.length
  · refine .inr ⟨S.goes c H1 _ _ i hlt st1, fun σ' H' => SameIo io σ σ' ∧ ∃ ρ', StR K c H' (xv ++ (tv ++ σ')) (xt ++ (td ++ ρ')) ∧ Then (mLoop mg mb (items.drop (i + 1)) ρ') (OutTo K c tv td io σ D) (fun x => ∀ H', KeepC c H' → E x H'), fun σ' H' p => ⟨items.length - (i + 1), by omega, rfl, hlt, p.1, p.2⟩, fun x H' y => ?_⟩
    have eI : items[i]? = some items[i] := List.getElem?_eq_getElem hlt
    have hd : items.drop i = items[i] :: items.drop (i + 1) := List.drop_eq_getElem_cons hlt
    rw [hd] at q1
    obtain ⟨sm, st2⟩ := S.yields c H1 _ _ i x H' _ eI st1 y
    have q2 := then_bind.mp q1
    obtain ⟨ρ2, e2, q2⟩ := then_ofO.mp q2
    refine sg c H' (xv ++ tv) (xt ++ td) σ1 ρ1 ρ2 x items[i] (by simp [S.len, hl]) (by simpa [List.append_assoc] using st2) e2 _ fun σ2 H2 s2 st3 => ?_
    have q3 := then_bind.mp q2
    have s12 : SameIo io σ σ2 := s1.trans s2.toIo
    refine sb c H2 (xv ++ tv) (xt ++ td) σ2 ρ2 (by simp [S.len, hl]) st3 _ (q3.imp fun o q4 => ?_)
    cases o with
    | next ρ3 => exact fun σ' H' s' st' => ⟨s12.trans s', ρ3, by simpa [List.append_assoc] using st', q4⟩
    | cont ρ3 => exact fun σ' H' s' st' => ⟨s12.trans s', ρ3, by simpa [List.append_assoc] using st', q4⟩
    | brk ρ3 => exact fun σ' H' s' st' => q4 σ' H' (s12.trans s') (StR.dropN S.len (by simpa [List.append_assoc] using st'))
    | ret t ρ3 => exact fun v σ' H' s' st' => q4 v σ' H' (s12.trans s') (StR.dropN1 S.len (by simpa [List.append_assoc] using st'))
  · have e : i = items.length := by omega
    subst e
    rw [List.drop_length] at q1
    exact .inl ⟨S.stops c H1 _ _ st1, q1 σ1 H1 s1 (StR.dropN S.len st1)⟩
end
abbrev MI := Env → R (List T × Env)
def SimI (K : PySem.W.Frag) (E : Str → Hp → Prop) (wi : TI) (mi : MI) : Prop :=
  ∀ (c : C0) (H : Hp) (tv : List (Option V)) (td : Env) (σ : L2.St) (ρ : Env), tv.length = td.length → StR K c H (tv ++ σ) (td ++ ρ) → ∀ Rr : It → Hp → Prop,
    Then (mi ρ) (fun r => ∀ J H' xv xt, Src K J xv xt r.1 → StR K c H' (xv ++ (tv ++ σ)) (xt ++ (td ++ r.2)) → Rr J H') (fun x => ∀ H', KeepC c H' → E x H') → wi σ H Rr
structure QI (X : Cx) (E : Str → Hp → Prop) (tg : Expr) (e : Expr) (wi : TI) (mi : MI) : Prop where
  pi : PI X tg e wi
  sim : SimI X.K E wi mi
def mFor (mi : MI) (g : MG) (body : MS) : MS := fun ρ => (mi ρ).bind fun r => mLoop g body r.1 r.2
section
variable {X : Cx} {E : Str → Hp → Prop} {io : List Nat} {pos : Pos}
theorem qs_for {tg iter : Expr} {body : List Stmt} {wi : TI} {mi : MI} {g : TG} {mg : MG} {tb : TS} {mb : MS} (hc : X.calm = true) (hp : PassesOwn (model X.prog X.w) X.A X.env X.xe) (hi : QI X E tg iter wi mi) (hg : QG X (inIo io) tg g mg) (hb : QSs X E io body tb mb)
    (hs : ∀ x, foldedSetIterable iter X.env x = pure x := by intro _; rfl) : QS X E io (.For tg iter body [] pos) (tFor wi g tb) (mFor mi mg mb) := by
  refine ⟨ps_for hp hc hi.pi hg.pg hb.ps hs, fun c H tv td σ ρ hl st D q => ?_⟩
  unfold mFor at q
  rw [then_bind] at q
  refine hi.sim c H tv td σ ρ hl st _ (q.imp ?_)
  intro r q1 J H' xv xt S st1
  exact loop_run S hg.sim hb.sim hl st1 q1
def items? : T → Option (List T)
  | .d (.list ds) => some (ds.map T.d)
  | _ => none
def itemsT? : T → Option (List T)
  | .d (.tuple ds) => some (ds.map T.d)
  | _ => none
def miL (m : MEx) : MI := fun ρ => (m ρ).bind fun r => (ofO (items? r.1)).bind fun ts => .ok (ts, r.2)
def miT (m : MEx) : MI := fun ρ => (m ρ).bind fun r => (ofO (itemsT? r.1)).bind fun ts => .ok (ts, r.2)
theorem StR.look {K : PySem.W.Frag} {c : C0} {H : Hp} {sl : List (Option V)} {ρ : Env} {v : V} {x : PyData} (h : StR K c H (some v :: sl) (some (.d x) :: ρ)) : ∃ A, StW K c H (some v :: sl) (some (.d x) :: ρ) A ∧ Fz K (Fok c A) H v x := by
  obtain ⟨A, w⟩ := h
  exact ⟨A, w, w.topD.1⟩
theorem src_list {K : PySem.W.Frag} {a : Addr} {ds : List PyData} : Src K (Itl K a) [some (.ref a)] [some (.d (.list ds))] (ds.map T.d) where
  len := rfl
  goes := by
    intro c H sl ρ i hi st
    obtain ⟨A, w, f⟩ := StR.look st
    cases f with
    | @lst _ vs _ h _ f =>
      have hl := f.len
      have hi2 : i < vs.length := by rw [hl]; simpa using hi
      exact ⟨vs, vs[i], .of h, List.getElem?_eq_getElem hi2⟩
  stops := by
    intro c H sl ρ st
    obtain ⟨A, w, f⟩ := StR.look st
    cases f with
    | lst h _ f => exact ⟨_, .of h, by rw [List.length_map, f.len]; exact Nat.le_refl _⟩
  yields := by
    intro c H sl ρ i x H' t ht st y
    obtain ⟨rfl, y⟩ := y
    obtain ⟨A, w, f⟩ := StR.look st
    refine ⟨Same.refl _, A, ?_⟩
    rw [List.getElem?_map] at ht
    obtain ⟨z, e1, rfl⟩ := Option.map_eq_some_iff.mp ht
    cases f with
    | lst h _ f =>
      obtain ⟨v, e2, fz⟩ := f.get e1
      have := y _ (.of h)
      rw [e2] at this
      cases this
      exact w.pushD fz
theorem sim_iL {K : PySem.W.Frag} {te : TE} {m : MEx} {g : Bool} (s : SimE K E g te m) : SimI K E (iList K te) (miL m) := by
  intro c H tv td σ ρ hl st Rr q
  unfold miL at q
  rw [then_bind] at q
  refine s c H tv td σ ρ hl st _ (q.imp ?_)
  rintro ⟨t, ρ1⟩ q1 v H1 _ st1
  obtain ⟨ts, e, q2⟩ := then_ofO.mp (then_bind.mp q1)
  unfold items? at e
  dsimp only at e
  split at e
  · rename_i ds
    cases e
    obtain ⟨A, w, f⟩ := StR.look st1
    cases f with
    | lst h h2 f => exact ⟨_, rfl, ⟨_, .of h⟩, q2 _ H1 [some _] [some _] src_list st1⟩
  · cases e
theorem qi_list {tg e : Expr} {te : TE} {m : MEx} {g : Bool} (h : QE X E g e te m) : QI X E tg e (iList X.K te) (miL m) := ⟨pi_list h.pe, sim_iL h.sim⟩
def rangeItems (lo hi : Int) : List T := (List.range (hi - lo).toNat).map fun i => .d (.int (lo + (i : Nat)))
def small62 (i : Int) : Bool := decide (-(2 ^ 62) ≤ i ∧ i < 2 ^ 62)
def miR1 (m : MA) : MI := fun ρ => (m ρ).bind fun r => match r.1 with | [.d (.int j)] => guard (small62 j) (.ok (rangeItems 0 j, r.2)) | _ => .bad
def miR2 (m : MA) : MI := fun ρ => (m ρ).bind fun r => match r.1 with | [.d (.int i), .d (.int j)] => guard (small62 i && small62 j) (.ok (rangeItems i j, r.2)) | _ => .bad
theorem src_range {K : PySem.W.Frag} {lo hi : Int} : Src K (Itr lo (hi - lo).toNat) [] [] (rangeItems lo hi) where
  len := rfl
  goes := fun c H sl ρ i hi st => by simpa [rangeItems, Itr] using hi
  stops := fun c H sl ρ st => by
    show (hi - lo).toNat ≤ (rangeItems lo hi).length
    unfold rangeItems
    rw [List.length_map, List.length_range]
    exact Nat.le_refl _
  yields := by
    intro c H sl ρ i x H' t ht st y
    obtain ⟨rfl, rfl⟩ := y
    refine ⟨Same.refl _, ?_⟩
    unfold rangeItems at ht
    rw [List.getElem?_map] at ht
    obtain ⟨z, e1, rfl⟩ := Option.map_eq_some_iff.mp ht
    have : z = i := by
      obtain ⟨h1, h2⟩ := List.getElem?_eq_some_iff.mp e1
      simpa using h2.symm
    subst this
    exact StR.pushC st fun _ _ => .int _
theorem StR.top1 {K : PySem.W.Frag} {c : C0} {H : Hp} {sl : List (Option V)} {ρ : Env} {v : V} {i : Int} (h : StR K c H (some v :: sl) (some (.d (.int i)) :: ρ)) : v = .int i ∧ StR K c H sl ρ := by
  obtain ⟨A, w⟩ := h
  obtain ⟨f, w'⟩ := w.topD
  cases f
  exact ⟨rfl, A, w'⟩
theorem sim_iR1 {K : PySem.W.Frag} {ta : TA} {m : MA} {g : Bool} (s : SimA K E g ta m) : SimI K E (iRng1 ta) (miR1 m) := by
  intro c H tv td σ ρ hl st Rr q
  unfold miR1 at q
  rw [then_bind] at q
  refine s c H tv td σ ρ hl st _ (q.imp ?_)
  rintro ⟨ts, ρ1⟩ q1 vs H1 _ hvs st1
  dsimp only at q1 hvs st1
  split at q1
  · rename_i j
    obtain ⟨gd, q2⟩ := then_guard.mp q1
    match vs, hvs, st1 with
    | [v], _, st1 =>
      obtain ⟨rfl, st2⟩ := StR.top1 st1
      have hz := of_decide_eq_true gd
      refine ⟨j, rfl, hz.1, hz.2, q2 _ H1 [] [] ?_ st2⟩
      have := src_range (K := K) (lo := 0) (hi := j)
      rwa [Int.sub_zero] at this
  · exact q1.elim
theorem qi_range1 {tg a : Expr} {ta : TA} {m : MA} {g : Bool} {p : Pos} (hm : X.mg "range" = none) (ha : QA X E g [a] ta m) (hg : Gl X "range" := by rfl) (hs : starEach [a] X.env = [(false, eval a X.env)] := by rfl) : QI X E tg (.Call (.Name "range" p) [a] [] pos) (iRng1 ta) (miR1 m) := ⟨pi_range1 hg hm ha.pa hs, sim_iR1 ha.sim⟩
end
def mWhileN (mt : MT) (mb : MS) : Nat → Env → R Out
  | 0, _ => .bad
  | n + 1, ρ => (mt ρ).bind fun r => if r.1 = true then (mb r.2).bind (fun o => match o with
    | .next ρ2 => mWhileN mt mb n ρ2
    | .cont ρ2 => mWhileN mt mb n ρ2
    | .brk ρ2 => .ok (.next ρ2)
    | .ret t ρ2 => .ok (.ret t ρ2)) else .ok (.next r.2)
open Classical in
noncomputable def mWhile (mt : MT) (mb : MS) : MS := fun ρ => if h : ∃ n, mWhileN mt mb n ρ ≠ .bad then mWhileN mt mb (Classical.choose h) ρ else .bad
theorem mWhileN_succ {mt : MT} {mb : MS} : ∀ {n : Nat} {ρ : Env}, mWhileN mt mb n ρ ≠ .bad → mWhileN mt mb (n + 1) ρ = mWhileN mt mb n ρ
  | 0, ρ, h => (h rfl).elim
  | n + 1, ρ, h => by
    have go : ∀ ρ2, mWhileN mt mb n ρ2 ≠ .bad → mWhileN mt mb (n + 1) ρ2 = mWhileN mt mb n ρ2 := fun ρ2 => mWhileN_succ
    show (mt ρ).bind _ = (mt ρ).bind _
    have h' : (mt ρ).bind (fun r => if r.1 = true then (mb r.2).bind (fun o => match o with
      | .next ρ2 => mWhileN mt mb n ρ2
      | .cont ρ2 => mWhileN mt mb n ρ2
      | .brk ρ2 => .ok (.next ρ2)
      | .ret t ρ2 => .ok (.ret t ρ2)) else .ok (.next r.2)) ≠ .bad := h
    cases e : mt ρ with
    | exc x => rfl
    | bad => rfl
    | ok r =>
      rw [e] at h'
      dsimp only [R.bind] at h' ⊢
      by_cases hr : r.1 = true
      · rw [if_pos hr] at h'
        rw [if_pos hr, if_pos hr]
        cases e2 : mb r.2 with
        | exc x => rfl
        | bad => rfl
        | ok o =>
          rw [e2] at h'
          cases o with
          | next ρ2 => exact go ρ2 h'
          | cont ρ2 => exact go ρ2 h'
          | brk ρ2 => rfl
          | ret t ρ2 => rfl
      · rw [if_neg hr, if_neg hr]
theorem mWhileN_le {mt : MT} {mb : MS} {n m : Nat} {ρ : Env} (h : mWhileN mt mb n ρ ≠ .bad) (l : n ≤ m) : mWhileN mt mb m ρ = mWhileN mt mb n ρ := by
  induction m with
  | zero => have : n = 0 := by omega
            subst this; rfl
  | succ m ih =>
    by_cases e : n = m + 1
    · rw [e]
    · have e1 := ih (by omega)
      rw [mWhileN_succ (by rw [e1]; exact h), e1]
section
variable {X : Cx} {E : Str → Hp → Prop} {io : List Nat} {pos : Pos}
theorem sim_while {K : PySem.W.Frag} {tc : TT} {mt : MT} {tb : TS} {mb : MS} (sc : SimT K E tc mt) (sb : SimS K E io tb mb) : SimS K E io (tWhile tc tb) (mWhile mt mb) := by
  intro c H tv td σ ρ hl st D q
  have q0 : ∃ n, Then (mWhileN mt mb n ρ) (OutTo K c tv td io σ D) (fun x => ∀ H', KeepC c H' → E x H') := by
    unfold mWhile at q
    split at q
    · exact ⟨_, q⟩
    · exact q.elim
  obtain ⟨n, q0⟩ := q0
  refine ⟨fun m σ' H' => SameIo io σ σ' ∧ ∃ ρ', StR K c H' (tv ++ σ') (td ++ ρ') ∧ Then (mWhileN mt mb m ρ') (OutTo K c tv td io σ D) (fun x => ∀ H', KeepC c H' → E x H'), ⟨n, .refl, ρ, st, q0⟩, ?_⟩
  rintro m σ1 H1 ⟨s1, ρ1, st1, q1⟩
  cases m with
  | zero => exact q1.elim
  | succ m =>
    have q1' := then_bind.mp q1
    refine sc c H1 tv td σ1 ρ1 hl st1 _ (q1'.imp ?_)
    rintro ⟨b, ρ2⟩ q2 H2 st2
    cases b with
    | false =>
      rw [if_neg (show ¬ (false = true) by decide)]
      exact q2 σ1 H2 s1 st2
    | true =>
      rw [if_pos rfl]
      refine ⟨fun σ' H' => SameIo io σ σ' ∧ ∃ ρ', StR K c H' (tv ++ σ') (td ++ ρ') ∧ Then (mWhileN mt mb m ρ') (OutTo K c tv td io σ D) (fun x => ∀ H', KeepC c H' → E x H'), fun σ' H' p => ⟨m, Nat.lt_succ_self m, p⟩, ?_⟩
      refine sb c H2 tv td σ1 ρ2 hl st2 _ ((then_bind.mp q2).imp fun o q3 => ?_)
      cases o with
      | next ρ3 => exact fun σ' H' s' st' => ⟨s1.trans s', ρ3, st', q3⟩
      | cont ρ3 => exact fun σ' H' s' st' => ⟨s1.trans s', ρ3, st', q3⟩
      | brk ρ3 => exact fun σ' H' s' st' => q3 σ' H' (s1.trans s') st'
      | ret t ρ3 => exact fun v σ' H' s' st' => q3 v σ' H' (s1.trans s') st'
theorem qs_while {c' : Expr} {body : List Stmt} {tc : TT} {mt : MT} {tb : TS} {mb : MS} (hp : PassesOwn (model X.prog X.w) X.A X.env X.xe) (hc : QT X E c' tc mt) (hb : QSs X E io body tb mb) : QS X E io (.While c' body [] pos) (tWhile tc tb) (mWhile mt mb) := ⟨ps_while hp hc.pt hb.ps, sim_while hc.sim hb.sim⟩
end
end L3
namespace L3
open PySem PySem.Spec PyProof.Rows L2
def wipeE (ρ : Env) : List Nat → Env
  | [] => ρ
  | v :: vs => (wipeE ρ vs).set v none
section
variable {K : PySem.W.Frag} {c : C0} {H : Hp}
theorem StR.gone {tv : List (Option V)} {td : Env} {σ : L2.St} {ρ : Env} {i : Nat} (hl : tv.length = td.length) (h : StR K c H (tv ++ σ) (td ++ ρ)) (o : Option V) : StR K c H (tv ++ σ.set i o) (td ++ ρ.set i none) := by
  obtain ⟨A, w⟩ := h
  have hlen := w.slots.len
  by_cases hi : i < σ.length
  · obtain ⟨B, hb, ar, _⟩ := w.slots.around (i := tv.length + i) (by rw [List.length_append]; omega)
    obtain ⟨C, s, z⟩ := ar.gone o
    rw [app_set rfl, app_set hl.symm] at s
    exact ⟨C, w.remake (fun a => by rw [z a]; exact hb a) s⟩
  · have hi2 : ¬ i < ρ.length := by
      rw [List.length_append, List.length_append] at hlen; omega
    rw [List.set_eq_of_length_le (by omega), List.set_eq_of_length_le (by omega)]
    exact ⟨A, w⟩
theorem StR.wiped {tv : List (Option V)} {td : Env} {σ : L2.St} {ρ : Env} (hl : tv.length = td.length) (h : StR K c H (tv ++ σ) (td ++ ρ)) : ∀ vs : List Nat, StR K c H (tv ++ wipe σ vs) (td ++ wipeE ρ vs)
  | [] => h
  | v :: vs => (StR.wiped hl h vs).gone hl none
theorem StR.any {tv : List (Option V)} {td : Env} {σ σ' : L2.St} {ρ : Env} (hl : tv.length = td.length) (h : StR K c H (tv ++ σ) (td ++ ρ)) {vs : List Nat} (hz : σ'.length = σ.length) (hs : ∀ (i : Nat), i ∉ vs → σ'[i]? = σ[i]?) (hn : ∀ (i : Nat), i ∈ vs → ∀ (t : T), ρ[i]? ≠ some (some t)) : StR K c H (tv ++ σ') (td ++ ρ) := by
  obtain ⟨A, w⟩ := h
  refine ⟨A, w.uniq, ?_, w.own, w.keep⟩
  have key : ∀ {σ σ' : L2.St} {ρ : Env} {F : Addr → Prop} {B : List Addr}, σ'.length = σ.length → (∀ (i : Nat) (t : T), ρ[i]? = some (some t) → σ'[i]? = σ[i]?) → Sl K F H σ ρ B → Sl K F H σ' ρ B := by
    intro σ
    induction σ with
    | nil =>
      intro σ' ρ F B hz _ s
      have : σ' = [] := List.eq_nil_of_length_eq_zero (by simpa using hz)
      subst this
      exact s
    | cons o σ ih =>
      intro σ' ρ F B hz hs s
      cases σ' with
      | nil => simp at hz
      | cons o' σ' =>
        cases s with
        | skip s => exact .skip (ih (by simpa using hz) (fun i t e => by simpa using hs (i + 1) t (by simpa using e)) s)
        | cons x s =>
          have := hs 0 _ rfl
          rename_i v0 t0 ρ0 A0 B0
          have e : o' = some v0 := by simpa using this
          subst e
          exact .cons x (ih (by simpa using hz) (fun i t e => by simpa using hs (i + 1) t (by simpa using e)) s)
  refine key (σ := tv ++ σ) (by simp [hz]) (fun i t e => ?_) w.slots
  by_cases hi : i < tv.length
  · rw [List.getElem?_append_left hi, List.getElem?_append_left hi]
  · obtain ⟨j, rfl⟩ : ∃ j, i = tv.length + j := ⟨i - tv.length, by omega⟩
    rw [app_at rfl, app_at rfl]
    rw [app_at hl.symm] at e
    exact hs j fun z => hn j z t e
theorem wipe_get {σ : L2.St} : ∀ {vs : List Nat} {i : Nat}, i ∉ vs → (wipe σ vs)[i]? = σ[i]?
  | [], _, _ => rfl
  | v :: vs, i, h => by
    show ((wipe σ vs).set v none)[i]? = _
    rw [List.getElem?_set_ne (fun e => h (by rw [e]; exact List.mem_cons_self)), wipe_get fun z => h (List.mem_cons_of_mem _ z)]
theorem wipeE_none {ρ : Env} : ∀ {vs : List Nat} {i : Nat}, i ∈ vs → ∀ t, (wipeE ρ vs)[i]? ≠ some (some t)
  | [], _, h, _ => by simp at h
  | v :: vs, i, h, t => by
    intro e
    have e : ((wipeE ρ vs).set v none)[i]? = some (some t) := e
    by_cases hv : v = i
    · subst hv
      by_cases hl : v < (wipeE ρ vs).length
      · rw [List.getElem?_set_self hl] at e; cases e
      · rw [List.getElem?_eq_none (by simpa using hl)] at e; cases e
    · rw [List.getElem?_set_ne hv] at e
      rcases List.mem_cons.mp h with z | z
      · exact hv z.symm
      · exact wipeE_none z t e
theorem wipe_eq {σ σ' : L2.St} (hl : σ'.length = σ.length) : ∀ {vs : List Nat}, (∀ i, i ∉ vs → σ'[i]? = σ[i]?) → wipe σ' vs = wipe σ vs := by
  intro vs h
  apply List.ext_getElem?
  intro i
  by_cases hi : i ∈ vs
  · have hn : ∀ (τ : L2.St), (wipe τ vs)[i]? = if i < τ.length then some none else none := by
      intro τ
      clear h
      induction vs with
      | nil => simp at hi
      | cons v vs ih =>
        show ((wipe τ vs).set v none)[i]? = _
        by_cases hv : v = i
        · subst hv
          by_cases hz : v < τ.length
          · rw [List.getElem?_set_self (by rw [wipe_length]; exact hz), if_pos hz]
          · rw [List.getElem?_eq_none (by rw [List.length_set, wipe_length]; omega), if_neg hz]
        · rw [List.getElem?_set_ne hv]
          exact ih ((List.mem_cons.mp hi).resolve_left fun e => hv e.symm)
    rw [hn, hn, hl]
  · rw [wipe_get hi, wipe_get hi, h i hi]
end
abbrev notOwn (vs : List Nat) : Nat → Bool := fun i => !vs.contains i
def mtYes : MT := fun ρ => .ok (true, ρ)
def mLcLoop (g : MG) (mt : MT) (me : MEx) (vs : List Nat) : List T → List T → Env → R (List T × Env)
  | [], acc, ρ => .ok (acc, ρ)
  | x :: xs, acc, ρ => (ofO (g x (wipeE ρ vs))).bind fun ρ1 => (mt ρ1).bind fun r => if r.1 = true then guard (decide (acc.length < sLine)) ((me r.2).bind fun y => mLcLoop g mt me vs xs (acc ++ [y.1]) y.2) else mLcLoop g mt me vs xs acc r.2
def mLc (mi : MI) (g : MG) (mt : MT) (me : MEx) (vs : List Nat) : MEx := fun ρ => (mi ρ).bind fun r => (mLcLoop g mt me vs r.1 [] r.2).bind fun z => .ok (.ol z.1, wipeE z.2 vs)
theorem RpAll.snoc {K : PySem.W.Frag} {F : Addr → Prop} {H : Hp} : ∀ {vs : List V} {ts : List T} {A B : List Addr} {v : V} {t : T}, RpAll K F H vs ts A → Rp K F H v t B → ∃ C, RpAll K F H (vs ++ [v]) (ts ++ [t]) C ∧ ∀ a, C.count a = A.count a + B.count a
  | _, _, _, B, _, _, .nil, x => ⟨B ++ [], .cons x .nil, fun a => by simp⟩
  | _, _, _, _, _, _, .cons (A := A1) y r, x => by
    obtain ⟨C, r', z⟩ := r.snoc x
    exact ⟨A1 ++ C, .cons y r', fun a => by rw [List.count_append, List.count_append, z a]; omega⟩
theorem StR.grown {K : PySem.W.Frag} {c : C0} {H : Hp} {L : Addr} {ts : List T} {v : V} {t : T} {sl : List (Option V)} {ρ : Env} (h : StR K c H (some v :: some (.ref L) :: sl) (some t :: some (.ol ts) :: ρ)) :
    ∃ acc, H L = some (.lst acc) ∧ acc.length = ts.length ∧ StR K c (upd H L (.lst (acc ++ [v]))) (some (.ref L) :: sl) (some (.ol (ts ++ [t])) :: ρ) := by
  obtain ⟨A, w⟩ := h
  obtain ⟨A1, B1, eA, x, s⟩ := w.top
  cases s with
  | cons y s =>
    rename_i A2 B2
    cases y with
    | @ol _ acc _ A3 hL r =>
      refine ⟨acc, hL, r.len, ?_⟩
      -- every footprint but L itself is as it was
      have cnt : ∀ a, A.count a = A1.count a + ((L :: A3).count a + B2.count a) := fun a => by rw [eA, List.count_append, List.count_append]
      have hLA : L ∈ A := by rw [eA]; simp
      have nL : ∀ C : List Addr, (∀ a, C.count a + (if L = a then 1 else 0) ≤ A.count a) → ∀ a ∈ C, a ≠ L := fun C hC a ha e => by
        subst e
        have h1 := hC a
        have h2 := w.uniq a
        have h3 := List.count_pos_iff.mpr ha
        rw [if_pos rfl] at h1
        omega
      have cc : ∀ a, (L :: A3).count a = A3.count a + (if L = a then 1 else 0) := fun a => by
        rw [List.count_cons]
        by_cases e : L = a
        · simp [e]
        · simp [e]
      have n1 := nL A1 fun a => by have := cnt a; rw [cc a] at this; omega
      have n3 := nL A3 fun a => by have := cnt a; rw [cc a] at this; omega
      have n2 := nL B2 fun a => by have := cnt a; rw [cc a] at this; omega
      have mo : Mono (Fok c A) (Fok c A) H (upd H L (.lst (acc ++ [v]))) := ⟨fun a vs e f => ⟨by rw [upd_ne (fun z => f.2 (by rw [z]; exact hLA))]; exact e, f⟩, fun a u e st => by
        rw [upd_ne (fun z => by rw [z, hL] at e; cases e; exact st)]
        exact e⟩
      have eqs : ∀ {C : List Addr}, (∀ a ∈ C, a ≠ L) → ∀ a ∈ C, (upd H L (.lst (acc ++ [v]))) a = H a := fun h a ha => upd_ne (h a ha)
      obtain ⟨C, r', z⟩ := (r.mono mo (eqs n3)).snoc (x.mono mo (eqs n1))
      have tot : ∀ a, ((L :: C) ++ B2).count a = A.count a := fun a => by
        rw [List.count_append, cnt a, cc a, List.count_cons]
        have := z a
        by_cases e : L = a
        · simp [e]; omega
        · simp [e]; omega
      refine ⟨(L :: C) ++ B2, fun a => by rw [tot a]; exact w.uniq a, ?_, fun a ha => w.own a (List.count_pos_iff.mp (by rw [← tot a]; exact List.count_pos_iff.mpr ha)), ⟨fun a o e n => ?_, fun a e => ?_⟩⟩
      · have m2 : Mono (Fok c A) (Fok c ((L :: C) ++ B2)) (upd H L (.lst (acc ++ [v]))) (upd H L (.lst (acc ++ [v]))) := .sub fun a _ => Fok.sub (fun a => Nat.le_of_eq (tot a)) a
        exact (Sl.cons (Rp.ol upd_same r') (s.mono mo (eqs n2))).mono m2 fun _ _ => rfl
      · rw [upd_ne]
        · exact w.keep.keep a o e n
        · intro z
          subst z
          rcases w.own a hLA with y | y
          · exact n y
          · rw [e] at y; cases y
      · by_cases z : a = L
        · subst z
          rw [upd_same] at e; cases e
        · rw [upd_ne z] at e
          exact w.keep.there a e
section
variable {X : Cx} {E : Str → Hp → Prop} {pos : Pos}
theorem sim_lc {K : PySem.W.Frag} {wi : TI} {mi : MI} {g : TG} {mg : MG} {tt : TT} {mt : MT} {te : TE} {me : MEx} {vs : List Nat} {g1 : Bool} (si : SimI K E wi mi) (sg : SimG K (notOwn vs) g mg) (st' : SimT K E tt mt) (se : SimE K E g1 te me) : SimE K E false (tLc wi g tt te vs) (mLc mi mg mt me vs) := by
  intro c H tv td σ ρ hl st Q q
  unfold mLc at q
  rw [then_bind] at q
  refine si c H tv td σ ρ hl st _ (q.imp ?_)
  rintro ⟨items, ρ0⟩ q0 J H0 xv xt S st0
  intro L hL
  have q1 := then_bind.mp q0
  -- the state while it runs: the new list on top, then the source
  let Pv : Nat → Hp → Prop := fun i H' => ∃ acc ρ', StR K c H' (some (.ref L) :: (xv ++ (tv ++ wipe σ vs))) (some (.ol acc) :: (xt ++ (td ++ wipeE ρ' vs))) ∧
    Then (mLcLoop mg mt me vs (items.drop i) acc ρ') (fun z => ∀ v H', (false = true → Same H H') → StR K c H' (some v :: (tv ++ σ)) (some (.ol z.1) :: (td ++ wipeE z.2 vs)) → Q v H') (fun x => ∀ H', KeepC c H' → E x H')
  refine ⟨fun i m H' => m = items.length - i ∧ i ≤ items.length ∧ Pv i H', ⟨items.length, by simp, Nat.zero_le _, [], ρ0, ?_, ?_⟩, ?_⟩
  · have s2 : StR K c H0 ((xv ++ tv) ++ wipe σ vs) ((xt ++ td) ++ wipeE ρ0 vs) := StR.wiped (by simp [S.len, hl]) (by simpa [List.append_assoc] using st0) vs
    obtain ⟨A, w⟩ := s2
    have sm := same_upd (o := .lst []) hL
    have m0 : Mono (Fok c A) (Fok c (L :: A)) H0 H0 := Fok.fresh hL
    have sl2 := (w.slots.mono m0 fun _ _ => rfl).mono (.same sm) fun a ha => upd_ne (fun z => w.not_mem_of_none hL (by rw [← z]; exact ha))
    have := Sl.cons (Rp.ol (K := K) (F := Fok c (L :: A)) (H := upd H0 L (.lst [])) (a := L) upd_same .nil) sl2
    refine ⟨L :: A, fun a => ?_, by simpa [List.append_assoc] using this, fun a ha => ?_, w.keep.grow sm⟩
    · rw [List.count_cons]
      have h2 := w.uniq a
      by_cases e : L = a
      · subst e
        have : A.count L = 0 := List.count_eq_zero.mpr (w.not_mem_of_none hL)
        simp [this]
      · have e' : (L == a) = false := by simpa using e
        simp [e']; omega
    · rcases List.mem_cons.mp ha with z | z
      · subst z
        exact .inr (w.keep.there _ hL)
      · exact w.own a z
  · exact q1
  · rintro i m H1 ⟨rfl, hi, acc, ρ1, st1, q1⟩
    by_cases hlt : i < items.length
    · refine .inr ⟨S.goes c H1 _ _ i hlt st1.drop, Pv (i + 1), fun H' p => ⟨items.length - (i + 1), by omega, rfl, hlt, p⟩, fun x H' y => ?_⟩
      have eI : items[i]? = some items[i] := List.getElem?_eq_getElem hlt
      rw [List.drop_eq_getElem_cons hlt] at q1
      -- the source below the new list
      have st1r : StR K c H1 (xv ++ (some (.ref L) :: (tv ++ wipe σ vs))) (xt ++ (some (.ol acc) :: (td ++ wipeE ρ1 vs))) := by
        obtain ⟨A, w⟩ := st1
        obtain ⟨C, s, z⟩ := Sl.sink S.len w.slots
        exact ⟨C, w.remake (fun a => Nat.le_of_eq (z a)) s⟩
      obtain ⟨sm, st2⟩ := S.yields c H1 _ _ i x H' _ eI st1r y
      obtain ⟨ρ2, e2, q2⟩ := then_ofO.mp (then_bind.mp q1)
      refine sg c H' (xv ++ (some (.ref L) :: tv)) (xt ++ (some (.ol acc) :: td)) (wipe σ vs) _ ρ2 x items[i] (by simp [S.len, hl]) (by simpa [List.append_assoc] using st2) e2 _ fun σ2 H2 s2 st3 => ?_
      have ew : wipe σ2 vs = wipe σ vs := by
        have h1 : wipe σ2 vs = wipe (wipe σ vs) vs := wipe_eq s2.len fun i hi => s2.same i (by show (!vs.contains i) = true; simp [hi])
        have h2 : wipe (wipe σ vs) vs = wipe σ vs := wipe_eq (wipe_length σ vs) fun i hi => wipe_get hi
        rw [h1, h2]
      refine ⟨ew, ?_⟩
      refine st' c H2 (xv ++ (some (.ref L) :: tv)) (xt ++ (some (.ol acc) :: td)) σ2 ρ2 (by simp [S.len, hl]) st3 _ ((then_bind.mp q2).imp ?_)
      rintro ⟨b, ρ3⟩ q3 H3 st4
      -- back: the new list on top, slots wiped
      have back : ∀ {H'' : Hp} {ρ'' : Env} {acc' : List T}, StR K c H'' (xv ++ (some (.ref L) :: (tv ++ σ2))) (xt ++ (some (.ol acc') :: (td ++ ρ''))) → StR K c H'' (some (.ref L) :: (xv ++ (tv ++ wipe σ vs))) (some (.ol acc') :: (xt ++ (td ++ wipeE ρ'' vs))) := by
        intro H'' ρ'' acc' h
        have h2 := StR.raiseO S.len h
        have h3 := StR.wiped (tv := some (.ref L) :: (xv ++ tv)) (td := some (.ol acc') :: (xt ++ td)) (by simp [S.len, hl]) (by simpa [List.append_assoc] using h2) vs
        rw [ew] at h3
        simpa [List.append_assoc] using h3
      cases b with
      | false =>
        rw [if_neg (show ¬ (false = true) by decide)]
        exact ⟨acc, ρ3, back (by simpa [List.append_assoc] using st4), q3⟩
      | true =>
        rw [if_pos rfl]
        obtain ⟨gd, q4⟩ := then_guard.mp q3
        refine se c H3 (xv ++ (some (.ref L) :: tv)) (xt ++ (some (.ol acc) :: td)) σ2 ρ3 (by simp [S.len, hl]) st4 _ ((then_bind.mp q4).imp ?_)
        rintro ⟨t, ρ4⟩ q5 v H4 _ st5
        have st6 : StR K c H4 (some (.ref L) :: (some v :: (xv ++ (tv ++ σ2)))) (some (.ol acc) :: (some t :: (xt ++ (td ++ ρ4)))) := StR.raiseO (xs := some v :: xv) (as := some t :: xt) (by simp [S.len]) (by simpa [List.append_assoc] using st5)
        have st7 : StR K c H4 (some v :: (some (.ref L) :: (xv ++ (tv ++ σ2)))) (some t :: (some (.ol acc) :: (xt ++ (td ++ ρ4)))) := StR.raiseO (xs := [some (.ref L)]) (as := [some (.ol acc)]) rfl st6
        obtain ⟨vacc, hv, hlen, st8⟩ := st7.grown
        refine ⟨vacc, hv, by rw [hlen, ← sLine_eq]; exact of_decide_eq_true gd, acc ++ [t], ρ4, ?_, q5⟩
        have h3 := StR.wiped (tv := some (.ref L) :: (xv ++ tv)) (td := some (.ol (acc ++ [t])) :: (xt ++ td)) (by simp [S.len, hl]) (by simpa [List.append_assoc] using st8) vs
        rw [ew] at h3
        simpa [List.append_assoc] using h3
    · have e : i = items.length := by omega
      subst e
      rw [List.drop_length] at q1
      refine .inl ⟨S.stops c H1 _ _ st1.drop, q1 _ H1 (fun z => by cases z) ?_⟩
      have h2 := StR.dropN1 S.len st1
      exact StR.any (tv := some (.ref L) :: tv) (td := some (.ol acc) :: td) (vs := vs) (by simp [hl]) h2 (wipe_length σ vs).symm (fun i hi => (wipe_get hi).symm) fun i hi t => wipeE_none hi t
where
  Sl.sink {K : PySem.W.Frag} {F : Addr → Prop} {H : Hp} {xs : List (Option V)} {as : Env} {ys : List (Option V)} {bs : Env} {v : Option V} {t : Option T} {A : List Addr} (hl : xs.length = as.length) (h : Sl K F H (v :: (xs ++ ys)) (t :: (as ++ bs)) A) : ∃ C, Sl K F H (xs ++ v :: ys) (as ++ t :: bs) C ∧ ∀ a, C.count a = A.count a := by
    induction xs generalizing as A with
    | nil =>
      cases as with
      | nil => exact ⟨A, h, fun _ => rfl⟩
      | cons _ _ => simp at hl
    | cons o xs ih =>
      cases as with
      | nil => simp at hl
      | cons a as =>
        have hl' : xs.length = as.length := by simpa using hl
        cases h with
        | skip s =>
          cases s with
          | skip s =>
            obtain ⟨C, s', z⟩ := ih hl' (.skip s)
            exact ⟨C, .skip s', z⟩
          | cons x s =>
            rename_i A1 B1
            obtain ⟨C, s', z⟩ := ih hl' (.skip s)
            exact ⟨_, .cons x s', fun a => by rw [List.count_append, List.count_append, z a]⟩
        | cons y s =>
          rename_i A0 B0
          cases s with
          | skip s =>
            obtain ⟨C, s', z⟩ := ih hl' (.cons y s)
            exact ⟨C, .skip s', z⟩
          | cons x s =>
            rename_i A1 B1
            obtain ⟨C, s', z⟩ := ih hl' (.cons y s)
            exact ⟨_, .cons x s', fun a => by have := z a; simp only [List.count_append] at this ⊢; omega⟩
end
end L3
namespace L3
open PySem PySem.Spec PyProof.Rows L2
def T.at? : List Int → T → Option T
  | [], t => some t
  | j :: js, .ol ts => (atI ts j).bind (T.at? js)
  | j :: js, .ot ts => (atI ts j).bind (T.at? js)
  | _ :: _, _ => none
def T.put? : List Int → T → T → Option T
  | [], n, _ => some n
  | j :: js, n, .ol ts => (ixN ts.length j).bind fun k => (ts[k]?).bind fun t => (T.put? js n t).map fun t' => .ol (ts.set k t')
  | j :: js, n, .ot ts => (ixN ts.length j).bind fun k => (ts[k]?).bind fun t => (T.put? js n t).map fun t' => .ot (ts.set k t')
  | _ :: _, _, _ => none
inductive Loc (H : Hp) : V → List Int → V → Prop
  | here (v : V) : Loc H v [] v
  | lst {a : Addr} {vs : List V} {j : Int} {js : List Int} {v u : V} : H a = some (.lst vs) → atI vs j = some v → Loc H v js u → Loc H (.ref a) (j :: js) u
  | tup {a : Addr} {vs : List V} {j : Int} {js : List Int} {v u : V} : H a = some (.tup vs) → atI vs j = some v → Loc H v js u → Loc H (.ref a) (j :: js) u
theorem Loc.uniq {H : Hp} : ∀ {v : V} {p : List Int} {u u' : V}, Loc H v p u → Loc H v p u' → u = u'
  | _, _, _, _, .here _, .here _ => rfl
  | _, _, _, _, .lst h1 h2 h3, .lst g1 g2 g3 => by
    rw [h1] at g1; cases g1
    rw [h2] at g2; cases g2
    exact h3.uniq g3
  | _, _, _, _, .tup h1 h2 h3, .tup g1 g2 g3 => by
    rw [h1] at g1; cases g1
    rw [h2] at g2; cases g2
    exact h3.uniq g3
  | _, _, _, _, .lst h1 _ _, .tup g1 _ _ => by rw [h1] at g1; cases g1
  | _, _, _, _, .tup h1 _ _, .lst g1 _ _ => by rw [h1] at g1; cases g1
theorem Loc.grow {H H' : Hp} (s : Same H H') : ∀ {v : V} {p : List Int} {u : V}, Loc H v p u → Loc H' v p u
  | _, _, _, .here v => .here v
  | _, _, _, .lst h1 h2 h3 => .lst (s _ _ h1) h2 (h3.grow s)
  | _, _, _, .tup h1 h2 h3 => .tup (s _ _ h1) h2 (h3.grow s)
theorem Loc.snoc {H : Hp} : ∀ {v : V} {p : List Int} {u w : V} {j : Int}, Loc H v p u → Loc H u [j] w → Loc H v (p ++ [j]) w
  | _, _, _, _, _, .here v, k => k
  | _, _, _, _, _, .lst h1 h2 h3, k => .lst h1 h2 (h3.snoc k)
  | _, _, _, _, _, .tup h1 h2 h3, k => .tup h1 h2 (h3.snoc k)
section
variable {K : PySem.W.Frag} {F F' : Addr → Prop} {H H' : Hp}
structure Put1 (K : PySem.W.Frag) (F : Addr → Prop) (H : Hp) (k : Nat) (vs : List V) (ts : List T) (B : List Addr) : Prop where
  put : ∀ {F' : Addr → Prop} {H' : Hp}, Mono F F' H H' → (∀ a ∈ B, H' a = H a) → ∀ {v' : V} {t' : T} {A2 : List Addr}, Rp K F' H' v' t' A2 → ∃ C, RpAll K F' H' (vs.set k v') (ts.set k t') C ∧ ∀ a, C.count a = A2.count a + B.count a
theorem RpAll.around : ∀ {vs : List V} {ts : List T} {A : List Addr}, RpAll K F H vs ts A → ∀ {k : Nat} {t : T}, ts[k]? = some t → ∃ (v : V) (A1 B : List Addr), vs[k]? = some v ∧ Rp K F H v t A1 ∧ (∀ a, A.count a = A1.count a + B.count a) ∧ Put1 K F H k vs ts B
  | _, _, _, .nil, k, t, h => by simp at h
  | _, _, _, .cons (v := v) (A := A1) (B := B1) x r, 0, t, h => by
    simp at h; subst h
    exact ⟨v, A1, B1, rfl, x, fun a => by rw [List.count_append], ⟨fun m k v' t' A2 y => ⟨A2 ++ B1, .cons y (r.mono m k), fun a => by rw [List.count_append]⟩⟩⟩
  | _, _, _, .cons (A := A0) (B := B0) x r, k + 1, t, h => by
    obtain ⟨v, A1, B, e, y, hc, p⟩ := r.around (k := k) (t := t) (by simpa using h)
    refine ⟨v, A1, A0 ++ B, by simpa using e, y, fun a => by rw [List.count_append, List.count_append, hc a]; omega, ⟨fun m kk v' t' A2 z => ?_⟩⟩
    obtain ⟨C, s, w⟩ := p.put m (fun a ha => kk a (List.mem_append_right _ ha)) z
    exact ⟨A0 ++ C, .cons (x.mono m fun a ha => kk a (List.mem_append_left _ ha)) s, fun a => by rw [List.count_append, List.count_append, w a]; omega⟩
theorem atI_ix {α : Type} {xs : List α} {j : Int} {x : α} (h : atI xs j = some x) : ∃ k, ixN xs.length j = some k ∧ xs[k]? = some x := by
  obtain ⟨k, e1, e2⟩ := Option.bind_eq_some_iff.mp (show (ixN xs.length j).bind (fun k => xs[k]?) = some x from h)
  exact ⟨k, e1, e2⟩
theorem Rp.loc : ∀ {p : List Int} {v0 : V} {t0 t : T} {A0 : List Addr}, Rp K F H v0 t0 A0 → T.at? p t0 = some t → ∃ (v : V) (A1 B : List Addr), Loc H v0 p v ∧ Rp K F H v t A1 ∧ (∀ a, A0.count a = A1.count a + B.count a) ∧
    ∀ {F' : Addr → Prop} {H' : Hp}, Mono F F' H H' → (∀ a ∈ B, H' a = H a) → ∀ {t' : T} {A2 : List Addr}, Rp K F' H' v t' A2 → ∃ t0' C, T.put? p t' t0 = some t0' ∧ Rp K F' H' v0 t0' C ∧ ∀ a, C.count a = A2.count a + B.count a
  | [], v0, t0, t, A0, h, e => by
    cases e
    exact ⟨v0, A0, [], .here v0, h, fun a => by simp, fun m k t' A2 x => ⟨t', A2, rfl, x, fun a => by simp⟩⟩
  | j :: js, _, .ol ts, t, _, .ol (a := a0) (vs := vs) (A := A1) h r, e => by
    obtain ⟨t1, e1, e2⟩ := Option.bind_eq_some_iff.mp (show (atI ts j).bind (T.at? js) = some t from e)
    obtain ⟨k, ek, ev⟩ := atI_ix e1
    obtain ⟨v1, A2, B2, g1, g2, g3, g4⟩ := r.around ev
    obtain ⟨v, A3, B3, l, x, hc, pt⟩ := Rp.loc g2 e2
    have lv : atI vs j = some v1 := by
      show (ixN vs.length j).bind (fun k => vs[k]?) = _
      rw [r.len, ek]; exact g1
    refine ⟨v, A3, a0 :: (B3 ++ B2), .lst h lv l, x, fun a => by rw [List.count_cons, List.count_cons, List.count_append, g3 a, hc a]; omega, fun {F' H'} m kk t' A4 y => ?_⟩
    have k2 : ∀ a ∈ B2, H' a = H a := fun a ha => kk a (List.mem_cons_of_mem _ (List.mem_append_right _ ha))
    have k3 : ∀ a ∈ B3, H' a = H a := fun a ha => kk a (List.mem_cons_of_mem _ (List.mem_append_left _ ha))
    obtain ⟨t1', C, q1, q2, q3⟩ := pt m k3 y
    obtain ⟨C2, s, q4⟩ := g4.put m k2 q2
    have es : vs.set k v1 = vs := set_self g1
    rw [es] at s
    refine ⟨.ol (ts.set k t1'), a0 :: C2, ?_, .ol ((kk a0 List.mem_cons_self).trans h) s, fun a => by rw [List.count_cons, List.count_cons, List.count_append, q4 a, q3 a]; omega⟩
    show (ixN ts.length j).bind _ = _
    rw [ek]
    show (ts[k]?).bind _ = _
    rw [ev]
    show (T.put? js t' t1).map _ = _
    rw [q1]
    rfl
  | j :: js, _, .ot ts, t, _, .ot (a := a0) (vs := vs) (A := A1) h r, e => by
    obtain ⟨t1, e1, e2⟩ := Option.bind_eq_some_iff.mp (show (atI ts j).bind (T.at? js) = some t from e)
    obtain ⟨k, ek, ev⟩ := atI_ix e1
    obtain ⟨v1, A2, B2, g1, g2, g3, g4⟩ := r.around ev
    obtain ⟨v, A3, B3, l, x, hc, pt⟩ := Rp.loc g2 e2
    have lv : atI vs j = some v1 := by
      show (ixN vs.length j).bind (fun k => vs[k]?) = _
      rw [r.len, ek]; exact g1
    refine ⟨v, A3, B3 ++ B2, .tup h lv l, x, fun a => by rw [List.count_append, g3 a, hc a]; omega, fun {F' H'} m kk t' A4 y => ?_⟩
    have k2 : ∀ a ∈ B2, H' a = H a := fun a ha => kk a (List.mem_append_right _ ha)
    have k3 : ∀ a ∈ B3, H' a = H a := fun a ha => kk a (List.mem_append_left _ ha)
    obtain ⟨t1', C, q1, q2, q3⟩ := pt m k3 y
    obtain ⟨C2, s, q4⟩ := g4.put m k2 q2
    have es : vs.set k v1 = vs := set_self g1
    rw [es] at s
    refine ⟨.ot (ts.set k t1'), C2, ?_, .ot (m.still _ _ h trivial) s, fun a => by rw [q4 a, q3 a, List.count_append]; omega⟩
    show (ixN ts.length j).bind _ = _
    rw [ek]
    show (ts[k]?).bind _ = _
    rw [ev]
    show (T.put? js t' t1).map _ = _
    rw [q1]
    rfl
  | _ :: _, _, .d _, _, _, _, e => by cases e
  | _ :: _, _, .od _ _, _, _, _, e => by cases e
  | _ :: _, _, .fd _ _ _, _, _, _, e => by cases e
  | _ :: _, _, .fk _ _ _, _, _, _, e => by cases e
  | _ :: _, _, .dt _ _ _, _, _, _, e => by cases e
  | _ :: _, _, .no _, _, _, _, e => by cases e
  | _ :: _, _, .hl, _, _, _, e => by cases e
  | _ :: _, _, .ex _, _, _, _, e => by cases e
  | _ :: _, _, .ob _ _ _, _, _, _, e => by cases e
  | _ :: _, _, .rd _, _, _, _, e => by cases e
end
def T.int? : T → Option Int
  | .d (.int j) => some j
  | _ => none
theorem int?_eq {t : T} {j : Int} (h : t.int? = some j) : t = .d (.int j) := by
  unfold T.int? at h
  split at h
  · cases h; rfl
  · cases h
abbrev ML := Env → Option (List Int)
def SimL (K : PySem.W.Frag) (i : Nat) (te : TE) (mp : ML) : Prop :=
  ∀ (c : C0) (H : Hp) (tv : List (Option V)) (td : Env) (σ : L2.St) (ρ : Env) (A : List Addr) (p : List Int) (t0 t : T), tv.length = td.length → StW K c H (tv ++ σ) (td ++ ρ) A → mp ρ = some p → ρ[i]? = some (some t0) → T.at? p t0 = some t → ∀ Q : VK,
    (∀ v0 v, σ[i]? = some (some v0) → Loc H v0 p v → Q v H) → te σ H Q
structure QL (X : Cx) (i : Nat) (e : Expr) (te : TE) (mp : ML) : Prop where
  pe : PE X e te
  sim : SimL X.K i te mp
def lHere : ML := fun _ => some []
def lIx (mp : ML) (mi : MP) : ML := fun ρ => (mp ρ).bind fun p => ((mi ρ).bind T.int?).bind fun j => some (p ++ [j])
section
variable {X : Cx} {E : Str → Hp → Prop} {a b : Expr} {ta tb : TE} {pos : Pos}
theorem ql_name (i : Nat) {x : Str} {pos : Pos} (hN : X.N[i]? = some x := by rfl) (hv : Vis X.env.scope x := by first | exact Or.inl rfl | exact Or.inr (Or.inl rfl) | exact Or.inr (Or.inr rfl)) (hd : (x == ("__debug__" : Str)) = false := by decide)
    (hcd : (x == ("__classdict__" : Str)) = false := by decide) : QL X i (.Name x pos) (tVar i) lHere := ⟨pe_var hN hv hd hcd, fun c H tv td σ ρ A p t0 t hl w e1 e2 e3 Q q => by
  cases e1
  obtain ⟨v, A1, e4, _, _⟩ := w.see hl e2
  exact ⟨v, e4, q v v e4 (.here v)⟩⟩
end
def UpdV (K : PySem.W.Frag) (rM : V → List V → Hp → VK → Prop) (op : List T → List T → Option (T × List T)) : Prop :=
  ∀ (F : Addr → Prop) (H : Hp) (a : Addr) (vs ys : List V) (ts us : List T) (A1 A2 : List Addr) (r : T × List T), H a = some (.lst vs) → RpAll K F H vs ts A1 → RpAll K F H ys us A2 → op ts us = some r → ∀ Q : VK,
    (∀ res vs' C1 C2, Rp K F H res r.1 C1 → RpAll K F H vs' r.2 C2 → (∀ b, C1.count b + C2.count b ≤ A1.count b + A2.count b) → Q res (upd H a (.lst vs'))) → rM (.ref a) ys H Q
def lstAt (p : List Int) (o : Option (Option T)) : Option (List T) := match o with
  | some (some t) => (match T.at? p t with | some (.ol ts) => some ts | _ => none)
  | _ => none
def putAt (i : Nat) (p : List Int) (ts : List T) (ρ : Env) : Option Env := match ρ[i]? with
  | some (some t) => (T.put? p (.ol ts) t).map fun t' => ρ.set i (some t')
  | _ => none
def mMeth (i : Nat) (mp : ML) (op : List T → List T → Option (T × List T)) (ma : MA) : MEx := fun ρ => (ofO (mp ρ)).bind fun p => (ofO (lstAt p ρ[i]?)).bind fun _ => (ma ρ).bind fun r => (ofO (lstAt p r.2[i]?)).bind fun ts => (ofO (op ts r.1)).bind fun z => (ofO (putAt i p z.2 r.2)).bind fun ρ' => .ok (z.1, ρ')
theorem lstAt_some {p : List Int} {o : Option (Option T)} {ts : List T} (h : lstAt p o = some ts) : ∃ t, o = some (some t) ∧ T.at? p t = some (.ol ts) := by
  unfold lstAt at h
  split at h
  · rename_i t
    split at h
    · rename_i e
      cases h
      exact ⟨t, rfl, e⟩
    · cases h
  · cases h
theorem StW.write {K : PySem.W.Frag} {c : C0} {H : Hp} {tv : List (Option V)} {td : Env} {σ : L2.St} {ρ : Env} {A Aa B : List Addr} (hl : tv.length = td.length) (u : ∀ a, A.count a ≤ 1) (ow : ∀ a ∈ A, a ∈ c.A0 ∨ c.H0 a = none) (k : KeepC c H) (hc : ∀ a, Aa.count a + B.count a ≤ A.count a)
    (s : Sl K (Fok c A) H (tv ++ σ) (td ++ ρ) B) {i : Nat} {p : List Int} {t0 : T} {ts : List T} (e0 : ρ[i]? = some (some t0)) (e1 : T.at? p t0 = some (.ol ts)) :
    ∃ (v0 : V) (a : Addr) (vs : List V) (A1 : List Addr), σ[i]? = some (some v0) ∧ Loc H v0 p (.ref a) ∧ H a = some (.lst vs) ∧ RpAll K (Fok c A) H vs ts A1 ∧
      ∀ (res : V) (tr : T) (vs' : List V) (ts' : List T) (C1 C2 : List Addr) (ρ' : Env), Rp K (Fok c A) H res tr C1 → RpAll K (Fok c A) H vs' ts' C2 → (∀ b, C1.count b + C2.count b ≤ A1.count b + Aa.count b) → putAt i p ts' ρ = some ρ' →
        StR K c (upd H a (.lst vs')) (some res :: (tv ++ σ)) (some tr :: (td ++ ρ')) := by
  have hlen := s.len
  have hi : i < ρ.length := (List.getElem?_eq_some_iff.mp e0).1
  obtain ⟨B1, hb, ar, get⟩ := s.around (i := tv.length + i) (by rw [hlen, List.length_append]; omega)
  obtain ⟨v0, A0, e3, x, hc1⟩ := get t0 (by rw [app_at hl.symm, e0])
  rw [app_at rfl] at e3
  obtain ⟨v, Al, Bl, l, xl, hc2, pt⟩ := x.loc e1
  cases xl with
  | @ol a vs _ A1 ha ra =>
    refine ⟨v0, a, vs, A1, e3, l, ha, ra, fun res tr vs' ts' C1 C2 ρ' xr xs hC ep => ?_⟩
    have cc : ∀ b, (a :: A1).count b = A1.count b + (if a = b then 1 else 0) := fun b => by
      rw [List.count_cons]
      by_cases e : a = b
      · simp [e]
      · simp [e]
    have tot : ∀ b, A1.count b + (if a = b then 1 else 0) + Bl.count b + B1.count b + Aa.count b ≤ A.count b := fun b => by
      have h1 := hc b
      have h2 := hc1 b
      have h3 := hc2 b
      have h4 := cc b
      omega
    have aA : a ∈ A := List.count_pos_iff.mp (by have := tot a; rw [if_pos rfl] at this; omega)
    have ne : ∀ {C : List Addr}, (∀ b, C.count b + (if a = b then 1 else 0) ≤ A.count b) → ∀ b ∈ C, b ≠ a := fun {C} h b hb e => by
      subst e
      have h1 := h b
      have h2 := u b
      have h3 := List.count_pos_iff.mpr hb
      rw [if_pos rfl] at h1
      omega
    let H2 := upd H a (.lst vs')
    have mo : Mono (Fok c A) (Fok c A) H H2 := ⟨fun b ws e f => ⟨by show upd H a _ b = _; rw [upd_ne (fun z => f.2 (by rw [z]; exact aA))]; exact e, f⟩, fun b uu e st => by
      show upd H a _ b = _
      rw [upd_ne (fun z => by rw [z, ha] at e; cases e; exact st)]
      exact e⟩
    have eqs : ∀ {C : List Addr}, (∀ b ∈ C, b ≠ a) → ∀ b ∈ C, H2 b = H b := fun h b hb => upd_ne (h b hb)
    have nC1 : ∀ b ∈ C1, b ≠ a := ne fun b => by have := hC b; have := tot b; omega
    have nC2 : ∀ b ∈ C2, b ≠ a := ne fun b => by have := hC b; have := tot b; omega
    have nBl : ∀ b ∈ Bl, b ≠ a := ne fun b => by have := tot b; omega
    have nB1 : ∀ b ∈ B1, b ≠ a := ne fun b => by have := tot b; omega
    obtain ⟨t0', C3, q1, q2, q3⟩ := pt mo (eqs nBl) (t' := .ol ts') (A2 := a :: C2) (.ol upd_same (xs.mono mo (eqs nC2)))
    obtain ⟨C4, s4, q4⟩ := ar.put mo (eqs nB1) q2
    rw [app_set rfl, set_self e3, app_set hl.symm] at s4
    have er : ρ' = ρ.set i (some t0') := by
      unfold putAt at ep
      rw [e0] at ep
      dsimp only at ep
      rw [q1] at ep
      cases ep
      rfl
    subst er
    have fin : ∀ b, (C1 ++ C4).count b ≤ A.count b := fun b => by
      have h1 := q4 b
      have h2 := q3 b
      have h3 := hC b
      have h4 := tot b
      rw [List.count_append]
      rw [List.count_cons] at h2
      by_cases e : a = b
      · simp [e] at h2 h4; omega
      · simp [e] at h2 h4; omega
    refine ⟨C1 ++ C4, fun b => Nat.le_trans (fin b) (u b), ?_, fun b hb => ow b (List.count_pos_iff.mp (Nat.lt_of_lt_of_le (List.count_pos_iff.mpr hb) (fin b))), ⟨fun b o e n => ?_, fun b e => ?_⟩⟩
    · exact (Sl.cons (xr.mono mo (eqs nC1)) s4).mono (.sub fun b _ => Fok.sub fin b) fun _ _ => rfl
    · rw [upd_ne]
      · exact k.keep b o e n
      · intro z
        subst z
        rcases ow b aA with y | y
        · exact n y
        · rw [e] at y; cases y
    · by_cases z : b = a
      · subst z
        rw [upd_same] at e; cases e
      · rw [upd_ne z] at e
        exact k.there b e
section
variable {X : Cx} {E : Str → Hp → Prop} {o e : Expr} {es : List Expr} {to : TE} {t : TA} {name : Str} {apos cpos : Pos} {id : String} {rM : V → List V → Hp → VK → Prop} {op : List T → List T → Option (T × List T)} {g : Bool}
theorem ty_list {K : PySem.W.Frag} {a : Addr} {vs : List V} {H : Hp} (h : H a = some (.lst vs)) : tyV K "list" (.ref a) H := .inl ⟨rfl, vs, .of h⟩
theorem sim_meth {K : PySem.W.Frag} {i : Nat} {mp : ML} {ma : MA} (hv : UpdV K rM op) (sl : SimL K i to mp) (sa : SimA K E g t ma) (hg : g = true ∨ ∀ ρ p, mp ρ = some p → p = []) : SimE K E false (tBM K "list" rM to t) (mMeth i mp op ma) := by
  intro c H tv td σ ρ hl st Q q
  unfold mMeth at q
  obtain ⟨p, ep, q⟩ := then_ofO.mp (then_bind.mp q)
  obtain ⟨ts0, el, q⟩ := then_ofO.mp (then_bind.mp q)
  obtain ⟨t0, e0, e1⟩ := lstAt_some el
  have q1 := then_bind.mp q
  obtain ⟨A, w⟩ := st
  refine sl c H tv td σ ρ A p t0 _ hl w ep e0 e1 _ fun v0 v ev0 lv => ?_
  obtain ⟨v0', a0, vs0, A10, ev0', l0, ha0, _, _⟩ := StW.write (Aa := []) hl w.uniq w.own w.keep (fun a => by simp) w.slots e0 e1
  rw [ev0] at ev0'; cases ev0'
  have ev := lv.uniq l0
  subst ev
  refine ⟨ty_list ha0, ?_⟩
  refine sa c H tv td σ ρ hl ⟨A, w⟩ _ (q1.imp ?_)
  intro r q2 ys H1 sm hys st1
  obtain ⟨ts, er, q3⟩ := then_ofO.mp (then_bind.mp q2)
  obtain ⟨t1, e2, e3⟩ := lstAt_some er
  obtain ⟨z, ez, q4⟩ := then_ofO.mp (then_bind.mp q3)
  obtain ⟨ρ', eρ, q5⟩ := then_ofO.mp (then_bind.mp q4)
  obtain ⟨A', w1⟩ := st1
  obtain ⟨Aa, B, eA, ra, s⟩ := w1.slots.front hys
  obtain ⟨v1, a, vs, A1, ev1, l1, ha, rl, fin⟩ := StW.write (Aa := Aa) hl w1.uniq w1.own w1.keep (fun a => by rw [eA, List.count_append]; exact Nat.le_refl _) s e2 e3
  rw [ev0] at ev1; cases ev1
  have ea : a0 = a := by
    rcases hg with hg | hg
    · have := (lv.grow (sm hg)).uniq l1
      cases this; rfl
    · have := hg ρ p ep
      subst this
      cases l1; cases lv; rfl
  subst ea
  refine hv _ H1 a0 vs ys ts r.1 A1 Aa z ha rl ra ez Q fun res vs' C1 C2 x1 x2 hC => ?_
  exact q5 _ _ (fun y => by cases y) (fin res z.1 vs' z.2 C1 C2 ρ' x1 x2 hC eρ)
theorem lHere_nil {ρ : Env} {p : List Int} (h : lHere ρ = some p) : p = [] := by cases h; rfl
theorem qe_meth {i : Nat} {mp : ML} {ma : MA} (slot : Slot "list" name id) (hty : typeOf (.builtin id) = pure (.type "method_descriptor")) (hm : MtR X id rM) (hv : UpdV X.K rM op) (ho : QL X i o to mp) (ha : QA X E g (e :: es) t ma) (hg : g = true ∨ ∀ ρ p, mp ρ = some p → p = [])
    (hbase : attributeBase o name X.env (eval o X.env) = eval o X.env := by rfl)
    (hfew : ((backTo cpos (starEach (e :: es) X.env)).all (fun x => !x.1) && (backToKw cpos (keywordEach [] X.env)).all (fun x => x.1.isSome)
      && decide ((e :: es).length + ([] : List Keyword).length + (if ([] : List Keyword).isEmpty then 0 else 1) < 30)) = true := by rfl)
    (hline : (apos.endLine == cpos.line) = true := by rfl) (hs : starEach (e :: es) X.env = (false, eval e X.env) :: starEach es X.env := by rfl) (hplain : (backTo cpos (starEach es X.env)).any (·.1) = false := by rfl) :
    QE X E false (.Call (.Attribute o name apos) (e :: es) [] cpos) (tBM X.K "list" rM to t) (mMeth i mp op ma) := ⟨pe_bm PySem.F.plainAttrs_list slot hty hm ho.pe ha.pa hbase hfew hline hs hplain, sim_meth hv ho.sim ha.sim hg⟩
end
def opAppend : List T → List T → Option (T × List T) := fun ts us => match us with
  | [u] => if decide (ts.length < sLine) = true then some (.d .none, ts ++ [u]) else none
  | _ => none
theorem append_v {K : PySem.W.Frag} : UpdV K rAppend opAppend := by
  intro F H a vs ys ts us A1 A2 r ha r1 r2 e Q q
  unfold opAppend at e
  split at e
  · split at e
    · rename_i u hz
      cases e
      cases r2 with
      | cons x rn =>
        rename_i v vs0 Ax Bx
        cases rn
        have hz' := of_decide_eq_true hz
        obtain ⟨C, r', z⟩ := r1.snoc x
        exact ⟨a, vs, v, rfl, rfl, ha, by rw [r1.len, ← sLine_eq]; exact hz', q .non _ [] C (.d .non) r' fun b => by rw [z b, List.count_append]; simp⟩
    · cases e
  · cases e
def T.kids : T → Option (List T)
  | .d (.list ds) => some (ds.map T.d)
  | .ol ts => some ts
  | _ => none
theorem RpAll.append {K : PySem.W.Frag} {F : Addr → Prop} {H : Hp} : ∀ {vs ws : List V} {ts us : List T} {A B : List Addr}, RpAll K F H vs ts A → RpAll K F H ws us B → ∃ C, RpAll K F H (vs ++ ws) (ts ++ us) C ∧ ∀ a, C.count a = A.count a + B.count a
  | _, _, _, _, _, B, .nil, x => ⟨B, x, fun a => by simp⟩
  | _, _, _, _, _, _, .cons (A := A1) y r, x => by
    obtain ⟨C, r', z⟩ := r.append x
    exact ⟨A1 ++ C, .cons y r', fun a => by rw [List.count_append, List.count_append, z a]; omega⟩
theorem Rp.kids {K : PySem.W.Frag} {F : Addr → Prop} {H : Hp} {v : V} {t : T} {A : List Addr} {us : List T} (h : Rp K F H v t A) (e : t.kids = some us) : ∃ b ws B, v = .ref b ∧ H b = some (.lst ws) ∧ RpAll K F H ws us B ∧ ∀ a, B.count a ≤ A.count a := by
  unfold T.kids at e
  split at e
  · cases e
    cases h with
    | d h =>
      cases h with
      | lst h1 _ f => exact ⟨_, _, [], rfl, h1, RpAll.ofFz f, fun a => by simp⟩
  · cases e
    cases h with
    | ol h1 r => exact ⟨_, _, _, rfl, h1, r, fun a => by rw [List.count_cons]; omega⟩
  · cases e
def opExtend : List T → List T → Option (T × List T) := fun ts us => match us with
  | [u] => (match u.kids with | some ks => if decide (ts.length + ks.length ≤ sLine) = true then some (.d .none, ts ++ ks) else none | none => none)
  | _ => none
def mgItem (i : Nat) (mp : ML) (mi : MP) : MG := fun t ρ => (mp ρ).bind fun p => ((mi ρ).bind T.int?).bind fun j => (lstAt p ρ[i]?).bind fun ts => (ixN ts.length j).bind fun k => putAt i p (ts.set k t) ρ
section
variable {X : Cx} {a b : Expr} {ta tb : TE} {pos : Pos} {pr : Nat → Bool}
theorem RpAll.setk {K : PySem.W.Frag} {F : Addr → Prop} {H : Hp} {vs : List V} {ts : List T} {A B : List Addr} {v : V} {t : T} (r : RpAll K F H vs ts A) (k : Nat) (hk : k < ts.length) (x : Rp K F H v t B) : ∃ C, RpAll K F H (vs.set k v) (ts.set k t) C ∧ ∀ a, C.count a ≤ A.count a + B.count a := by
  obtain ⟨v1, A1, B1, _, _, hc, p⟩ := r.around (List.getElem?_eq_getElem hk)
  obtain ⟨C, s, z⟩ := p.put (Mono.sub fun _ _ x => x) (fun _ _ => rfl) x
  exact ⟨C, s, fun a => by have := z a; have := hc a; omega⟩
theorem qg_item {i : Nat} {mp : ML} {mi : MP} (ho : QL X i a ta mp) (hi : QP X b tb mi) (ha : ∀ v, assign (.Subscript a b pos) X.env v = (do
      let ov ← holding [v] (eval a X.env)
      let iv ← holding [v, ov] (eval b X.env)
      standAt pos
      holding [v, ov, iv] (setItem ov iv v)
      release [v, ov, iv] []) := by intro _; rfl) : QG X pr (.Subscript a b pos) (gSub ta tb rSetL) (mgItem i mp mi) := by
  refine ⟨pg_sub ho.pe hi.pe set_list ha, fun c H tv td σ ρ ρ' v t hl st e Q q => ?_⟩
  unfold mgItem at e
  obtain ⟨p, e1, e⟩ := Option.bind_eq_some_iff.mp e
  obtain ⟨j, e2', e⟩ := Option.bind_eq_some_iff.mp e
  obtain ⟨tj, e2, e20⟩ := Option.bind_eq_some_iff.mp e2'
  cases int?_eq e20
  obtain ⟨ts, e3, e⟩ := Option.bind_eq_some_iff.mp e
  · obtain ⟨k, e4, e5⟩ := Option.bind_eq_some_iff.mp e
    obtain ⟨t0, e6, e7⟩ := lstAt_some e3
    obtain ⟨A, w⟩ := st
    have w' : StW X.K c H ((some v :: tv) ++ σ) ((some t :: td) ++ ρ) A := w
    refine ho.sim c H (some v :: tv) (some t :: td) σ ρ A p t0 _ (by simp [hl]) w' e1 e6 e7 _ fun v0 vo ev0 lo => ?_
    refine hi.sim c H (some v :: tv) (some t :: td) σ ρ A _ (by simp [hl]) w' e2 _ fun u Au ru _ => ?_
    have eu := ru.i
    obtain ⟨Aa, B, eA, x, s⟩ := w.top
    obtain ⟨v1, a1, vs, A1, ev1, l1, ha1, rl, fin⟩ := StW.write (Aa := Aa) hl w.uniq w.own w.keep (fun a => by rw [eA, List.count_append]; exact Nat.le_refl _) s e6 e7
    rw [ev0] at ev1; cases ev1
    have := lo.uniq l1
    subst this
    have hk : k < ts.length := (ixN_seq e4).2.1
    refine ⟨a1, vs, j, k, rfl, eu, ha1, by rw [rl.len]; exact e4, ?_⟩
    obtain ⟨C, s', z⟩ := rl.setk k hk x
    exact q σ _ .refl (fin .non (.d .none) _ _ [] C ρ' (.d .non) s' (fun b => by have := z b; simp; omega) e5).drop
end
end L3
namespace L3
open PySem PySem.Spec PyProof.Rows L2
def T.size : T → Option Nat
  | .d (.list ds) => some ds.length
  | .d (.tuple ds) => some ds.length
  | .d (.str s) => if decide (s.length ≤ sLine) = true then some s.length else none
  | .ol ts => some ts.length
  | .ot ts => some ts.length
  | .rd ds => some ds.length
  | _ => none
def opLen : List T → R RV
  | [t] => (ofO t.size).bind fun n => .ok (.v (.d (.int n)))
  | _ => .bad
abbrev rLen (K : PySem.W.Frag) : List V → Hp → VK → Prop := fun xs H Q => ∃ x n, xs = [x] ∧ LenV K x H n ∧ Q (.int n) H
theorem one_of {K : PySem.W.Frag} {F : Addr → Prop} {H : Hp} {vs : List V} {t : T} {A : List Addr} (h : RpAll K F H vs [t] A) : ∃ v B, vs = [v] ∧ Rp K F H v t B ∧ ∀ a, B.count a ≤ A.count a := by
  cases h with
  | cons x r =>
    cases r
    exact ⟨_, _, rfl, x, fun a => by rw [List.count_append]; omega⟩
theorem two_of {K : PySem.W.Frag} {F : Addr → Prop} {H : Hp} {vs : List V} {t t2 : T} {A : List Addr} (h : RpAll K F H vs [t, t2] A) : ∃ v u B C, vs = [v, u] ∧ Rp K F H v t B ∧ Rp K F H u t2 C := by
  cases h with
  | cons x r =>
    cases r with
    | cons y r =>
      cases r
      exact ⟨_, _, _, _, rfl, x, y⟩
theorem Rp.size {K : PySem.W.Frag} {F : Addr → Prop} {H : Hp} {v : V} {t : T} {A : List Addr} {n : Nat} (h : Rp K F H v t A) (e : t.size = some n) : LenV K v H n := by
  unfold T.size at e
  split at e
  · cases e
    cases h with | d h => cases h with | lst h _ f => exact .inl ⟨_, .of h, f.len.symm⟩
  · cases e
    cases h with | d h => cases h with | tup h f => exact .inr ⟨_, h, f.len.symm⟩
  · split at e
    · rename_i hz
      cases e
      cases h with | d h => cases h; exact ⟨by rw [← sLine_eq]; exact of_decide_eq_true hz, rfl⟩
    · cases e
  · cases e
    cases h with | ol h f => exact .inl ⟨_, .of h, f.len.symm⟩
  · cases e
    cases h with | ot h f => exact .inr ⟨_, .of h, f.len.symm⟩
  · cases e
    cases h with | rd h f => exact .inl ⟨_, h.sq, f.len.symm⟩
  · cases e
theorem opLen_v {K : PySem.W.Frag} : CallV K (rLen K) opLen := by
  intro F H vs ts A r Q q
  unfold opLen at q
  split at q
  · obtain ⟨n, e, q⟩ := then_ofO.mp (then_bind.mp q)
    obtain ⟨v, B, rfl, x, _⟩ := one_of r
    exact ⟨v, n, rfl, x.size e, rv_d q (.int _)⟩
  · exact q.elim
def opAbs : List T → R RV
  | [.d (.int i)] => .ok (.v (.d (.int (if i < 0 then -i else i))))
  | _ => .bad
def opInt1 : List T → R RV
  | [.d (.int i)] => .ok (.v (.d (.int i)))
  | [.d (.bool b)] => .ok (.v (.d (.int (if b then 1 else 0))))
  | _ => .bad
abbrev rInt1 : List V → Hp → VK → Prop := fun xs H Q => (∃ i, xs = [.int i] ∧ Q (.int i) H) ∨ ∃ k, xs = [.bl k] ∧ Q (.int (if k then 1 else 0)) H
theorem opInt1_v {K : PySem.W.Frag} : CallV K rInt1 opInt1 := by
  intro F H vs ts A r Q q
  unfold opInt1 at q
  split at q
  · obtain ⟨v, B, rfl, x, _⟩ := one_of r
    cases x.i
    exact .inl ⟨_, rfl, rv_d q (.int _)⟩
  · obtain ⟨v, B, rfl, x, _⟩ := one_of r
    cases x.b
    exact .inr ⟨_, rfl, rv_d q (.int _)⟩
  · exact q.elim
def T.seq? : T → Option (List PyData)
  | .d (.list ds) => some ds
  | .d (.tuple ds) => some ds
  | .ol ts => T.allD ts
  | .rd ds => some ds
  | _ => none
theorem Rp.seq? {K : PySem.W.Frag} {F : Addr → Prop} {H : Hp} {v : V} {t : T} {A : List Addr} {ds : List PyData} (h : Rp K F H v t A) (e : t.seq? = some ds) : ∃ a vs, v = .ref a ∧ (SqL K H a vs ∨ SqT K H a vs) ∧ FzAll K F H vs ds := by
  unfold T.seq? at e
  split at e
  · cases e
    cases h with | d h => cases h with | lst h _ f => exact ⟨_, _, rfl, .inl (.of h), f⟩
  · cases e
    cases h with | d h => cases h with | tup h f => exact ⟨_, _, rfl, .inr h, f⟩
  · cases h with | ol h r => exact ⟨_, _, rfl, .inl (.of h), (r.data e).1⟩
  · cases e
    cases h with | rd h f => exact ⟨_, _, rfl, .inl h.sq, f⟩
  · cases e
def opListOf : List T → R RV
  | [t] => (ofO t.seq?).bind fun ds => .ok (.nl ds)
  | _ => .bad
abbrev rListOf (K : PySem.W.Frag) : List V → Hp → VK → Prop := fun xs H Q => ∃ p ys, xs = [.ref p] ∧ (SqL K H p ys ∨ SqT K H p ys) ∧ ∀ l, H l = none → Q (.ref l) (upd H l (.lst ys))
theorem opListOf_v {K : PySem.W.Frag} : CallV K (rListOf K) opListOf := by
  intro F H vs ts A r Q q
  unfold opListOf at q
  split at q
  · obtain ⟨ds, e, q⟩ := then_ofO.mp (then_bind.mp q)
    obtain ⟨v, B, rfl, x, _⟩ := one_of r
    obtain ⟨a, ws, rfl, h, f⟩ := x.seq? e
    exact ⟨a, ws, rfl, h, fun l hl => q l ws hl f⟩
  · exact q.elim
theorem opListOf_nox : NoXL opListOf := by
  intro x c
  unfold opListOf
  split
  · exact bind_noexc (fun _ => ofO_noexc _) (by intro _ _ z; cases z) c
  · intro z; cases z
def opTupleOf : List T → R RV
  | [.d (.tuple ds)] => .ok (.v (.d (.tuple ds)))
  | [t] => (ofO t.lst?).bind fun ds => .ok (.nt ds)
  | _ => .bad
def opMax2 : List T → R RV
  | [.d (.int i), .d (.int j)] => .ok (.v (.d (.int (if j > i then j else i))))
  | _ => .bad
def opMin2 : List T → R RV
  | [.d (.int i), .d (.int j)] => .ok (.v (.d (.int (if j < i then j else i))))
  | _ => .bad
abbrev rMax2 : List V → Hp → VK → Prop := fun xs H Q => ∃ i j, xs = [.int i, .int j] ∧ Q (.int (if j > i then j else i)) H
theorem opMax2_v {K : PySem.W.Frag} : CallV K rMax2 opMax2 := by
  intro F H vs ts A r Q q
  unfold opMax2 at q
  split at q
  · obtain ⟨v, u, B, C, rfl, x, y⟩ := two_of r
    cases x.i; cases y.i
    exact ⟨_, _, rfl, rv_d q (.int _)⟩
  · exact q.elim
def opNeg : T → R RV
  | .d (.int i) => .ok (.v (.d (.int (-i))))
  | _ => .bad
theorem opNeg_v {K : PySem.W.Frag} : UnV K (rU fun i => .int (-i)) opNeg := by
  intro F H v x A hx Q q
  unfold opNeg at q
  split at q
  · exact ⟨_, hx.i, rv_d q (.int _)⟩
  · exact q.elim
section
variable {X : Cx} {E : Str → Hp → Prop} {a e : Expr} {ta te : TE} {ma : MP} {pos : Pos} {io : List Nat}
theorem qp_neg (ha : QP X a ta ma) : QP X (.UnaryOp .USub a pos) (tUn (rU fun i => .int (-i)) ta) (pUn opNeg ma) := ⟨pe_un un_neg ha.pe, sim_pun opNeg_v ha.sim⟩
def T.ty : T → Option String
  | .d .none => some "NoneType"
  | .d (.bool _) => some "bool"
  | .d (.int _) => some "int"
  | .d (.str _) => some "str"
  | .d (.list _) => some "list"
  | .d (.tuple _) => some "tuple"
  | .d (.dict _) => some "dict"
  | .ol _ => some "list"
  | .ot _ => some "tuple"
  | _ => none
def isaT (n : String) (t : T) : Option Bool := t.ty.bind fun m => kitB m n
def pIsa (n : String) (m : MP) : MP := fun ρ => ((m ρ).bind (isaT n)).map fun b => .d (.bool b)
theorem sqT_tyx {K : PySem.W.Frag} {H : Hp} {a : Addr} {vs : List V} (h : SqT K H a vs) : TyX K H (.ref a) (.type "tuple") := by
  rcases h with (h | ⟨o, h⟩) | ⟨o, its, n, h, c, _⟩
  · exact .base (.tup h)
  · exact .fTuple h
  · exact .kTuple h c
theorem Rp.ty {K : PySem.W.Frag} {F : Addr → Prop} {H : Hp} {v : V} {t : T} {A : List Addr} {n : String} (h : Rp K F H v t A) (e : t.ty = some n) : TyX K H v (.type n) := by
  unfold T.ty at e
  split at e
  · cases e; cases h with | d h => cases h; exact .base .non
  · cases e; cases h with | d h => cases h; exact .base (.bl _)
  · cases e; cases h with | d h => cases h; exact .base (.int _)
  · cases e; cases h with | d h => cases h; exact .base (.str _)
  · cases e; cases h with | d h => cases h with | lst h _ _ => exact .base (.lst h)
  · cases e; cases h with | d h => cases h with | tup h _ => exact sqT_tyx h
  · cases e; cases h with | d h => cases h with | edc h _ => exact .base (.dK h)
  · cases e; cases h with | ol h _ => exact .base (.lst h)
  · cases e; cases h with | ot h _ => exact .base (.tup h)
  · cases e
theorem qp_isi {n : String} {x : Str} {p p2 : Pos} (he : QP X e te ma) (hm : X.mg "isinstance" = none) (hm2 : X.mg x = none) (hv : bootBuiltins x = some (.type n)) (hg : Gl X "isinstance" := by rfl) (hg2 : Gl X x := by rfl) (hn : x ≠ "__name__" := by decide) (hd : (x == ("__debug__" : Str)) = false := by decide)
    (hs : starEach [e, .Name x p2] X.env = (false, eval e X.env) :: starEach [.Name x p2] X.env := by rfl) (hpl : (backTo pos (starEach [.Name x p2] X.env)).any (·.1) = false := by rfl)
    (hs2 : starEach [.Name x p2] X.env = (false, eval (.Name x p2) X.env) :: starEach [] X.env := by rfl) : QP X (.Call (.Name "isinstance" p) [e, .Name x p2] [] pos) (tCB (rIsi X.K) (tCons te (tCons (tC (.ty n)) tNil))) (pIsa n ma) := by
  refine ⟨pe_callB call_isi hg hm (by decide +kernel) (pa_cons he.pe (pa_cons (pe_bltn hg2 hm2 hv rfl hn hd) pa_nil hs2) hs) (by decide) (by decide) hs hpl, fun c H tv td σ ρ A t hl w e1 Q q => ?_⟩
  unfold pIsa at e1
  obtain ⟨b, e2, e3⟩ := Option.map_eq_some_iff.mp e1
  obtain ⟨t0, e4, e5⟩ := Option.bind_eq_some_iff.mp e2
  obtain ⟨m, e6, e7⟩ := Option.bind_eq_some_iff.mp e5
  subst e3
  refine he.sim c H tv td σ ρ A t0 hl w e4 _ fun v A1 r _ => ?_
  exact ⟨v, .ty n, _, _, b, rfl, .ty n, r.ty e6, kit_ty e7, q _ [] (.d (.bl b)) fun _ z => by simp at z⟩
theorem StW.pair {K : PySem.W.Frag} {c : C0} {H : Hp} {sl : List (Option V)} {ρ : Env} {A : List Addr} {p : Addr} {x y : V} {d e : PyData} (w : StW K c H sl ρ A) (hp : H p = none) (fx : Fz K (Fok c A) H x d) (fy : Fz K (Fok c A) H y e) :
    StW K c (upd H p (.tup [x, y])) (some (.ref p) :: sl) (some (.d (.tuple [d, e])) :: ρ) A := by
  have sm := same_upd (o := .tup [x, y]) hp
  exact (w.grow sm).pushD (.tup (.of upd_same) (.cons (fx.mono (.same sm)) (.cons (fy.mono (.same sm)) .nil)))
def zipItems (ds es : List PyData) : List T := (ds.zip es).map fun p => .d (.tuple [p.1, p.2])
def miZ (m : MA) : MI := fun ρ => (m ρ).bind fun r => match r.1 with | [.d (.list ds), .d (.list es)] => .ok (zipItems ds es, r.2) | _ => .bad
def enumItems (ds : List PyData) : List T := (List.range ds.length).map fun i => .d (.tuple [.int (i : Nat), ds.getD i .none])
def miN (m : MA) : MI := fun ρ => (m ρ).bind fun r => match r.1 with | [.d (.list ds)] => .ok (enumItems ds, r.2) | _ => .bad
def cutG {α : Type} (xs : List α) (lo hi : Option Int) : List α := (xs.drop (HT.sIx xs.length 0 lo)).take (HT.sIx xs.length xs.length hi - HT.sIx xs.length 0 lo)
def isWhole (n : Nat) (lo hi : Option Int) : Bool := decide (HT.sIx n 0 lo = 0 ∧ HT.sIx n n hi = n)
theorem FzAll.drop {K : PySem.W.Frag} {F : Addr → Prop} {H : Hp} : ∀ {vs : List V} {xs : List PyData} (n : Nat), FzAll K F H vs xs → FzAll K F H (vs.drop n) (xs.drop n)
  | _, _, 0, h => h
  | _, _, _ + 1, .nil => .nil
  | _, _, n + 1, .cons _ r => r.drop n
theorem FzAll.take {K : PySem.W.Frag} {F : Addr → Prop} {H : Hp} : ∀ {vs : List V} {xs : List PyData} (n : Nat), FzAll K F H vs xs → FzAll K F H (vs.take n) (xs.take n)
  | _, _, 0, _ => .nil
  | _, _, _ + 1, .nil => .nil
  | _, _, n + 1, .cons a r => .cons a (r.take n)
theorem FzAll.cut {K : PySem.W.Frag} {F : Addr → Prop} {H : Hp} {vs : List V} {xs : List PyData} (h : FzAll K F H vs xs) (lo hi : Option Int) : FzAll K F H (cutV vs lo hi) (cutG xs lo hi) := by
  unfold cutV cutG
  rw [h.len]
  exact (h.drop _).take _
abbrev MO := Env → Option (Option Int)
def SimO (K : PySem.W.Frag) (to : TO) (m : MO) : Prop :=
  ∀ (c : C0) (H : Hp) (tv : List (Option V)) (td : Env) (σ : L2.St) (ρ : Env) (A : List Addr) (o : Option Int), tv.length = td.length → StW K c H (tv ++ σ) (td ++ ρ) A → m ρ = some o → ∀ Q : Option Int → Hp → Prop, Q o H → to σ H Q
structure QO (X : Cx) (e : Option Expr) (to : TO) (m : MO) : Prop where
  po : PO X e to
  sim : SimO X.K to m
def oNone : MO := fun _ => some none
def oSome (m : MP) : MO := fun ρ => ((m ρ).bind T.int?).map some
theorem qo_none : QO X none tNoPart oNone := ⟨po_none, fun c H tv td σ ρ A o _ _ e Q q => by cases e; exact q⟩
theorem qo_some (h : QP X e te ma) : QO X (some e) (tPart te) (oSome ma) := ⟨po_some h.pe, fun c H tv td σ ρ A o hl w e Q q => by
  obtain ⟨j, e1, e2⟩ := Option.map_eq_some_iff.mp e
  obtain ⟨t, e3, e4⟩ := Option.bind_eq_some_iff.mp e1
  cases e2
  cases int?_eq e4
  exact h.sim c H tv td σ ρ A _ hl w e3 _ fun v A1 r _ => ⟨j, r.i, q⟩⟩
def opSlL (t : T) (lo hi : Option Int) : Option RV := match t with
  | .d (.list ds) => some (.nl (cutG ds lo hi))
  | .rd ds => some (.nl (cutG ds lo hi))
  | .ol ts => (T.allD ts).map fun ds => .nl (cutG ds lo hi)
  | _ => none
def opSlT (t : T) (lo hi : Option Int) : Option RV := match t with
  | .d (.tuple ds) => if isWhole ds.length lo hi = false then some (.nt (cutG ds lo hi)) else none
  | _ => none
def mSl (op : T → Option Int → Option Int → Option RV) (m : MP) (ml mh : MO) : MEx := fun ρ => (ofO (m ρ)).bind fun t => (ofO (ml ρ)).bind fun lo => (ofO (mh ρ)).bind fun hi => (ofO (op t lo hi)).bind fun z => .ok (z.toT, ρ)
theorem sim_sl {K : PySem.W.Frag} {r : V → Option Int → Option Int → Hp → VK → Prop} {op : T → Option Int → Option Int → Option RV} {tl th : TO} {ml mh : MO} (hv : ∀ (F : Addr → Prop) (H : Hp) (v : V) (t : T) (A : List Addr) (lo hi : Option Int) (z : RV) (Q : VK), Rp K F H v t A → op t lo hi = some z → RVto K F H [] Q z → r v lo hi H Q)
    (s : SimP K te ma) (sl : SimO K tl ml) (sh : SimO K th mh) : SimE K E true (tSl r te tl th) (mSl op ma ml mh) := by
  intro c H tv td σ ρ hl st Q q
  unfold mSl at q
  obtain ⟨t, e1, q⟩ := then_ofO.mp (then_bind.mp q)
  obtain ⟨lo, e2, q⟩ := then_ofO.mp (then_bind.mp q)
  obtain ⟨hi, e3, q⟩ := then_ofO.mp (then_bind.mp q)
  obtain ⟨z, e4, q⟩ := then_ofO.mp (then_bind.mp q)
  obtain ⟨A, w⟩ := st
  refine s c H tv td σ ρ A t hl w e1 _ fun v A1 rv _ => ?_
  refine sl c H tv td σ ρ A lo hl w e2 _ ?_
  refine sh c H tv td σ ρ A hi hl w e3 _ ?_
  refine hv _ H v t A1 lo hi z Q rv e4 ?_
  exact StW.result (A1 := []) (B := A) (fun a => by simp) w.uniq w.own w.keep w.slots fun v' H' sm' => q v' H' fun _ => sm'
theorem qe_slL {p2 : Pos} {lo hi : Option Expr} {tl th : TO} {ml mh : MO} (h : QP X e te ma) (hl : QO X lo tl ml) (hh : QO X hi th mh) : QE X E true (.Subscript e (.Slice lo hi none p2) pos) (tSl (rSlL X.K) te tl th) (mSl opSlL ma ml mh) := by
  refine ⟨pe_slice sl_list h.pe hl.po hh.po, sim_sl (fun F H v t A lo hi z Q r e q => ?_) h.sim hl.sim hh.sim⟩
  unfold opSlL at e
  split at e
  · cases e
    obtain ⟨a, vs, rfl, h1, f⟩ := r.lst? (ds := _) rfl
    exact ⟨a, vs, rfl, .of h1, fun p hp => q p _ hp (f.cut lo hi)⟩
  · cases e
    cases r with
    | rd h1 f => exact ⟨_, _, rfl, h1.sq, fun p hp => q p _ hp (f.cut lo hi)⟩
  · obtain ⟨ds, e1, e2⟩ := Option.map_eq_some_iff.mp e
    cases e2
    obtain ⟨a, vs, rfl, h1, f⟩ := r.lst? (ds := ds) e1
    exact ⟨a, vs, rfl, .of h1, fun p hp => q p _ hp (f.cut lo hi)⟩
  · cases e
end
end L3
namespace L3
open PySem PySem.Spec PyProof.Rows L2
def mRd (i : Nat) : MEx := fun ρ => match ρ[i]? with
  | some (some (.rd ds)) => .ok (.rd ds, ρ)
  | _ => .bad
theorem sim_rd {K : PySem.W.Frag} {E : Str → Hp → Prop} (i : Nat) : SimE K E true (tVar i) (mRd i) := by
  intro c H tv td σ ρ hl st Q q
  obtain ⟨A, w⟩ := st
  unfold mRd at q
  split at q
  · rename_i ds e0
    obtain ⟨v, A1, e3, x, hc⟩ := w.see hl e0
    refine ⟨v, e3, q v H (fun _ => Same.refl H) ?_⟩
    cases x with
    | rd h r => exact ⟨[] ++ A, w.uniq, .cons (.rd h r) w.slots, w.own, w.keep⟩
  · exact q.elim
section
variable {X : Cx} {E : Str → Hp → Prop} {pos : Pos}
theorem qe_rd (i : Nat) {x : Str} {pos : Pos} (hN : X.N[i]? = some x := by rfl) (hv : Vis X.env.scope x := by first | exact Or.inl rfl | exact Or.inr (Or.inl rfl) | exact Or.inr (Or.inr rfl)) (hd : (x == ("__debug__" : Str)) = false := by decide)
    (hcd : (x == ("__classdict__" : Str)) = false := by decide) : QE X E true (.Name x pos) (tVar i) (mRd i) := ⟨pe_var hN hv hd hcd, sim_rd i⟩
structure QTs (X : Cx) (E : Str → Hp → Prop) (es : List Expr) (tt : TT) (m : MT) : Prop where
  pts : PTs X es tt
  sim : SimT X.K E tt m
theorem qts_nil : QTs X E [] tYes mtYes := ⟨pts_nil, fun c H tv td σ ρ hl st Q q => q H st⟩
theorem qe_lc {elt tg iter : Expr} {ifs : List Expr} {scope : Scope} {own : List (Str × Nat)} {wi : TI} {mi : MI} {g : TG} {mg : MG} {tt : TT} {mt : MT} {te : TE} {me : MEx} {g1 : Bool} {vs : List Nat} (hvs : own.map (·.2) = vs) (hc : X.calm = true) (hN : X.N.Nodup) (hi : QI X E tg iter wi mi) (ok : BlkOk X.N X.env.scope scope own)
    (hg : ∀ (s : Shared) (H : Hp) (C : Addr) (cl : List (Str × Addr)) (fp : List Addr), QG (X.blk s H scope (compEnvC scope cl C X.env) fp) (notOwn vs) tg g mg) (ht : ∀ (s : Shared) (H : Hp) (C : Addr) (cl : List (Str × Addr)) (fp : List Addr), QTs (X.blk s H scope (compEnvC scope cl C X.env) fp) E ifs tt mt)
    (he : ∀ (s : Shared) (H : Hp) (C : Addr) (cl : List (Str × Addr)) (fp : List Addr), QE (X.blk s H scope (compEnvC scope cl C X.env) fp) E g1 elt te me) (hs : ∀ x, foldedSetIterable iter X.env x = pure x := by intro _; rfl) (s0 : Shared) (H0 : Hp) :
    QE X E false (.ListComp elt [⟨tg, iter, ifs, 0⟩] scope pos) (tLc wi g tt te vs) (mLc mi mg mt me vs) := by
  subst hvs
  exact ⟨pe_lc hc hN hi.pi ok (fun s H C cl fp => (hg s H C cl fp).pg) (fun s H C cl fp => (ht s H C cl fp).pts) (fun s H C cl fp => (he s H C cl fp).pe) hs,
    sim_lc hi.sim (hg s0 H0 0 [] []).sim (ht s0 H0 0 [] []).sim (he s0 H0 0 [] []).sim⟩
theorem qs_setLc {io : List Nat} {i : Nat} {y : Str} {py spos : Pos} {elt tg iter : Expr} {ifs : List Expr} {scope : Scope} {own : List (Str × Nat)} {wi : TI} {mi : MI} {g : TG} {mg : MG} {tt : TT} {mt : MT} {te : TE} {me : MEx} {g1 : Bool} {vs : List Nat} (hvs : own.map (·.2) = vs) (hc : X.calm = true) (hN : X.N.Nodup) (hy : X.N[i]? = some y) (hyl : X.env.scope.names.lookup y = some .local)
    (hsw : swapsWith (.ListComp elt [⟨tg, iter, ifs, 0⟩] scope pos) (some (.Name y py)) spos.line X.env = pure true) (hi : QI X E tg iter wi mi) (ok : BlkOk X.N X.env.scope scope own)
    (hg : ∀ (s : Shared) (H : Hp) (C : Addr) (cl : List (Str × Addr)) (fp : List Addr), QG (X.blk s H scope (compEnvC scope cl C X.env) fp) (notOwn vs) tg g mg) (ht : ∀ (s : Shared) (H : Hp) (C : Addr) (cl : List (Str × Addr)) (fp : List Addr), QTs (X.blk s H scope (compEnvC scope cl C X.env) fp) E ifs tt mt)
    (he : ∀ (s : Shared) (H : Hp) (C : Addr) (cl : List (Str × Addr)) (fp : List Addr), QE (X.blk s H scope (compEnvC scope cl C X.env) fp) E g1 elt te me) (s0 : Shared) (H0 : Hp) (hio : inIo io i = false := by rfl) (hs : ∀ x, foldedSetIterable iter X.env x = pure x := by intro _; rfl) :
    QS X E io (.Assign [.Name y py] (.ListComp elt [⟨tg, iter, ifs, 0⟩] scope pos) spos) (tAsg (tLc wi g tt te vs) (gName i)) (mAsg (mLc mi mg mt me vs) (mgName i)) := by
  subst hvs
  exact ⟨ps_setLc hc hN hy hyl hsw hi.pi ok (fun s H C cl fp => (hg s H C cl fp).pg) (fun s H C cl fp => (ht s H C cl fp).pts) (fun s H C cl fp => (he s H C cl fp).pe) hs,
    sim_asg (sim_lc hi.sim (hg s0 H0 0 [] []).sim (ht s0 H0 0 [] []).sim (he s0 H0 0 [] []).sim) (sim_gname hio)⟩
def mAug (i : Nat) (f : Int → Int → Int) (m : MP) : MS := fun ρ => match ρ[i]?, m ρ with
  | some (some (.d (.int x))), some (.d (.int y)) => .ok (.next (ρ.set i (some (.d (.int (f x y))))))
  | _, _ => .bad
def opInsert : List T → List T → Option (T × List T) := fun ts us => match us with
  | [.d (.int i), u] => if decide (ts.length < sLine ∧ 0 ≤ i ∧ i < 2 ^ 63) = true then some (.d .none, ts.take i.toNat ++ [u] ++ ts.drop i.toNat) else none
  | _ => none
abbrev rInsert : V → List V → Hp → VK → Prop := fun x vs H Q => ∃ (l : Addr) (xs : List V) (i : Int) (y : V), x = .ref l ∧ vs = [.int i, y] ∧ H l = some (.lst xs) ∧ xs.length < sizeLine ∧ 0 ≤ i ∧ i < 2 ^ 63 ∧
    Q .non (upd H l (.lst (xs.take i.toNat ++ [y] ++ xs.drop i.toNat)))
theorem RpAll.split {K : PySem.W.Frag} {F : Addr → Prop} {H : Hp} : ∀ {vs : List V} {ts : List T} {A : List Addr} (n : Nat), RpAll K F H vs ts A → ∃ B C, RpAll K F H (vs.take n) (ts.take n) B ∧ RpAll K F H (vs.drop n) (ts.drop n) C ∧ ∀ a, B.count a + C.count a = A.count a
  | _, _, A, 0, h => ⟨[], A, .nil, h, fun a => by simp⟩
  | _, _, _, _ + 1, .nil => ⟨[], [], .nil, .nil, fun a => by simp⟩
  | _, _, _, n + 1, .cons (A := A1) x r => by
    obtain ⟨B, C, h1, h2, h3⟩ := r.split n
    exact ⟨A1 ++ B, C, .cons x h1, h2, fun a => by have := h3 a; rw [List.count_append, List.count_append]; omega⟩
theorem insert_v {K : PySem.W.Frag} : UpdV K rInsert opInsert := by
  intro F H a vs ys ts us A1 A2 r ha r1 r2 e Q q
  unfold opInsert at e
  split at e
  · split at e
    · rename_i i u hz
      cases e
      have hz' := of_decide_eq_true hz
      cases r2 with
      | cons x0 rn =>
        have e0 := Rp.i x0
        subst e0
        cases x0 with
        | d x0 =>
          cases rn with
          | cons x rn =>
            rename_i v vs0 Ax Bx
            cases rn
            obtain ⟨B, C, h1, h2, h3⟩ := r1.split i.toNat
            obtain ⟨D, h4, h5⟩ := h1.snoc x
            obtain ⟨G, h6, h7⟩ := h4.append h2
            refine ⟨a, vs, i, v, rfl, rfl, ha, by rw [r1.len, ← sLine_eq]; exact hz'.1, hz'.2.1, hz'.2.2, q .non _ [] G (.d .non) h6 fun b => ?_⟩
            have := h3 b
            have := h5 b
            have := h7 b
            simp only [List.count_append, List.count_nil]
            omega
    · cases e
  · cases e
end
theorem only_rd {K : PySem.W.Frag} {H : Hp} {a : Addr} {vs : List V} (h : Only H) (s : SqL K H a vs) : RdL K H a vs := by
  rcases s with (s | ⟨o, s⟩) | s
  · rcases h a with z | ⟨o, xs, z⟩ <;> (rw [s] at z; cases z)
  · exact .inl ⟨o, s⟩
  · exact .inr s
theorem ints_fz {K : PySem.W.Frag} {F : Addr → Prop} {H : Hp} : ∀ ns : List Int, FzAll K F H (ns.map V.int) (ns.map PyData.int)
  | [] => .nil
  | _ :: r => .cons (.int _) (ints_fz r)
abbrev scr (ns : List Int) : T := .rd (ns.map PyData.int)
theorem law_sp {K : PySem.W.Frag} {rz : Bool} {cl : Str → Option Addr} {m : List T → R (T × List T)} {H : Hp} {a : Addr} {ns : List Int} (hO : Only H) (hS : SqL K H a (ns.map V.int)) (h : Then (m [scr ns]) (fun r => r.1 = .d (.bool true)) (fun _ => False)) :
    spT K rz cl 1 [] m [.ref a] H (fun v _ => v = .bl true) (fun _ _ _ => False) := by
  refine ⟨[scr ns], fun _ => True, [], rfl, fun _ => by simp, .cons (A := []) (B := []) (.rd (only_rd hO hS) (ints_fz ns)) .nil, ?_⟩
  refine h.mono (fun r e => ?_) fun _ z => z.elim
  intro v H' A' _ _ _ _ rr
  cases rr with
  | cons x _ =>
    rw [e] at x
    exact Rp.b x
end L3
namespace L3
open PySem PySem.Spec PyProof.Rows L2
theorem bt_len : bootBuiltins "len" = some (.builtin "len") := by decide +kernel
theorem bt_max : bootBuiltins "max" = some (.builtin "max") := by decide +kernel
theorem bt_int : bootBuiltins "int" = some (.type "int") := by decide +kernel
theorem bt_bool : bootBuiltins "bool" = some (.type "bool") := by decide +kernel
theorem bt_list : bootBuiltins "list" = some (.type "list") := by decide +kernel
theorem bt_tuple : bootBuiltins "tuple" = some (.type "tuple") := by decide +kernel
section
variable {K : PySem.W.Frag}
theorem opSub_v : OpV K (rI (fun _ _ => True) fun i j => .int (i - j)) opSub := opI2_v (fun _ _ _ => trivial) fun _ _ _ _ => .int _
theorem opMulI_v : OpV K (rI (fun i j => mulOk i j = true) fun i j => .int (i * j)) opMulI := opI2_v (fun _ _ h => h) fun _ _ _ _ => .int _
theorem opMod_v : OpV K (rI (fun i j => modOk i j = true) fun i j => .int (i.fmod j)) opMod := opI2_v (fun _ _ h => h) fun _ _ _ _ => .int _
theorem opFdiv_v : OpV K (rI (fun i j => divOk i j = true) fun i j => .int (i.fdiv j)) opFdiv := opI2_v (fun _ _ h => h) fun _ _ _ _ => .int _
theorem opPow_v : OpV K (rI (fun i j => powOk i j = true) fun i j => .int (i ^ j.toNat)) opPow := opI2_v (fun _ _ h => h) fun _ _ _ _ => .int _
theorem opLt_v : OpV K (rI (fun _ _ => True) fun i j => .bl (decide (i < j))) opLt := opI2_v (fun _ _ _ => trivial) fun _ _ _ _ => .bl _
theorem opGt_v : OpV K (rI (fun _ _ => True) fun i j => .bl (decide (j < i))) opGt := opI2_v (fun _ _ _ => trivial) fun _ _ _ _ => .bl _
theorem opGe_v : OpV K (rI (fun _ _ => True) fun i j => .bl (decide (j ≤ i))) opGe := opI2_v (fun _ _ _ => trivial) fun _ _ _ _ => .bl _
end
section
variable {X : Cx}
theorem call_lenA : CallR X (.builtin "len") (rLen X.K) := call_len
theorem call_int1A : CallR X (.type "int") rInt1 := call_int1
theorem call_max2A (hc : X.calm = true) : CallR X (.builtin "max") rMax2 := call_max2 hc
theorem call_listOf : CallR X (.type "list") (rListOf X.K) := call_list_of
def mPar (i j : Nat) (m : MA) : MS := fun ρ => (m ρ).bind fun r => match r.1 with
  | [t, u] => .ok (.next ((r.2.set i (some t)).set j (some u)))
  | _ => .bad
variable {E : Str → Hp → Prop} {pos : Pos}
theorem qs_par {io : List Nat} {i j : Nat} {x y : Str} {a b : Expr} {ta : TA} {m : MA} {g : Bool} {px py pt : Pos} {kt k2 pt2} (hc : X.calm = true) (hN : X.N.Nodup) (ha : QA X E g [a, b] ta m) (hi : X.N[i]? = some x := by rfl) (hj : X.N[j]? = some y := by rfl) (hij : i ≠ j := by decide)
    (hx : X.env.scope.names.lookup x = some .local := by rfl) (hy : X.env.scope.names.lookup y = some .local := by rfl)
    (hw : swappedStores [.Tuple [.Name x px, .Name y py] kt pt] (.Tuple [a, b] k2 pt2) X.env = pure (some [x, y]) := by rfl)
    (hio : inIo io i = false := by rfl) (hjo : inIo io j = false := by rfl)
    (hs : swapsWithSole [.Tuple [.Name x px, .Name y py] kt pt] (.Tuple [a, b] k2 pt2) pos.line X.env = pure false := by rfl) :
    QS X E io (.Assign [.Tuple [.Name x px, .Name y py] kt pt] (.Tuple [a, b] k2 pt2) pos) (tPar i j ta) (mPar i j m) := by
  refine ⟨ps_par hc hN hi hj hij hx hy ha.pa hw hs, fun c H tv td σ ρ hl st D q => ?_⟩
  unfold mPar at q
  rw [then_bind] at q
  refine ha.sim c H tv td σ ρ hl st _ (q.imp ?_)
  rintro ⟨ts, ρ1⟩ q1 vs H1 _ hvs st1
  dsimp only at q1 hvs st1
  split at q1
  · rename_i t u
    match vs, hvs, st1 with
    | [v, w], _, st1 =>
      have st2 : StR X.K c H1 ((some w :: tv) ++ σ.set i (some v)) ((some u :: td) ++ ρ1.set i (some t)) := StR.store (tv := some w :: tv) (td := some u :: td) (by simp [hl]) st1
      have st3 := StR.store (i := j) hl st2
      exact ⟨v, w, rfl, q1 _ H1 ((SameP.set hio).trans (SameP.set hjo)).toIo st3⟩
  · exact q1.elim
def dropIo (m : List T → R (T × List T)) : List T → R (T × List T) := fun ts => (m ts).bind fun r => .ok (r.1, [])
theorem spT_drop {K : PySem.W.Frag} {rz : Bool} {cl : Str → Option Addr} {n : Nat} {io : List Nat} {m : List T → R (T × List T)} {vs : List V} {H : Hp} {Q : VK} {Ek : XK} (h : spT K rz cl n [] (dropIo m) vs H Q Ek) : spT K rz cl n io m vs H Q Ek := by
  obtain ⟨ts, F, A, h1, h2, h3, h4⟩ := h
  refine ⟨ts, F, A, h1, h2, h3, ?_⟩
  unfold dropIo at h4
  rw [then_bind] at h4
  refine h4.imp fun r q v H' A' u ow kf same rr => ?_
  cases rr with
  | cons x rest =>
    rename_i A1 A2
    have hle : ∀ a, A1.count a ≤ (A1 ++ A2).count a := fun a => by rw [List.count_append]; omega
    refine q v H' A1 (fun a => Nat.le_trans (hle a) (u a)) (fun a ha => ow a (List.mem_append_left _ ha)) kf (fun _ e a o z => kf.keep a o z (by rw [e]; simp)) ?_
    have m0 : Mono (fun a => (F a ∨ H a = none ∨ a ∈ A) ∧ a ∉ A1 ++ A2) (fun a => (F a ∨ H a = none ∨ a ∈ A) ∧ a ∉ A1) H' H' := .sub fun a _ ⟨p, n⟩ => ⟨p, fun z => n (List.mem_append_left _ z)⟩
    have := RpAll.cons (x.mono m0 fun _ _ => rfl) (RpAll.nil (K := K) (F := fun a => (F a ∨ H a = none ∨ a ∈ A) ∧ a ∉ A1) (H := H'))
    rwa [List.append_nil] at this
theorem fn_drop {P : Program} {w : World} {K : PySem.W.Frag} {mg : Str → Option Value} {base : Heap} {CX : CXT} {k : Nat} {f : Addr} {fd : FuncData} {ps : List Str} {rz : Bool} {cl : Str → Option Addr} {n : Nat} {io : List Nat} {m : List T → R (T × List T)} (F : FnOk P w K mg base CX k f fd ps (spT K rz cl n io m)) :
    FnOk P w K mg base CX k f fd ps (spT K rz cl n [] (dropIo m)) := F.imp fun _ _ _ _ => spT_drop
end
end L3
namespace L3
open PySem PySem.Spec PyProof.Rows L2
def teM (K : PySem.W.Frag) (E : Str → Hp → Prop) (g : Bool) (m : MEx) : TE := fun σ H Q => ∃ (c : C0) (tv : List (Option V)) (td ρ : Env), tv.length = td.length ∧ StR K c H (tv ++ σ) (td ++ ρ) ∧
  Then (m ρ) (fun r => ∀ v H', (g = true → Same H H') → StR K c H' (some v :: (tv ++ σ)) (some r.1 :: (td ++ r.2)) → Q v H') (fun x => ∀ H', KeepC c H' → E x H')
def ttM (K : PySem.W.Frag) (E : Str → Hp → Prop) (m : MT) : TT := fun σ H Q => ∃ (c : C0) (tv : List (Option V)) (td ρ : Env), tv.length = td.length ∧ StR K c H (tv ++ σ) (td ++ ρ) ∧
  Then (m ρ) (fun r => ∀ H', StR K c H' (tv ++ σ) (td ++ r.2) → Q r.1 H') (fun x => ∀ H', KeepC c H' → E x H')
def tgM (K : PySem.W.Frag) (pr : Nat → Bool) (m : MG) : TG := fun v σ H Q => ∃ (c : C0) (tv : List (Option V)) (td ρ ρ' : Env) (t : T), tv.length = td.length ∧ StR K c H (some v :: (tv ++ σ)) (some t :: (td ++ ρ)) ∧ m t ρ = some ρ' ∧
  ∀ σ' H', SameP pr σ σ' → StR K c H' (tv ++ σ') (td ++ ρ') → Q σ' H'
section
variable {X : Cx} {E : Str → Hp → Prop} {pos : Pos}
theorem QE.can {g : Bool} {e : Expr} {te : TE} {m : MEx} (h : QE X E g e te m) : QE X E g e (teM X.K E g m) m :=
  ⟨⟨fun pins s σ H Q I w => h.pe.run pins s σ H Q I (let ⟨c, tv, td, ρ, hl, st, q⟩ := w; h.sim c H tv td σ ρ hl st Q q)⟩, fun c H tv td σ ρ hl st Q q => ⟨c, tv, td, ρ, hl, st, q⟩⟩
theorem QTs.can {es : List Expr} {tt : TT} {m : MT} (h : QTs X E es tt m) : QTs X E es (ttM X.K E m) m :=
  ⟨⟨fun pins s σ H Q I w => h.pts.run pins s σ H Q I (let ⟨c, tv, td, ρ, hl, st, q⟩ := w; h.sim c H tv td σ ρ hl st Q q)⟩, fun c H tv td σ ρ hl st Q q => ⟨c, tv, td, ρ, hl, st, q⟩⟩
theorem QG.can {pr : Nat → Bool} {e : Expr} {tg : TG} {m : MG} (h : QG X pr e tg m) : QG X pr e (tgM X.K pr m) m :=
  ⟨⟨fun pins s σ H v u Q I r w => h.pg.run pins s σ H v u Q I r (let ⟨c, tv, td, ρ, ρ', t, hl, st, e, q⟩ := w; h.sim c H tv td σ ρ ρ' v t hl st e Q q)⟩, fun c H tv td σ ρ ρ' v t hl st e Q q => ⟨c, tv, td, ρ, ρ', t, hl, st, e, q⟩⟩
theorem qe_lcC {elt tg iter : Expr} {ifs : List Expr} {scope : Scope} {own : List (Str × Nat)} {wi : TI} {mi : MI} {mg : MG} {mt : MT} {me : MEx} {g1 : Bool} {vs : List Nat} (hvs : own.map (·.2) = vs) (hc : X.calm = true) (hN : X.N.Nodup) (hi : QI X E tg iter wi mi) (ok : BlkOk X.N X.env.scope scope own)
    (hg : ∀ (s : Shared) (H : Hp) (C : Addr) (cl : List (Str × Addr)) (fp : List Addr), ∃ g, QG (X.blk s H scope (compEnvC scope cl C X.env) fp) (notOwn vs) tg g mg) (ht : ∀ (s : Shared) (H : Hp) (C : Addr) (cl : List (Str × Addr)) (fp : List Addr), ∃ tt, QTs (X.blk s H scope (compEnvC scope cl C X.env) fp) E ifs tt mt)
    (he : ∀ (s : Shared) (H : Hp) (C : Addr) (cl : List (Str × Addr)) (fp : List Addr), ∃ te, QE (X.blk s H scope (compEnvC scope cl C X.env) fp) E g1 elt te me) (s0 : Shared) (H0 : Hp) (hs : ∀ x, foldedSetIterable iter X.env x = pure x := by intro _; rfl) :
    QE X E false (.ListComp elt [⟨tg, iter, ifs, 0⟩] scope pos) (tLc wi (tgM X.K (notOwn vs) mg) (ttM X.K E mt) (teM X.K E g1 me) vs) (mLc mi mg mt me vs) :=
  qe_lc hvs hc hN hi ok (fun s H C cl fp => let ⟨_, h⟩ := hg s H C cl fp; h.can) (fun s H C cl fp => let ⟨_, h⟩ := ht s H C cl fp; h.can) (fun s H C cl fp => let ⟨_, h⟩ := he s H C cl fp; h.can) hs s0 H0
theorem qs_setLcC {io : List Nat} {i : Nat} {y : Str} {py spos : Pos} {elt tg iter : Expr} {ifs : List Expr} {scope : Scope} {own : List (Str × Nat)} {wi : TI} {mi : MI} {mg : MG} {mt : MT} {me : MEx} {g1 : Bool} {vs : List Nat} (hvs : own.map (·.2) = vs) (hc : X.calm = true) (hN : X.N.Nodup) (hy : X.N[i]? = some y) (hyl : X.env.scope.names.lookup y = some .local)
    (hsw : swapsWith (.ListComp elt [⟨tg, iter, ifs, 0⟩] scope pos) (some (.Name y py)) spos.line X.env = pure true) (hi : QI X E tg iter wi mi) (ok : BlkOk X.N X.env.scope scope own)
    (hg : ∀ (s : Shared) (H : Hp) (C : Addr) (cl : List (Str × Addr)) (fp : List Addr), ∃ g, QG (X.blk s H scope (compEnvC scope cl C X.env) fp) (notOwn vs) tg g mg) (ht : ∀ (s : Shared) (H : Hp) (C : Addr) (cl : List (Str × Addr)) (fp : List Addr), ∃ tt, QTs (X.blk s H scope (compEnvC scope cl C X.env) fp) E ifs tt mt)
    (he : ∀ (s : Shared) (H : Hp) (C : Addr) (cl : List (Str × Addr)) (fp : List Addr), ∃ te, QE (X.blk s H scope (compEnvC scope cl C X.env) fp) E g1 elt te me) (s0 : Shared) (H0 : Hp) (hio : inIo io i = false := by rfl) (hs : ∀ x, foldedSetIterable iter X.env x = pure x := by intro _; rfl) :
    QS X E io (.Assign [.Name y py] (.ListComp elt [⟨tg, iter, ifs, 0⟩] scope pos) spos) (tAsg (tLc wi (tgM X.K (notOwn vs) mg) (ttM X.K E mt) (teM X.K E g1 me) vs) (gName i)) (mAsg (mLc mi mg mt me vs) (mgName i)) :=
  qs_setLc hvs hc hN hy hyl hsw hi ok (fun s H C cl fp => let ⟨_, h⟩ := hg s H C cl fp; h.can) (fun s H C cl fp => let ⟨_, h⟩ := ht s H C cl fp; h.can) (fun s H C cl fp => let ⟨_, h⟩ := he s H C cl fp; h.can) s0 H0 hio hs
end
end L3
namespace L3
open PySem PySem.Spec PyProof.Rows L2
def allInts : List PyData → Option (List Int)
  | [] => some []
  | .int i :: r => (allInts r).map fun ns => i :: ns
  | _ => none
def opLtA : T → T → R RV
  | .d (.int i), .d (.int j) => .ok (.v (.d (.bool (decide (i < j)))))
  | .d (.tuple xs), .d (.tuple ys) => (match allInts xs, allInts ys with
    | some ns, some ms => .ok (.v (.d (.bool (HT.lexLt ns ms))))
    | _, _ => .bad)
  | _, _ => .bad
def inD (x y : T) : R Bool := match x.toD, y.toD with
  | some d, some (.list ds) => guard (SeqAt.shaped d && SeqAt.shaped (.list ds)) (.ok (ds.any fun z => PyData.eqv z d))
  | _, _ => .bad
def opInD (x y : T) : R RV := (inD x y).bind fun k => .ok (.v (.d (.bool k)))
theorem inD_red {K : PySem.W.Frag} {F : Addr → Prop} {H : Hp} {v u : V} {x y : T} {A B : List Addr} (hx : Rp K F H v x A) (hy : Rp K F H u y B) {P : Bool → Prop} (q : Then (inD x y) P (fun _ => False)) :
    ∃ d ds, Dp K H v d ∧ Dp K H u (.list ds) ∧ SeqAt.shaped d = true ∧ SeqAt.shaped (.list ds) = true ∧ P (ds.any fun z => PyData.eqv z d) := by
  unfold inD at q
  split at q
  · rename_i d ds e1 e2
    obtain ⟨g, q⟩ := then_guard.mp q
    rw [Bool.and_eq_true] at g
    exact ⟨d, ds, (hx.dq e1).dp g.1, (hy.dq e2).dp g.2, g.1, g.2, q⟩
  · exact q.elim
theorem opInD_v {K : PySem.W.Frag} : OpV K (rInD K) opInD := by
  intro F H v u x y A B hx hy Q q
  exact inD_red hx hy ((then_bind.mp q).imp fun k h => rv_d h (.bl k))
theorem op_inA {X : Cx} (hu : X.A.units + 65 < cLine) : OpR X (compareOp .In) (rInD X.K) := op_inD hu
def opRevL : T → R RV
  | .d (.list ds) => .ok (.nl ds.reverse)
  | _ => .bad
theorem FzAll.snoc {K : PySem.W.Frag} {F : Addr → Prop} {H : Hp} {vs : List V} {xs : List PyData} {v : V} {x : PyData} (h : FzAll K F H vs xs) (y : Fz K F H v x) : FzAll K F H (vs ++ [v]) (xs ++ [x]) := h.append (.cons y .nil)
theorem FzAll.rev {K : PySem.W.Frag} {F : Addr → Prop} {H : Hp} : ∀ {vs : List V} {xs : List PyData}, FzAll K F H vs xs → FzAll K F H vs.reverse xs.reverse
  | _, _, .nil => .nil
  | _, _, .cons a r => by
    rw [List.reverse_cons, List.reverse_cons]
    exact r.rev.snoc a
section
variable {X : Cx} {E : Str → Hp → Prop} {e : Expr} {te : TE} {m : MEx} {g : Bool} {pos : Pos}
def opSlA (t : T) (lo hi : Option Int) : Option RV := match t with
  | .d (.list ds) => some (.nl (cutG ds lo hi))
  | .ol ts => (T.allD ts).map fun ds => .nl (cutG ds lo hi)
  | _ => none
def mSlE (m : MEx) (ml mh : MO) : MEx := fun ρ => (m ρ).bind fun r => (ofO (ml r.2)).bind fun lo => (ofO (mh r.2)).bind fun hi => (ofO (opSlA r.1 lo hi)).bind fun z => .ok (z.toT, r.2)
end
end L3
namespace L3
open PySem L2
theorem u65 {k : Nat} {A : Around} (r : Room k A) : A.units + 65 < cLine := by have := r.un; omega
end L3
namespace L3
open PySem PySem.Spec PyProof.Rows L2
def opIsB : T → T → R RV
  | .d (.bool a), .d (.bool b) => .ok (.v (.d (.bool (decide (a = b)))))
  | _, _ => .bad
def opNotB : T → T → R RV
  | .d (.bool a), .d (.bool b) => .ok (.v (.d (.bool (!decide (a = b)))))
  | _, _ => .bad
end L3
namespace L3
open PySem PySem.Spec PyProof.Rows L2
def mRaise (x : Str) : MS := fun _ => .exc x
theorem EX.mk {K : PySem.W.Frag} {E : XK} {x : Str} {C : Addr} {H : Hp} (h : EX (clK K) E x H) (e : clK K x = some C) : E (.ref C) none H := h C e
def mTryK (xs : List Str) (j : Nat) (mb : MS) : MS := fun ρ => match mb ρ with
  | .exc x => if xs.contains x then .ok (.next ((List.replicate ρ.length none).set j (some (.ex x)))) else .bad
  | r => r
def tMir (K : PySem.W.Frag) (E : Str → Hp → Prop) (m : MS) : TS := fun D σ H => ∃ c ρ, StR K c H σ ρ ∧ Then (m ρ) (OutTo K c [] [] [] σ D) (fun x => ∀ H', KeepC c H' → E x H')
theorem QSs.mir {X : Cx} {E : Str → Hp → Prop} {s : List Stmt} {ts : TS} {m : MS} (h : QSs X E [] s ts m) : PSs X s (tMir X.K E m) := ⟨fun pins s σ H D I ⟨c, ρ, st, q⟩ => h.ps.run pins s σ H D I (h.sim.z c H σ ρ st D q)⟩
section
variable {X : Cx} {x n y : Str} {C : Addr} {i j : Nat} {body : List Stmt} {np pos pos' p1 p2 p3 : Pos} {mb : MS} {xs : List Str} {E : Str → Hp → Prop}
end
end L3
namespace L3
open PySem PySem.Spec PyProof.Rows L2
abbrev XTab := List (Str × Bool)
def exIs (tab : XTab) (t : T) : Option PyData := match t with
  | .ex x => (tab.lookup x).map PyData.bool
  | _ => none
def pIsX (tab : XTab) (m : MP) : MP := fun ρ => (m ρ).bind fun t => (exIs tab t).map T.d
def mIsXT (tab : XTab) (m : MP) : MEx := fun ρ => (ofO ((m ρ).bind (exIs tab))).bind fun d => .ok (.d d, ρ)
def TabOk (K : PySem.W.Frag) (tab : XTab) (u : Value) : Prop := ∀ z b, tab.lookup z = some b → ∀ D, clK K z = some D → PySem.W.kitOne K (.ref D) u = some b
def TabOkT (K : PySem.W.Frag) (tab : XTab) (us : List Value) : Prop := ∀ z b, tab.lookup z = some b → ∀ D, clK K z = some D → PySem.W.kitAny K (.ref D) us = some b
theorem TabOk.one {K : PySem.W.Frag} {z : Str} {b : Bool} {u : Value} {C : Addr} (h : clK K z = some C) (k : PySem.W.kitOne K (.ref C) u = some b) : TabOk K [(z, b)] u := fun z' b' e D hD => by
  rw [List.lookup_cons] at e
  by_cases hz : z' = z
  · subst hz
    rw [beq_self_eq_true] at e
    cases e
    rw [h] at hD
    cases hD
    exact k
  · rw [beq_eq_false_iff_ne.mpr hz] at e
    cases e
theorem TabOkT.one {K : PySem.W.Frag} {z : Str} {b : Bool} {us : List Value} {C : Addr} (h : clK K z = some C) (k : PySem.W.kitAny K (.ref C) us = some b) : TabOkT K [(z, b)] us := fun z' b' e D hD => by
  rw [List.lookup_cons] at e
  by_cases hz : z' = z
  · subst hz
    rw [beq_self_eq_true] at e
    cases e
    rw [h] at hD
    cases hD
    exact k
  · rw [beq_eq_false_iff_ne.mpr hz] at e
    cases e
section
variable {X : Cx} {E : Str → Hp → Prop} {e : Expr} {te : TE} {ma : MP} {p p2 pos : Pos} {y : Str} {tab : XTab} {C : Addr} {n : String} {Cs : List Addr}
theorem ex_at {K : PySem.W.Frag} {F : Addr → Prop} {H : Hp} {v : V} {t : T} {A : List Addr} {d : PyData} (h : Rp K F H v t A) (e : exIs tab t = some d) : ∃ a D z b, v = .ref a ∧ H a = some (ExK D a) ∧ ExcC K D ∧ clK K z = some D ∧ tab.lookup z = some b ∧ d = .bool b := by
  unfold exIs at e
  split at e
  · obtain ⟨b, e1, e2⟩ := Option.map_eq_some_iff.mp e
    subst e2
    cases h with
    | ex h1 h2 h3 => exact ⟨_, _, _, b, rfl, h1, h3, h2, e1, rfl⟩
  · cases e
end
end L3
namespace L3
open PySem PySem.Spec PyProof.Rows L2
end L3
namespace L2
open PySem PySem.Spec PyProof.Rows
section
variable {X : Cx}
end
end L2
namespace L2
open PySem PySem.Spec PyProof.Rows
section
variable {X : Cx} {es : List Expr} {e : Expr} {t t2 : TA} {k : Nat} {p1 apos cpos : Pos} {r : V → List V → Hp → VK → Prop}
end
end L2
namespace L3
open PySem PySem.Spec PyProof.Rows L2
def cntD (ds : List PyData) (x : PyData) : R PyData := guard (SeqAt.shaped (.tuple ds) && SeqAt.shaped x) (.ok (.int (ds.countP fun z => PyData.eqv z x : Nat)))
def mTupCount (ma : MA) (mp : MP) : MEx := fun ρ => (ma ρ).bind fun r => match T.allD r.1, mp r.2 with
  | some ds, some (.d x) => (cntD ds x).bind fun n => .ok (.d n, r.2)
  | _, _ => .bad
end L3
namespace L3
open PySem PySem.Spec PyProof.Rows L2
def mEqNil (f : T → T → R RV) (mp : MP) : MEx := fun ρ => match mp ρ with
  | some x => (match f x (.d (.list [])) with
    | .ok (.v (.d (.bool b))) => .ok (.d (.bool b), ρ)
    | _ => .bad)
  | none => .bad
end L3
namespace L3
open PySem PySem.Spec PyProof.Rows L2
end L3
namespace L3
open PySem PySem.Spec PyProof.Rows L2
def mgLst (n : Nat) (r : MGs) : MG := fun t ρ => match t with
  | .d (.list ds) => if ds.length = n then r (ds.map T.d) ρ else none
  | _ => none
end L3
namespace L3
open PySem PySem.Spec PyProof.Rows L2
@[simp] theorem bind_okS {α β : Type} {a : α} {f : α → R β} : (R.ok a).bind f = f a := (rfl)
@[simp] theorem bind_badS {α β : Type} {f : α → R β} : (R.bad : R α).bind f = .bad := (rfl)
@[simp] theorem bind_excS {α β : Type} {f : α → R β} {c : Str} : (R.exc c : R α).bind f = .exc c := (rfl)
@[simp] theorem then_okS {α : Type} {a : α} {P : α → Prop} {E : Str → Prop} : Then (.ok a) P E ↔ P a := (Iff.rfl)
@[simp] theorem then_badS {α : Type} {P : α → Prop} {E : Str → Prop} : Then (.bad : R α) P E ↔ False := (Iff.rfl)
@[simp] theorem then_excS {α : Type} {c : Str} {P : α → Prop} {E : Str → Prop} : Then (.exc c : R α) P E ↔ E c := (Iff.rfl)
@[simp] theorem ofO_some {α : Type} {a : α} : ofO (some a) = .ok a := (rfl)
@[simp] theorem ofO_none {α : Type} : ofO (none : Option α) = .bad := (rfl)
@[simp] theorem guard_t {α : Type} {r : R α} : guard true r = r := (rfl)
@[simp] theorem guard_f {α : Type} {r : R α} : guard false r = .bad := (rfl)
@[simp] theorem nx_ok {α : Type} {a : α} : (R.ok a).nx = .ok a := (rfl)
@[simp] theorem nx_bad {α : Type} : (R.bad : R α).nx = .bad := (rfl)
theorem then_nx {α : Type} {r : R α} {P : α → Prop} {E : Str → Prop} (h : Then r P (fun _ => False)) : Then r.nx P E := by
  cases r with
  | ok a => exact h
  | exc c => exact h.elim
  | bad => exact h
theorem then_bindI {α β : Type} {r : R α} {f : α → R β} {P : α → Prop} {P' : β → Prop} {E : Str → Prop} (h : Then r P E) (k : ∀ a, P a → Then (f a) P' E) : Then (r.bind f) P' E := then_bind.mpr (h.imp k)
abbrev En := L3.Env
@[simp] theorem bind_assocS {α β γ : Type} {r : R α} {f : α → R β} {g : β → R γ} : (r.bind f).bind g = r.bind fun a => (f a).bind g := by cases r <;> rfl
@[simp] theorem nx_bind {α β : Type} {r : R α} {f : α → R β} : (r.bind f).nx = r.nx.bind fun a => (f a).nx := by cases r <;> rfl
@[simp] theorem e_mC {x : PyData} {ρ : En} : mC x ρ = .ok (.d x, ρ) := (rfl)
@[simp] theorem e_pC {x : PyData} {ρ : En} : pC x ρ = some (.d x) := (rfl)
def liftK (ρ : En) : Option T → R (T × En)
  | some (.d x) => .ok (.d x, ρ)
  | _ => .bad
@[simp] theorem e_lift {m : MP} {ρ : En} : mLift m ρ = liftK ρ (m ρ) := (rfl)
@[simp] theorem e_liftK {ρ : En} {x : PyData} : liftK ρ (some (.d x)) = .ok (.d x, ρ) := (rfl)
def pvK : Option (Option T) → Option T
  | some (some t) => some t
  | _ => none
@[simp] theorem e_pVar {i : Nat} {ρ : En} : pVar i ρ = pvK ρ[i]? := (rfl)
@[simp] theorem e_pvK {t : T} : pvK (some (some t)) = some t := (rfl)
def varK2 (i : Nat) (ρ : En) : Option PyData → R (T × En)
  | some x => .ok (.d x, ρ.set i (some (.d x)))
  | none => .bad
def varK (i : Nat) (ρ : En) : Option (Option T) → R (T × En)
  | some (some (.d x)) => .ok (.d x, ρ)
  | some (some t) => varK2 i ρ t.fz
  | _ => .bad
@[simp] theorem e_mVar {i : Nat} {ρ : En} : mVar i ρ = varK i ρ ρ[i]? := by
  unfold mVar
  generalize ρ[i]? = o
  cases o with
  | none => rfl
  | some o =>
    cases o with
    | none => rfl
    | some t => cases t <;> rfl
@[simp] theorem e_varK {i : Nat} {ρ : En} {x : PyData} : varK i ρ (some (some (.d x))) = .ok (.d x, ρ) := (rfl)
@[simp] theorem e_varKo {i : Nat} {ρ : En} {ts : List T} : varK i ρ (some (some (.ol ts))) = varK2 i ρ (T.fz (.ol ts)) := (rfl)
@[simp] theorem e_varKt {i : Nat} {ρ : En} {ts : List T} : varK i ρ (some (some (.ot ts))) = varK2 i ρ (T.fz (.ot ts)) := (rfl)
@[simp] theorem e_varK2 {i : Nat} {ρ : En} {x : PyData} : varK2 i ρ (some x) = .ok (.d x, ρ.set i (some (.d x))) := (rfl)
def moveK (i : Nat) (ρ : En) : Option (Option T) → R (T × En)
  | some (some t) => .ok (t, ρ.set i none)
  | _ => .bad
@[simp] theorem e_mMove {i : Nat} {ρ : En} : mMove i ρ = moveK i ρ ρ[i]? := (rfl)
@[simp] theorem e_moveK {i : Nat} {ρ : En} {t : T} : moveK i ρ (some (some t)) = .ok (t, ρ.set i none) := (rfl)
def rdK (ρ : En) : Option (Option T) → R (T × En)
  | some (some (.rd ds)) => .ok (.rd ds, ρ)
  | _ => .bad
@[simp] theorem e_mRd {i : Nat} {ρ : En} : mRd i ρ = rdK ρ ρ[i]? := (rfl)
@[simp] theorem e_rdK {ρ : En} {ds : List PyData} : rdK ρ (some (some (.rd ds))) = .ok (.rd ds, ρ) := (rfl)
@[simp] theorem e_pBin {op : T → T → R RV} {a b : MP} {ρ : En} : pBin op a b ρ = (a ρ).bind fun x => (b ρ).bind fun y => okV (op x y) := (rfl)
@[simp] theorem e_pUn {op : T → R RV} {a : MP} {ρ : En} : pUn op a ρ = (a ρ).bind fun x => okV (op x) := (rfl)
@[simp] theorem e_pNil {ρ : En} : pNil ρ = some [] := (rfl)
@[simp] theorem e_pCons {a : MP} {r : MPA} {ρ : En} : pCons a r ρ = (a ρ).bind fun x => (r ρ).bind fun y => some (x :: y) := (rfl)
@[simp] theorem e_pCallB {op : List T → R RV} {m : MPA} {ρ : En} : pCallB op m ρ = (m ρ).bind fun ts => okV (op ts) := (rfl)
@[simp] theorem e_pIsa {n : String} {m : MP} {ρ : En} : pIsa n m ρ = ((m ρ).bind (isaT n)).map fun b => .d (.bool b) := (rfl)
@[simp] theorem e_okV {t : T} : okV (.ok (.v t)) = some t := (rfl)
@[simp] theorem e_okVb : okV .bad = none := (rfl)
def toTK (ρ : En) (z : RV) : R (T × En) := .ok (z.toT, ρ)
@[simp] theorem e_toTK {ρ : En} {z : RV} : toTK ρ z = .ok (z.toT, ρ) := (rfl)
def binK2 (op : T → T → R RV) (x : T) (y : T × En) : R (T × En) := (op x y.1).bind (toTK y.2)
def binK (op : T → T → R RV) (b : MEx) (x : T × En) : R (T × En) := (b x.2).bind (binK2 op x.1)
@[simp] theorem e_mBin {op : T → T → R RV} {a b : MEx} {ρ : En} : mBin op a b ρ = (a ρ).bind (binK op b) := (rfl)
@[simp] theorem e_binK {op : T → T → R RV} {b : MEx} {x : T} {ρ : En} : binK op b (x, ρ) = (b ρ).bind (binK2 op x) := (rfl)
@[simp] theorem e_binK2 {op : T → T → R RV} {x y : T} {ρ : En} : binK2 op x (y, ρ) = (op x y).bind (toTK ρ) := (rfl)
def unK (op : T → R RV) (x : T × En) : R (T × En) := (op x.1).bind (toTK x.2)
@[simp] theorem e_mUn {op : T → R RV} {a : MEx} {ρ : En} : mUn op a ρ = (a ρ).bind (unK op) := (rfl)
@[simp] theorem e_unK {op : T → R RV} {x : T} {ρ : En} : unK op (x, ρ) = (op x).bind (toTK ρ) := (rfl)
@[simp] theorem e_toV {t : T} : (RV.v t).toT = t := (rfl)
@[simp] theorem e_toNl {ds : List PyData} : (RV.nl ds).toT = .ol (ds.map T.d) := (rfl)
@[simp] theorem e_toNt {ds : List PyData} : (RV.nt ds).toT = .d (.tuple ds) := (rfl)
@[simp] theorem e_mNil {ρ : En} : mNil ρ = .ok ([], ρ) := (rfl)
def consK2 (x : T) (y : List T × En) : R (List T × En) := .ok (x :: y.1, y.2)
def consK (r : MA) (x : T × En) : R (List T × En) := (r x.2).bind (consK2 x.1)
@[simp] theorem e_mCons {m : MEx} {r : MA} {ρ : En} : mCons m r ρ = (m ρ).bind (consK r) := (rfl)
@[simp] theorem e_consK {r : MA} {x : T} {ρ : En} : consK r (x, ρ) = (r ρ).bind (consK2 x) := (rfl)
@[simp] theorem e_consK2 {x : T} {ts : List T} {ρ : En} : consK2 x (ts, ρ) = .ok (x :: ts, ρ) := (rfl)
def mkTupK (ts : List T) : Option (List PyData) → T
  | some ds => .d (.tuple ds)
  | none => .ot ts
@[simp] theorem e_mkTup {ts : List T} : mkTup ts = mkTupK ts (T.allD ts) := (rfl)
@[simp] theorem e_mkTupK {ts : List T} {ds : List PyData} : mkTupK ts (some ds) = .d (.tuple ds) := (rfl)
@[simp] theorem e_mkTupN {ts : List T} : mkTupK ts none = .ot ts := (rfl)
def tupK (r : List T × En) : R (T × En) := .ok (mkTup r.1, r.2)
@[simp] theorem e_mTup {m : MA} {ρ : En} : mTup m ρ = (m ρ).bind tupK := (rfl)
@[simp] theorem e_tupK {ts : List T} {ρ : En} : tupK (ts, ρ) = .ok (mkTup ts, ρ) := (rfl)
def lstK (r : List T × En) : R (T × En) := .ok (.ol r.1, r.2)
@[simp] theorem e_mLst {m : MA} {ρ : En} : mLst m ρ = (m ρ).bind lstK := (rfl)
@[simp] theorem e_lstK {ts : List T} {ρ : En} : lstK (ts, ρ) = .ok (.ol ts, ρ) := (rfl)
def fzK2 (ρ : En) : Option PyData → R (T × En)
  | some x => .ok (.d x, ρ)
  | none => .bad
def fzK (r : T × En) : R (T × En) := fzK2 r.2 r.1.fz
@[simp] theorem e_mFz {m : MEx} {ρ : En} : mFz m ρ = (m ρ).bind fzK := (rfl)
@[simp] theorem e_fzK {t : T} {ρ : En} : fzK (t, ρ) = fzK2 ρ t.fz := (rfl)
@[simp] theorem e_fzK2 {x : PyData} {ρ : En} : fzK2 ρ (some x) = .ok (.d x, ρ) := (rfl)
def callBK (op : List T → R RV) (r : List T × En) : R (T × En) := (op r.1).bind (toTK r.2)
@[simp] theorem e_mCallB {op : List T → R RV} {m : MA} {ρ : En} : mCallB op m ρ = (m ρ).bind (callBK op) := (rfl)
@[simp] theorem e_callBK {op : List T → R RV} {ts : List T} {ρ : En} : callBK op (ts, ρ) = (op ts).bind (toTK ρ) := (rfl)
def testK (r : T × En) : R (Bool × En) := match r.1 with | .d (.bool b) => .ok (b, r.2) | _ => .bad
@[simp] theorem e_mTest {m : MEx} {ρ : En} : mTest m ρ = (m ρ).bind testK := (rfl)
@[simp] theorem e_testK {b : Bool} {ρ : En} : testK (.d (.bool b), ρ) = .ok (b, ρ) := (rfl)
def truthK (ρ : En) : Option Bool → R (Bool × En)
  | some b => .ok (b, ρ)
  | none => .bad
@[simp] theorem e_mTruth {m : MP} {ρ : En} : mTruth m ρ = truthK ρ ((m ρ).bind T.truth) := (rfl)
@[simp] theorem e_truthK {b : Bool} {ρ : En} : truthK ρ (some b) = .ok (b, ρ) := (rfl)
@[simp] theorem e_truthB {b : Bool} : T.truth (.d (.bool b)) = some b := (rfl)
@[simp] theorem e_truthI {b : Int} : T.truth (.d (.int b)) = some (b != 0) := (rfl)
@[simp] theorem e_truthN : T.truth (.d .none) = some false := (rfl)
@[simp] theorem e_truthL {ds : List PyData} : T.truth (.d (.list ds)) = some (!ds.isEmpty) := (rfl)
@[simp] theorem e_truthT {ds : List PyData} : T.truth (.d (.tuple ds)) = some (!ds.isEmpty) := (rfl)
def notK (r : Bool × En) : R (Bool × En) := .ok (!r.1, r.2)
@[simp] theorem e_mNot {m : MT} {ρ : En} : mNot m ρ = (m ρ).bind notK := (rfl)
@[simp] theorem e_notK {b : Bool} {ρ : En} : notK (b, ρ) = .ok (!b, ρ) := (rfl)
def andK (n : MT) (r : Bool × En) : R (Bool × En) := if r.1 = true then n r.2 else .ok (false, r.2)
@[simp] theorem e_mAnd {m n : MT} {ρ : En} : mAnd m n ρ = (m ρ).bind (andK n) := (rfl)
@[simp] theorem e_andK {n : MT} {b : Bool} {ρ : En} : andK n (b, ρ) = if b = true then n ρ else .ok (false, ρ) := (rfl)
def orK (n : MT) (r : Bool × En) : R (Bool × En) := if r.1 = true then .ok (true, r.2) else n r.2
@[simp] theorem e_mOr {m n : MT} {ρ : En} : mOr m n ρ = (m ρ).bind (orK n) := (rfl)
@[simp] theorem e_orK {n : MT} {b : Bool} {ρ : En} : orK n (b, ρ) = if b = true then .ok (true, ρ) else n ρ := (rfl)
def ifeK (a b : MEx) (r : Bool × En) : R (T × En) := if r.1 = true then a r.2 else b r.2
@[simp] theorem e_mIf {m : MT} {a b : MEx} {ρ : En} : mIf m a b ρ = (m ρ).bind (ifeK a b) := (rfl)
@[simp] theorem e_ifeK {a b : MEx} {x : Bool} {ρ : En} : ifeK a b (x, ρ) = if x = true then a ρ else b ρ := (rfl)
def andVK (n : MEx) (r : Bool × En) : R (T × En) := if r.1 = true then n r.2 else .ok (.d (.bool false), r.2)
@[simp] theorem e_mAndV {m n : MEx} {ρ : En} : mAndV m n ρ = (mTest m ρ).bind (andVK n) := (rfl)
@[simp] theorem e_andVK {n : MEx} {x : Bool} {ρ : En} : andVK n (x, ρ) = if x = true then n ρ else .ok (.d (.bool false), ρ) := (rfl)
def orVK (n : MEx) (r : Bool × En) : R (T × En) := if r.1 = true then .ok (.d (.bool true), r.2) else n r.2
@[simp] theorem e_mOrV {m n : MEx} {ρ : En} : mOrV m n ρ = (mTest m ρ).bind (orVK n) := (rfl)
@[simp] theorem e_orVK {n : MEx} {x : Bool} {ρ : En} : orVK n (x, ρ) = if x = true then .ok (.d (.bool true), ρ) else n ρ := (rfl)
def notVK (r : Bool × En) : R (T × En) := .ok (.d (.bool (!r.1)), r.2)
@[simp] theorem e_mNotV {m : MEx} {ρ : En} : mNotV m ρ = (mTest m ρ).bind notVK := (rfl)
@[simp] theorem e_notVK {x : Bool} {ρ : En} : notVK (x, ρ) = .ok (.d (.bool (!x)), ρ) := (rfl)
@[simp] theorem e_mNext {ρ : En} : mNext ρ = .ok (.next ρ) := (rfl)
@[simp] theorem e_mBrk {ρ : En} : mBrk ρ = .ok (.brk ρ) := (rfl)
@[simp] theorem e_mCont {ρ : En} : mCont ρ = .ok (.cont ρ) := (rfl)
@[simp] theorem e_mNever {ρ : En} : mNever ρ = .bad := (rfl)
def seqK (n : MS) : Out → R Out
  | .next ρ => n ρ
  | .ret t ρ => .ok (.ret t ρ)
  | .brk ρ => .ok (.brk ρ)
  | .cont ρ => .ok (.cont ρ)
@[simp] theorem e_mSeq {m n : MS} {ρ : En} : mSeq m n ρ = (m ρ).bind (seqK n) := by
  unfold mSeq
  congr 1
  funext o
  cases o <;> rfl
@[simp] theorem e_seqN {n : MS} {ρ : En} : seqK n (.next ρ) = n ρ := (rfl)
@[simp] theorem e_seqR {n : MS} {t : T} {ρ : En} : seqK n (.ret t ρ) = .ok (.ret t ρ) := (rfl)
@[simp] theorem e_seqB {n : MS} {ρ : En} : seqK n (.brk ρ) = .ok (.brk ρ) := (rfl)
@[simp] theorem e_seqC {n : MS} {ρ : En} : seqK n (.cont ρ) = .ok (.cont ρ) := (rfl)
def retK (r : T × En) : R Out := .ok (.ret r.1 r.2)
@[simp] theorem e_mRet {m : MEx} {ρ : En} : mRet m ρ = (m ρ).bind retK := (rfl)
@[simp] theorem e_retK {t : T} {ρ : En} : retK (t, ρ) = .ok (.ret t ρ) := (rfl)
def dropMK (r : T × En) : R Out := .ok (.next r.2)
@[simp] theorem e_mDrop {m : MEx} {ρ : En} : mDrop m ρ = (m ρ).bind dropMK := (rfl)
@[simp] theorem e_dropK {t : T} {ρ : En} : dropMK (t, ρ) = .ok (.next ρ) := (rfl)
def ifK (a b : MS) (r : Bool × En) : R Out := if r.1 = true then a r.2 else b r.2
@[simp] theorem e_mIfS {m : MT} {a b : MS} {ρ : En} : mIfS m a b ρ = (m ρ).bind (ifK a b) := (rfl)
@[simp] theorem e_ifK {a b : MS} {x : Bool} {ρ : En} : ifK a b (x, ρ) = if x = true then a ρ else b ρ := (rfl)
def nextK (ρ : En) : R Out := .ok (.next ρ)
@[simp] theorem e_nextK {ρ : En} : nextK ρ = .ok (.next ρ) := (rfl)
def asgK (g : MG) (r : T × En) : R Out := (ofO (g r.1 r.2)).bind nextK
@[simp] theorem e_mAsg {m : MEx} {g : MG} {ρ : En} : mAsg m g ρ = (m ρ).bind (asgK g) := (rfl)
@[simp] theorem e_asgK {g : MG} {t : T} {ρ : En} : asgK g (t, ρ) = (ofO (g t ρ)).bind nextK := (rfl)
@[simp] theorem e_mgName {i : Nat} {t : T} {ρ : En} : mgName i t ρ = some (ρ.set i (some t)) := (rfl)
@[simp] theorem e_mgNil {ρ : En} : mgNil [] ρ = some ρ := (rfl)
@[simp] theorem e_mgCons {g : MG} {r : MGs} {t : T} {ts : List T} {ρ : En} : mgCons g r (t :: ts) ρ = (g t ρ).bind fun ρ1 => r ts ρ1 := (rfl)
def gTupK (n : Nat) (r : MGs) (ρ : En) : Option (List T) → Option En
  | some ts => if ts.length = n then r ts ρ else none
  | none => none
@[simp] theorem e_mgTup {n : Nat} {r : MGs} {t : T} {ρ : En} : mgTup n r t ρ = gTupK n r ρ t.parts := (rfl)
@[simp] theorem e_gTupK {n : Nat} {r : MGs} {ts : List T} {ρ : En} : gTupK n r ρ (some ts) = if ts.length = n then r ts ρ else none := (rfl)
def plK : Option T → Option (List T)
  | some (.ol ts) => some ts
  | _ => none
@[simp] theorem e_plK {ts : List T} : plK (some (.ol ts)) = some ts := (rfl)
@[simp] theorem e_lstAt {p : List Int} {t : T} : lstAt p (some (some t)) = plK (T.at? p t) := (rfl)
def putPK (i : Nat) (p : List Int) (ts : List T) (ρ : En) : Option (Option T) → Option En
  | some (some t) => (T.put? p (.ol ts) t).map fun t' => ρ.set i (some t')
  | _ => none
@[simp] theorem e_putAt {i : Nat} {p : List Int} {ts : List T} {ρ : En} : putAt i p ts ρ = putPK i p ts ρ ρ[i]? := (rfl)
@[simp] theorem e_putK {i : Nat} {p : List Int} {ts : List T} {ρ : En} {t : T} : putPK i p ts ρ (some (some t)) = (T.put? p (.ol ts) t).map fun t' => ρ.set i (some t') := (rfl)
@[simp] theorem e_mgItem {i : Nat} {mp : ML} {mi : MP} {t : T} {ρ : En} : mgItem i mp mi t ρ = (mp ρ).bind fun p => ((mi ρ).bind T.int?).bind fun j => (lstAt p ρ[i]?).bind fun ts => (ixN ts.length j).bind fun k => putAt i p (ts.set k t) ρ := (rfl)
def parK (i j : Nat) (r : List T × En) : R Out := match r.1 with | [t, u] => .ok (.next ((r.2.set i (some t)).set j (some u))) | _ => .bad
@[simp] theorem e_mPar {i j : Nat} {m : MA} {ρ : En} : mPar i j m ρ = (m ρ).bind (parK i j) := (rfl)
@[simp] theorem e_parK {i j : Nat} {t u : T} {ρ : En} : parK i j ([t, u], ρ) = .ok (.next ((ρ.set i (some t)).set j (some u))) := (rfl)
def augK (i : Nat) (f : Int → Int → Int) (ρ : En) : Option (Option T) → Option T → R Out
  | some (some (.d (.int x))), some (.d (.int y)) => .ok (.next (ρ.set i (some (.d (.int (f x y))))))
  | _, _ => .bad
@[simp] theorem e_mAug {i : Nat} {f : Int → Int → Int} {m : MP} {ρ : En} : mAug i f m ρ = augK i f ρ ρ[i]? (m ρ) := (rfl)
@[simp] theorem e_augK {i : Nat} {f : Int → Int → Int} {x y : Int} {ρ : En} : augK i f ρ (some (some (.d (.int x)))) (some (.d (.int y))) = .ok (.next (ρ.set i (some (.d (.int (f x y)))))) := (rfl)
def forK (g : MG) (b : MS) (r : List T × En) : R Out := mLoop g b r.1 r.2
@[simp] theorem e_mFor {mi : MI} {g : MG} {b : MS} {ρ : En} : mFor mi g b ρ = (mi ρ).bind (forK g b) := (rfl)
@[simp] theorem e_forK {g : MG} {b : MS} {ts : List T} {ρ : En} : forK g b (ts, ρ) = mLoop g b ts ρ := (rfl)
def itK2 (ρ : En) (ts : List T) : R (List T × En) := .ok (ts, ρ)
@[simp] theorem e_itK2 {ρ : En} {ts : List T} : itK2 ρ ts = .ok (ts, ρ) := (rfl)
def itK (r : T × En) : R (List T × En) := (ofO (items? r.1)).bind (itK2 r.2)
def itTK (r : T × En) : R (List T × En) := (ofO (itemsT? r.1)).bind (itK2 r.2)
@[simp] theorem e_miL {m : MEx} {ρ : En} : miL m ρ = (m ρ).bind itK := (rfl)
@[simp] theorem e_miT {m : MEx} {ρ : En} : miT m ρ = (m ρ).bind itTK := (rfl)
@[simp] theorem e_itK {ds : List PyData} {ρ : En} : itK (.d (.list ds), ρ) = .ok (ds.map T.d, ρ) := (rfl)
@[simp] theorem e_itTK {ds : List PyData} {ρ : En} : itTK (.d (.tuple ds), ρ) = .ok (ds.map T.d, ρ) := (rfl)
def rg1 : List T × En → R (List T × En) := fun r => match r.1 with | [.d (.int j)] => guard (small62 j) (.ok (rangeItems 0 j, r.2)) | _ => .bad
def rg2 : List T × En → R (List T × En) := fun r => match r.1 with | [.d (.int i), .d (.int j)] => guard (small62 i && small62 j) (.ok (rangeItems i j, r.2)) | _ => .bad
@[simp] theorem e_miR1 {m : MA} {ρ : En} : miR1 m ρ = (m ρ).bind rg1 := (rfl)
@[simp] theorem e_miR2 {m : MA} {ρ : En} : miR2 m ρ = (m ρ).bind rg2 := (rfl)
@[simp] theorem e_rg1 {j : Int} {ρ : En} : rg1 ([.d (.int j)], ρ) = guard (small62 j) (.ok (rangeItems 0 j, ρ)) := (rfl)
@[simp] theorem e_rg2 {i j : Int} {ρ : En} : rg2 ([.d (.int i), .d (.int j)], ρ) = guard (small62 i && small62 j) (.ok (rangeItems i j, ρ)) := (rfl)
def zipK (r : List T × En) : R (List T × En) := match r.1 with | [.d (.list ds), .d (.list es)] => .ok (zipItems ds es, r.2) | _ => .bad
@[simp] theorem e_miZ {m : MA} {ρ : En} : miZ m ρ = (m ρ).bind zipK := (rfl)
@[simp] theorem e_zipK {ds es : List PyData} {ρ : En} : zipK ([.d (.list ds), .d (.list es)], ρ) = .ok (zipItems ds es, ρ) := (rfl)
def enumK (r : List T × En) : R (List T × En) := match r.1 with | [.d (.list ds)] => .ok (enumItems ds, r.2) | _ => .bad
@[simp] theorem e_miN {m : MA} {ρ : En} : miN m ρ = (m ρ).bind enumK := (rfl)
@[simp] theorem e_enumK {ds : List PyData} {ρ : En} : enumK ([.d (.list ds)], ρ) = .ok (enumItems ds, ρ) := (rfl)
def lcK2 (vs : List Nat) (z : List T × En) : R (T × En) := .ok (.ol z.1, wipeE z.2 vs)
def lcK (g : MG) (mt : MT) (me : MEx) (vs : List Nat) (r : List T × En) : R (T × En) := (mLcLoop g mt me vs r.1 [] r.2).bind (lcK2 vs)
@[simp] theorem e_mLc {mi : MI} {g : MG} {mt : MT} {me : MEx} {vs : List Nat} {ρ : En} : mLc mi g mt me vs ρ = (mi ρ).bind (lcK g mt me vs) := (rfl)
@[simp] theorem e_lcK {g : MG} {mt : MT} {me : MEx} {vs : List Nat} {ts : List T} {ρ : En} : lcK g mt me vs (ts, ρ) = (mLcLoop g mt me vs ts [] ρ).bind (lcK2 vs) := (rfl)
@[simp] theorem e_lcK2 {vs : List Nat} {ts : List T} {ρ : En} : lcK2 vs (ts, ρ) = .ok (.ol ts, wipeE ρ vs) := (rfl)
@[simp] theorem e_mtYes {ρ : En} : mtYes ρ = .ok (true, ρ) := (rfl)
@[simp] theorem e_mbNil {ρ : En} : mbNil ρ = .ok ([], ρ) := (rfl)
def mbK2 (x : T) (y : List (Option T) × En) : R (List (Option T) × En) := .ok (some x :: y.1, y.2)
def mbK (r : MB) (x : T × En) : R (List (Option T) × En) := (r x.2).bind (mbK2 x.1)
@[simp] theorem e_mbCons {m : MEx} {r : MB} {ρ : En} : mbCons m r ρ = (m ρ).bind (mbK r) := (rfl)
@[simp] theorem e_mbK {r : MB} {x : T} {ρ : En} : mbK r (x, ρ) = (r ρ).bind (mbK2 x) := (rfl)
@[simp] theorem e_mbK2 {x : T} {os : List (Option T)} {ρ : En} : mbK2 x (os, ρ) = .ok (some x :: os, ρ) := (rfl)
def mbIoK2 (y : List (Option T) × En) : R (List (Option T) × En) := .ok (none :: y.1, y.2)
@[simp] theorem e_mbIoK2 {os : List (Option T)} {ρ : En} : mbIoK2 (os, ρ) = .ok (none :: os, ρ) := (rfl)
def mbIoK (r : MB) (ρ : En) : Option (Option T) → R (List (Option T) × En)
  | some (some _) => (r ρ).bind mbIoK2
  | _ => .bad
@[simp] theorem e_mbIo {i : Nat} {r : MB} {ρ : En} : mbIo i r ρ = mbIoK r ρ ρ[i]? := (rfl)
@[simp] theorem e_mbIoK {r : MB} {ρ : En} {t : T} : mbIoK r ρ (some (some t)) = (r ρ).bind mbIoK2 := (rfl)
def callK4 (t : T) (ρ : En) : R (T × En) := .ok (t, ρ)
@[simp] theorem e_callK4 {t : T} {ρ : En} : callK4 t ρ = .ok (t, ρ) := (rfl)
def callK3 (is : List Nat) (ρ : En) (z : T × List T) : R (T × En) := (ofO (putIo is z.2 ρ)).bind (callK4 z.1)
@[simp] theorem e_callK3 {is : List Nat} {ρ : En} {t : T} {os : List T} : callK3 is ρ (t, os) = (ofO (putIo is os ρ)).bind (callK4 t) := (rfl)
def callK2 (rz gz : Bool) (n : Nat) (fm : List T → R (T × List T)) (is : List Nat) (s : List T × En) : R (T × En) :=
  guard (!gz || allData s.1) ((if decide (s.1.length = n) then (if rz = true then fm s.1 else (fm s.1).nx) else .bad).bind (callK3 is s.2))
@[simp] theorem e_callK2f {n : Nat} {fm : List T → R (T × List T)} {is : List Nat} {ts : List T} {ρ : En} : callK2 false false n fm is (ts, ρ) = (if ts.length = n then (fm ts).nx else .bad).bind (callK3 is ρ) := by simp [callK2]
@[simp] theorem e_callK2t {n : Nat} {fm : List T → R (T × List T)} {is : List Nat} {ts : List T} {ρ : En} : callK2 true false n fm is (ts, ρ) = (if ts.length = n then fm ts else .bad).bind (callK3 is ρ) := by simp [callK2]
def callK (rz gz : Bool) (n : Nat) (fm : List T → R (T × List T)) (ks : List (Option Nat)) (r : List (Option T) × En) : R (T × En) := (ofO (fillIo ks r.1 r.2)).bind (callK2 rz gz n fm (ks.filterMap id))
@[simp] theorem e_callK {rz gz : Bool} {n : Nat} {fm : List T → R (T × List T)} {ks : List (Option Nat)} {os : List (Option T)} {ρ : En} : callK rz gz n fm ks (os, ρ) = (ofO (fillIo ks os ρ)).bind (callK2 rz gz n fm (ks.filterMap id)) := (rfl)
@[simp] theorem e_mCallF {rz gz : Bool} {n : Nat} {fm : List T → R (T × List T)} {ks : List (Option Nat)} {mb : MB} {ρ : En} : mCallF rz gz n fm ks mb ρ = (mb ρ).bind (callK rz gz n fm ks) := (rfl)
@[simp] theorem e_fill0 {ρ : En} : fillIo [] [] ρ = some ([], ρ) := (rfl)
@[simp] theorem e_fill1 {ks : List (Option Nat)} {t : T} {ts : List (Option T)} {ρ : En} : fillIo (none :: ks) (some t :: ts) ρ = (fillIo ks ts ρ).map fun r => (t :: r.1, r.2) := (rfl)
def fillK (i : Nat) (ks : List (Option Nat)) (ts : List (Option T)) (ρ : En) : Option (Option T) → Option (List T × En)
  | some (some t) => (fillIo ks ts (ρ.set i none)).map fun r => (t :: r.1, r.2)
  | _ => none
@[simp] theorem e_fill2 {i : Nat} {ks : List (Option Nat)} {ts : List (Option T)} {ρ : En} : fillIo (some i :: ks) (none :: ts) ρ = fillK i ks ts ρ ρ[i]? := (rfl)
@[simp] theorem e_fillK {i : Nat} {ks : List (Option Nat)} {ts : List (Option T)} {ρ : En} {t : T} : fillK i ks ts ρ (some (some t)) = (fillIo ks ts (ρ.set i none)).map fun r => (t :: r.1, r.2) := (rfl)
@[simp] theorem e_put0 {ρ : En} : putIo [] [] ρ = some ρ := (rfl)
@[simp] theorem e_put1 {i : Nat} {is : List Nat} {t : T} {ts : List T} {ρ : En} : putIo (i :: is) (t :: ts) ρ = putIo is ts (ρ.set i (some t)) := (rfl)
def outK2 (t : T) (os : List T) : R (List T) := .ok (t :: os)
@[simp] theorem e_outK2 {t : T} {os : List T} : outK2 t os = .ok (t :: os) := (rfl)
def outK (r : List Nat) (ρ : En) : Option (Option T) → R (List T)
  | some (some t) => (outs r ρ).bind (outK2 t)
  | _ => .bad
@[simp] theorem e_outs0 {ρ : En} : outs [] ρ = .ok [] := (rfl)
@[simp] theorem e_outs1 {i : Nat} {r : List Nat} {ρ : En} : outs (i :: r) ρ = outK r ρ ρ[i]? := (rfl)
@[simp] theorem e_outK {r : List Nat} {ρ : En} {t : T} : outK r ρ (some (some t)) = (outs r ρ).bind (outK2 t) := (rfl)
def fnK2 (t : T) (os : List T) : R (T × List T) := .ok (t, os)
@[simp] theorem e_fnK2 {t : T} {os : List T} : fnK2 t os = .ok (t, os) := (rfl)
def fnK (io : List Nat) : Out → R (T × List T)
  | .ret t ρ => (outs io ρ).bind (fnK2 t)
  | .next ρ => (outs io ρ).bind (fnK2 (.d .none))
  | .brk _ => .bad
  | .cont _ => .bad
@[simp] theorem e_mFn {io : List Nat} {k : Nat} {ms : MS} {ts : List T} : mFn io k ms ts = (ms (ts.map some ++ List.replicate k none)).bind (fnK io) := by
  unfold mFn
  congr 1
  funext o
  cases o <;> rfl
@[simp] theorem e_fnR {io : List Nat} {t : T} {ρ : En} : fnK io (.ret t ρ) = (outs io ρ).bind (fnK2 t) := (rfl)
@[simp] theorem e_fnN {io : List Nat} {ρ : En} : fnK io (.next ρ) = (outs io ρ).bind (fnK2 (.d .none)) := (rfl)
def loopK2 (g : MG) (b : MS) (xs : List T) : Out → R Out
  | .next ρ => mLoop g b xs ρ
  | .cont ρ => mLoop g b xs ρ
  | .brk ρ => .ok (.next ρ)
  | .ret t ρ => .ok (.ret t ρ)
def loopK (g : MG) (b : MS) (xs : List T) (ρ : En) : R Out := (b ρ).bind (loopK2 g b xs)
@[simp] theorem e_loop0 {g : MG} {b : MS} {ρ : En} : mLoop g b [] ρ = .ok (.next ρ) := (rfl)
@[simp] theorem e_loopC {g : MG} {b : MS} {x : T} {xs : List T} {ρ : En} : mLoop g b (x :: xs) ρ = (ofO (g x ρ)).bind (loopK g b xs) := by
  have h : (fun ρ1 => (b ρ1).bind fun o => match o with
    | .next ρ2 => mLoop g b xs ρ2
    | .cont ρ2 => mLoop g b xs ρ2
    | .brk ρ2 => .ok (.next ρ2)
    | .ret t ρ2 => .ok (.ret t ρ2)) = loopK g b xs := by
    funext ρ1
    unfold loopK
    congr 1
  exact congrArg (fun k => (ofO (g x ρ)).bind k) h
@[simp] theorem e_loopK {g : MG} {b : MS} {xs : List T} {ρ : En} : loopK g b xs ρ = (b ρ).bind (loopK2 g b xs) := (rfl)
@[simp] theorem e_loopN {g : MG} {b : MS} {xs : List T} {ρ : En} : loopK2 g b xs (.next ρ) = mLoop g b xs ρ := (rfl)
@[simp] theorem e_loopCo {g : MG} {b : MS} {xs : List T} {ρ : En} : loopK2 g b xs (.cont ρ) = mLoop g b xs ρ := (rfl)
@[simp] theorem e_loopB {g : MG} {b : MS} {xs : List T} {ρ : En} : loopK2 g b xs (.brk ρ) = .ok (.next ρ) := (rfl)
@[simp] theorem e_loopR {g : MG} {b : MS} {xs : List T} {t : T} {ρ : En} : loopK2 g b xs (.ret t ρ) = .ok (.ret t ρ) := (rfl)
def lcL3 (g : MG) (mt : MT) (me : MEx) (vs : List Nat) (xs acc : List T) (y : T × En) : R (List T × En) := mLcLoop g mt me vs xs (acc ++ [y.1]) y.2
def lcL2 (g : MG) (mt : MT) (me : MEx) (vs : List Nat) (xs acc : List T) (r : Bool × En) : R (List T × En) := if r.1 = true then guard (decide (acc.length < sLine)) ((me r.2).bind (lcL3 g mt me vs xs acc)) else mLcLoop g mt me vs xs acc r.2
def lcL1 (g : MG) (mt : MT) (me : MEx) (vs : List Nat) (xs acc : List T) (ρ : En) : R (List T × En) := (mt ρ).bind (lcL2 g mt me vs xs acc)
@[simp] theorem e_lc0 {g : MG} {mt : MT} {me : MEx} {vs : List Nat} {acc : List T} {ρ : En} : mLcLoop g mt me vs [] acc ρ = .ok (acc, ρ) := (rfl)
theorem e_lcC {g : MG} {mt : MT} {me : MEx} {vs : List Nat} {x : T} {xs acc : List T} {ρ : En} : mLcLoop g mt me vs (x :: xs) acc ρ = (ofO (g x (wipeE ρ vs))).bind (lcL1 g mt me vs xs acc) := (rfl)
@[simp] theorem e_lcL1 {g : MG} {mt : MT} {me : MEx} {vs : List Nat} {xs acc : List T} {ρ : En} : lcL1 g mt me vs xs acc ρ = (mt ρ).bind (lcL2 g mt me vs xs acc) := (rfl)
@[simp] theorem e_lcL2 {g : MG} {mt : MT} {me : MEx} {vs : List Nat} {xs acc : List T} {b : Bool} {ρ : En} : lcL2 g mt me vs xs acc (b, ρ) = if b = true then guard (decide (acc.length < sLine)) ((me ρ).bind (lcL3 g mt me vs xs acc)) else mLcLoop g mt me vs xs acc ρ := (rfl)
@[simp] theorem e_lcL3 {g : MG} {mt : MT} {me : MEx} {vs : List Nat} {xs acc : List T} {t : T} {ρ : En} : lcL3 g mt me vs xs acc (t, ρ) = mLcLoop g mt me vs xs (acc ++ [t]) ρ := (rfl)
def methK4 (t : T) (ρ : En) : R (T × En) := .ok (t, ρ)
@[simp] theorem e_methK4 {t : T} {ρ : En} : methK4 t ρ = .ok (t, ρ) := (rfl)
def methK (i : Nat) (p : List Int) (op : List T → List T → Option (T × List T)) (r : List T × En) : R (T × En) := (ofO (lstAt p r.2[i]?)).bind fun ts => (ofO (op ts r.1)).bind fun z => (ofO (putAt i p z.2 r.2)).bind (methK4 z.1)
@[simp] theorem e_methK {i : Nat} {p : List Int} {op : List T → List T → Option (T × List T)} {us : List T} {ρ : En} : methK i p op (us, ρ) = (ofO (lstAt p ρ[i]?)).bind fun ts => (ofO (op ts us)).bind fun z => (ofO (putAt i p z.2 ρ)).bind (methK4 z.1) := (rfl)
@[simp] theorem e_mMeth {i : Nat} {mp : ML} {op : List T → List T → Option (T × List T)} {ma : MA} {ρ : En} : mMeth i mp op ma ρ = (ofO (mp ρ)).bind fun p => (ofO (lstAt p ρ[i]?)).bind fun _ => (ma ρ).bind (methK i p op) := (rfl)
@[simp] theorem e_lHere {ρ : En} : lHere ρ = some [] := (rfl)
@[simp] theorem e_lIx {mp : ML} {mi : MP} {ρ : En} : lIx mp mi ρ = (mp ρ).bind fun p => ((mi ρ).bind T.int?).bind fun j => some (p ++ [j]) := (rfl)
@[simp] theorem e_int? {j : Int} : (T.d (.int j)).int? = some j := (rfl)
@[simp] theorem e_atNil {t : T} : T.at? [] t = some t := by cases t <;> rfl
@[simp] theorem e_atOl {j : Int} {js : List Int} {ts : List T} : T.at? (j :: js) (.ol ts) = (atI ts j).bind (T.at? js) := (rfl)
@[simp] theorem e_atOt {j : Int} {js : List Int} {ts : List T} : T.at? (j :: js) (.ot ts) = (atI ts j).bind (T.at? js) := (rfl)
@[simp] theorem e_putNil {n t : T} : T.put? [] n t = some n := by cases t <;> rfl
@[simp] theorem e_putOl {j : Int} {js : List Int} {n : T} {ts : List T} : T.put? (j :: js) n (.ol ts) = (ixN ts.length j).bind fun k => (ts[k]?).bind fun t => (T.put? js n t).map fun t' => .ol (ts.set k t') := (rfl)
@[simp] theorem e_putOt {j : Int} {js : List Int} {n : T} {ts : List T} : T.put? (j :: js) n (.ot ts) = (ixN ts.length j).bind fun k => (ts[k]?).bind fun t => (T.put? js n t).map fun t' => .ot (ts.set k t') := (rfl)
@[simp] theorem e_append {ts : List T} {u : T} : opAppend ts [u] = if decide (ts.length < sLine) = true then some (.d .none, ts ++ [u]) else none := (rfl)
def extK (ts : List T) : Option (List T) → Option (T × List T)
  | some ks => if decide (ts.length + ks.length ≤ sLine) = true then some (.d .none, ts ++ ks) else none
  | none => none
@[simp] theorem e_extend {ts : List T} {u : T} : opExtend ts [u] = extK ts u.kids := (rfl)
@[simp] theorem e_extK {ts ks : List T} : extK ts (some ks) = if decide (ts.length + ks.length ≤ sLine) = true then some (.d .none, ts ++ ks) else none := (rfl)
@[simp] theorem e_insert {ts : List T} {i : Int} {u : T} : opInsert ts [.d (.int i), u] = if decide (ts.length < sLine ∧ 0 ≤ i ∧ i < 2 ^ 63) = true then some (.d .none, ts.take i.toNat ++ [u] ++ ts.drop i.toNat) else none := (rfl)
@[simp] theorem e_kidsL {ds : List PyData} : T.kids (.d (.list ds)) = some (ds.map T.d) := (rfl)
@[simp] theorem e_kidsO {ts : List T} : T.kids (.ol ts) = some ts := (rfl)
@[simp] theorem e_partsD {ds : List PyData} : T.parts (.d (.tuple ds)) = some (ds.map T.d) := (rfl)
@[simp] theorem e_partsO {ts : List T} : T.parts (.ot ts) = some ts := (rfl)
def idxK (x : T) : R RV := .ok (.v x)
@[simp] theorem e_idxK {x : T} : idxK x = .ok (.v x) := (rfl)
def idxDK (x : PyData) : R RV := .ok (.v (.d x))
@[simp] theorem e_idxDK {x : PyData} : idxDK x = .ok (.v (.d x)) := (rfl)
def slK4 (ρ : En) (z : RV) : R (T × En) := .ok (z.toT, ρ)
@[simp] theorem e_slK4 {ρ : En} {z : RV} : slK4 ρ z = .ok (z.toT, ρ) := (rfl)
@[simp] theorem e_mSl {op : T → Option Int → Option Int → Option RV} {m : MP} {ml mh : MO} {ρ : En} : mSl op m ml mh ρ = (ofO (m ρ)).bind fun t => (ofO (ml ρ)).bind fun lo => (ofO (mh ρ)).bind fun hi => (ofO (op t lo hi)).bind (slK4 ρ) := (rfl)
@[simp] theorem e_oNone {ρ : En} : oNone ρ = some none := (rfl)
@[simp] theorem e_oSome {m : MP} {ρ : En} : oSome m ρ = ((m ρ).bind T.int?).map some := (rfl)
@[simp] theorem e_slL {ds : List PyData} {lo hi : Option Int} : opSlL (.d (.list ds)) lo hi = some (.nl (cutG ds lo hi)) := (rfl)
@[simp] theorem e_slR {ds : List PyData} {lo hi : Option Int} : opSlL (.rd ds) lo hi = some (.nl (cutG ds lo hi)) := (rfl)
@[simp] theorem e_slO {ts : List T} {lo hi : Option Int} : opSlL (.ol ts) lo hi = (T.allD ts).map fun ds => .nl (cutG ds lo hi) := (rfl)
@[simp] theorem e_slT {ds : List PyData} {lo hi : Option Int} : opSlT (.d (.tuple ds)) lo hi = if isWhole ds.length lo hi = false then some (.nt (cutG ds lo hi)) else none := (rfl)
def slE3 (ρ : En) (z : RV) : R (T × En) := .ok (z.toT, ρ)
@[simp] theorem e_slE3 {ρ : En} {z : RV} : slE3 ρ z = .ok (z.toT, ρ) := (rfl)
def slEK (ml mh : MO) (r : T × En) : R (T × En) := (ofO (ml r.2)).bind fun lo => (ofO (mh r.2)).bind fun hi => (ofO (opSlA r.1 lo hi)).bind (slE3 r.2)
@[simp] theorem e_mSlE {m : MEx} {ml mh : MO} {ρ : En} : mSlE m ml mh ρ = (m ρ).bind (slEK ml mh) := (rfl)
@[simp] theorem e_slEK {ml mh : MO} {t : T} {ρ : En} : slEK ml mh (t, ρ) = (ofO (ml ρ)).bind fun lo => (ofO (mh ρ)).bind fun hi => (ofO (opSlA t lo hi)).bind (slE3 ρ) := (rfl)
@[simp] theorem e_slAd {ds : List PyData} {lo hi : Option Int} : opSlA (.d (.list ds)) lo hi = some (.nl (cutG ds lo hi)) := (rfl)
@[simp] theorem e_slAo {ts : List T} {lo hi : Option Int} : opSlA (.ol ts) lo hi = (T.allD ts).map fun ds => .nl (cutG ds lo hi) := (rfl)
@[simp] theorem e_revL {ds : List PyData} : opRevL (.d (.list ds)) = .ok (.nl ds.reverse) := (rfl)
@[simp] theorem e_ltAI {i j : Int} : opLtA (.d (.int i)) (.d (.int j)) = .ok (.v (.d (.bool (decide (i < j))))) := (rfl)
@[simp] theorem e_ltAT {a b c d : Int} : opLtA (.d (.tuple [.int a, .int b])) (.d (.tuple [.int c, .int d])) = .ok (.v (.d (.bool (HT.lexLt [a, b] [c, d])))) := (rfl)
def dropIoK (r : T × List T) : R (T × List T) := .ok (r.1, [])
@[simp] theorem e_dropIo {m : List T → R (T × List T)} {ts : List T} : dropIo m ts = (m ts).bind dropIoK := (rfl)
@[simp] theorem e_dropIoK {t : T} {os : List T} : dropIoK (t, os) = .ok (t, []) := (rfl)
@[simp] theorem e_addII {i j : Int} : opAdd (.d (.int i)) (.d (.int j)) = .ok (.v (.d (.int (i + j)))) := (rfl)
@[simp] theorem e_subII {i j : Int} : opSub (.d (.int i)) (.d (.int j)) = .ok (.v (.d (.int (i - j)))) := (rfl)
@[simp] theorem e_mulII {i j : Int} : opMulI (.d (.int i)) (.d (.int j)) = guard (mulOk i j) (.ok (.v (.d (.int (i * j))))) := (rfl)
@[simp] theorem e_modII {i j : Int} : opMod (.d (.int i)) (.d (.int j)) = guard (modOk i j) (.ok (.v (.d (.int (i.fmod j))))) := (rfl)
@[simp] theorem e_divII {i j : Int} : opFdiv (.d (.int i)) (.d (.int j)) = guard (divOk i j) (.ok (.v (.d (.int (i.fdiv j))))) := (rfl)
@[simp] theorem e_powII {i j : Int} : opPow (.d (.int i)) (.d (.int j)) = guard (powOk i j) (.ok (.v (.d (.int (i ^ j.toNat))))) := (rfl)
@[simp] theorem e_ltII {i j : Int} : opLt (.d (.int i)) (.d (.int j)) = .ok (.v (.d (.bool (decide (i < j))))) := (rfl)
@[simp] theorem e_leII {i j : Int} : opLe (.d (.int i)) (.d (.int j)) = .ok (.v (.d (.bool (decide (i ≤ j))))) := (rfl)
@[simp] theorem e_gtII {i j : Int} : opGt (.d (.int i)) (.d (.int j)) = .ok (.v (.d (.bool (decide (j < i))))) := (rfl)
@[simp] theorem e_geII {i j : Int} : opGe (.d (.int i)) (.d (.int j)) = .ok (.v (.d (.bool (decide (j ≤ i))))) := (rfl)
@[simp] theorem e_negI {i : Int} : opNeg (.d (.int i)) = .ok (.v (.d (.int (-i)))) := (rfl)
@[simp] theorem e_eqII {i j : Int} : opEq (.d (.int i)) (.d (.int j)) = .ok (.v (.d (.bool (decide (i = j))))) := (rfl)
@[simp] theorem e_neII {i j : Int} : opNe (.d (.int i)) (.d (.int j)) = .ok (.v (.d (.bool (!decide (i = j))))) := (rfl)
@[simp] theorem e_eqBB {i j : Bool} : opEq (.d (.bool i)) (.d (.bool j)) = .ok (.v (.d (.bool (decide (i = j))))) := (rfl)
@[simp] theorem e_neBB {i j : Bool} : opNe (.d (.bool i)) (.d (.bool j)) = .ok (.v (.d (.bool (!decide (i = j))))) := (rfl)
@[simp] theorem e_eqSS {i j : Str} : opEq (.d (.str i)) (.d (.str j)) = .ok (.v (.d (.bool (decide (i = j))))) := (rfl)
@[simp] theorem e_neSS {i j : Str} : opNe (.d (.str i)) (.d (.str j)) = .ok (.v (.d (.bool (!decide (i = j))))) := (rfl)
@[simp] theorem e_idxL {ds : List PyData} {i : Int} : opIdx (.d (.list ds)) (.d (.int i)) = (ofO (atI ds i)).bind idxDK := (rfl)
@[simp] theorem e_idxT {ds : List PyData} {i : Int} : opIdx (.d (.tuple ds)) (.d (.int i)) = (ofO (atI ds i)).bind idxDK := (rfl)
@[simp] theorem e_idxOl {ts : List T} {i : Int} : opIdx (.ol ts) (.d (.int i)) = (ofO (atI ts i)).bind idxK := (rfl)
@[simp] theorem e_idxOt {ts : List T} {i : Int} : opIdx (.ot ts) (.d (.int i)) = (ofO (atI ts i)).bind idxK := (rfl)
@[simp] theorem e_idxRd {ds : List PyData} {i : Int} : opIdx (.rd ds) (.d (.int i)) = (ofO (atI ds i)).bind idxDK := (rfl)
@[simp] theorem e_isNN : T.isNone (.d .none) = true := (rfl)
@[simp] theorem e_isN {x : T} : opIsN x (.d .none) = .ok (.v (.d (.bool x.isNone))) := (rfl)
@[simp] theorem e_notN {x : T} : opNotN x (.d .none) = .ok (.v (.d (.bool (!x.isNone)))) := (rfl)
@[simp] theorem e_nnI {i : Int} : T.isNone (.d (.int i)) = false := (rfl)
@[simp] theorem e_nnB {i : Bool} : T.isNone (.d (.bool i)) = false := (rfl)
@[simp] theorem e_nnT {i : List PyData} : T.isNone (.d (.tuple i)) = false := (rfl)
@[simp] theorem e_nnL {i : List PyData} : T.isNone (.d (.list i)) = false := (rfl)
@[simp] theorem e_opLen {t : T} : opLen [t] = (ofO t.size).bind fun n => .ok (.v (.d (.int n))) := (rfl)
@[simp] theorem e_sizeL {ds : List PyData} : T.size (.d (.list ds)) = some ds.length := (rfl)
@[simp] theorem e_sizeT {ds : List PyData} : T.size (.d (.tuple ds)) = some ds.length := (rfl)
@[simp] theorem e_sizeOl {ts : List T} : T.size (.ol ts) = some ts.length := (rfl)
@[simp] theorem e_sizeOt {ts : List T} : T.size (.ot ts) = some ts.length := (rfl)
@[simp] theorem e_sizeRd {ds : List PyData} : T.size (.rd ds) = some ds.length := (rfl)
@[simp] theorem e_abs {i : Int} : opAbs [.d (.int i)] = .ok (.v (.d (.int i.natAbs))) := by
  show R.ok (RV.v (T.d (.int (if i < 0 then -i else i)))) = _
  have : (if i < 0 then -i else i) = (i.natAbs : Int) := by split <;> omega
  rw [this]
@[simp] theorem e_int1 {i : Int} : opInt1 [.d (.int i)] = .ok (.v (.d (.int i))) := (rfl)
@[simp] theorem e_int1b {b : Bool} : opInt1 [.d (.bool b)] = .ok (.v (.d (.int (if b then 1 else 0)))) := (rfl)
@[simp] theorem e_max2 {i j : Int} : opMax2 [.d (.int i), .d (.int j)] = .ok (.v (.d (.int (if j > i then j else i)))) := (rfl)
@[simp] theorem e_min2 {i j : Int} : opMin2 [.d (.int i), .d (.int j)] = .ok (.v (.d (.int (if j < i then j else i)))) := (rfl)
@[simp] theorem e_listOf {t : T} : opListOf [t] = (ofO t.seq?).bind fun ds => .ok (.nl ds) := (rfl)
@[simp] theorem e_seqL {ds : List PyData} : T.seq? (.d (.list ds)) = some ds := (rfl)
@[simp] theorem e_seqT {ds : List PyData} : T.seq? (.d (.tuple ds)) = some ds := (rfl)
@[simp] theorem e_seqOl {ts : List T} : T.seq? (.ol ts) = T.allD ts := (rfl)
@[simp] theorem e_seqRd {ds : List PyData} : T.seq? (.rd ds) = some ds := (rfl)
@[simp] theorem e_tupleOfT {ds : List PyData} : opTupleOf [.d (.tuple ds)] = .ok (.v (.d (.tuple ds))) := (rfl)
@[simp] theorem e_tupleOfL {ds : List PyData} : opTupleOf [.d (.list ds)] = .ok (.nt ds) := (rfl)
def tryK (xs : List Str) (j : Nat) (ρ : En) (r : R Out) : R Out := match r with
  | .exc x => if xs.contains x then .ok (.next ((List.replicate ρ.length none).set j (some (.ex x)))) else .bad
  | r => r
theorem e_mTryK0 {xs : List Str} {j : Nat} {mb : MS} {ρ : En} : mTryK xs j mb ρ = tryK xs j ρ (mb ρ) := by
  unfold mTryK tryK
  cases mb ρ <;> rfl
@[simp] theorem e_mTryK {xs : List Str} {j : Nat} {mb : MS} {ρ : En} : mTryK xs j mb ρ = tryK xs j ρ (mb ρ) := e_mTryK0
@[simp] theorem e_tryOk {xs : List Str} {j : Nat} {ρ : En} {o : Out} : tryK xs j ρ (.ok o) = .ok o := (rfl)
@[simp] theorem e_tryExc {xs : List Str} {j : Nat} {ρ : En} {x : Str} : tryK xs j ρ (.exc x) = if xs.contains x then .ok (.next ((List.replicate ρ.length none).set j (some (.ex x)))) else .bad := (rfl)
@[simp] theorem e_mRaise {x : Str} {ρ : En} : mRaise x ρ = .exc x := (rfl)
@[simp] theorem e_pIsX {tab : XTab} {m : MP} {ρ : En} : pIsX tab m ρ = (m ρ).bind fun t => (exIs tab t).map T.d := (rfl)
@[simp] theorem e_exIs {tab : XTab} {x : Str} : exIs tab (.ex x) = (tab.lookup x).map PyData.bool := (rfl)
@[simp] theorem e_mgLst {n : Nat} {r : MGs} {ds : List PyData} {ρ : En} : mgLst n r (.d (.list ds)) ρ = if ds.length = n then r (ds.map T.d) ρ else none := (rfl)
def eqNilK (ρ : En) (o : R RV) : R (T × En) := match o with
  | .ok (.v (.d (.bool b))) => .ok (.d (.bool b), ρ)
  | _ => .bad
def eqNilK0 (f : T → T → R RV) (ρ : En) (o : Option T) : R (T × En) := match o with
  | some x => eqNilK ρ (f x (.d (.list [])))
  | none => .bad
@[simp] theorem e_mEqNil {f : T → T → R RV} {mp : MP} {ρ : En} : mEqNil f mp ρ = eqNilK0 f ρ (mp ρ) := (rfl)
@[simp] theorem e_eqNilK0 {f : T → T → R RV} {x : T} {ρ : En} : eqNilK0 f ρ (some x) = eqNilK ρ (f x (.d (.list []))) := (rfl)
@[simp] theorem e_eqNilK {b : Bool} {ρ : En} : eqNilK ρ (.ok (.v (.d (.bool b)))) = .ok (.d (.bool b), ρ) := (rfl)
def tupCntK (mp : MP) (r : List T × En) : R (T × En) := match T.allD r.1, mp r.2 with
  | some ds, some (.d x) => (cntD ds x).bind fun n => .ok (.d n, r.2)
  | _, _ => .bad
def tupCntK2 (ρ : En) (od : Option (List PyData)) (o : Option T) : R (T × En) := match od, o with
  | some ds, some (.d x) => (cntD ds x).bind fun n => .ok (.d n, ρ)
  | _, _ => .bad
@[simp] theorem e_mTupCount {ma : MA} {mp : MP} {ρ : En} : mTupCount ma mp ρ = (ma ρ).bind (tupCntK mp) := (rfl)
@[simp] theorem e_tupCntK {mp : MP} {ts : List T} {ρ : En} : tupCntK mp (ts, ρ) = tupCntK2 ρ (T.allD ts) (mp ρ) := (rfl)
@[simp] theorem e_tupCntK2 {ds : List PyData} {x : PyData} {ρ : En} : tupCntK2 ρ (some ds) (some (.d x)) = (cntD ds x).bind fun n => .ok (.d n, ρ) := (rfl)
def isXTK (ρ : En) (d : PyData) : R (T × En) := .ok (.d d, ρ)
@[simp] theorem e_isXTK {ρ : En} {d : PyData} : isXTK ρ d = .ok (.d d, ρ) := (rfl)
@[simp] theorem e_mIsXT {tab : XTab} {m : MP} {ρ : En} : mIsXT tab m ρ = (ofO ((m ρ).bind (exIs tab))).bind (isXTK ρ) := (rfl)
@[simp] theorem e_isB {a b : Bool} : opIsB (.d (.bool a)) (.d (.bool b)) = .ok (.v (.d (.bool (decide (a = b))))) := (rfl)
@[simp] theorem e_notB {a b : Bool} : opNotB (.d (.bool a)) (.d (.bool b)) = .ok (.v (.d (.bool (!decide (a = b))))) := (rfl)
@[simp] theorem e_isaInt {n : String} {i : Int} : isaT n (.d (.int i)) = kitB "int" n := (rfl)
@[simp] theorem e_isaBool {n : String} {i : Bool} : isaT n (.d (.bool i)) = kitB "bool" n := (rfl)
@[simp] theorem e_isaStr {n : String} {i : Str} : isaT n (.d (.str i)) = kitB "str" n := (rfl)
@[simp] theorem e_isaTup {n : String} {i : List PyData} : isaT n (.d (.tuple i)) = kitB "tuple" n := (rfl)
@[simp] theorem e_isaLst {n : String} {i : List PyData} : isaT n (.d (.list i)) = kitB "list" n := (rfl)
@[simp] theorem e_isaDct {n : String} {i : List (PyData × PyData)} : isaT n (.d (.dict i)) = kitB "dict" n := (rfl)
@[simp] theorem e_isaNone {n : String} : isaT n (.d .none) = kitB "NoneType" n := (rfl)
@[simp] theorem e_isaOl {n : String} {i : List T} : isaT n (.ol i) = kitB "list" n := (rfl)
@[simp] theorem e_fzD {x : PyData} : T.fz (.d x) = some x := by simp [T.fz]
@[simp] theorem e_fzOl {ts : List T} : T.fz (.ol ts) = (T.fzAll ts).map PyData.list := by simp [T.fz]
@[simp] theorem e_fzOt {ts : List T} : T.fz (.ot ts) = (T.fzAll ts).map PyData.tuple := by simp [T.fz]
@[simp] theorem e_fzNil : T.fzAll [] = some [] := by simp [T.fzAll]
@[simp] theorem e_fzCons {t : T} {r : List T} : T.fzAll (t :: r) = (T.fz t).bind fun x => (T.fzAll r).map fun xs => x :: xs := by simp [T.fzAll]
@[simp] theorem e_fzMap : ∀ {ds : List PyData}, T.fzAll (ds.map T.d) = some ds
  | [] => by simp
  | x :: r => by simp [e_fzMap (ds := r)]
@[simp] theorem e_fzMapC {α : Type} {f : α → PyData} {xs : List α} : T.fzAll (xs.map (T.d ∘ f)) = some (xs.map f) := by rw [← List.map_map]; exact e_fzMap
@[simp] theorem e_fzMapL {α : Type} {f : α → PyData} {xs : List α} : T.fzAll (xs.map fun x => T.d (f x)) = some (xs.map f) := e_fzMapC
@[simp] theorem e_toDD {x : PyData} : T.toD (.d x) = some x := by simp [T.toD]
@[simp] theorem e_toDOl {ts : List T} : T.toD (.ol ts) = (T.toDAll ts).map PyData.list := by simp [T.toD]
@[simp] theorem e_toDOt {ts : List T} : T.toD (.ot ts) = (T.toDAll ts).map PyData.tuple := by simp [T.toD]
@[simp] theorem e_toDNil : T.toDAll [] = some [] := by simp [T.toDAll]
@[simp] theorem e_toDCons {t : T} {r : List T} : T.toDAll (t :: r) = (T.toD t).bind fun x => (T.toDAll r).map fun xs => x :: xs := by simp [T.toDAll]
@[simp] theorem e_toDMap : ∀ {ds : List PyData}, T.toDAll (ds.map T.d) = some ds
  | [] => by simp
  | x :: r => by simp [e_toDMap (ds := r)]
@[simp] theorem e_toDMapC {α : Type} {f : α → PyData} {xs : List α} : T.toDAll (xs.map (T.d ∘ f)) = some (xs.map f) := by rw [← List.map_map]; exact e_toDMap
@[simp] theorem e_toDMapL {α : Type} {f : α → PyData} {xs : List α} : T.toDAll (xs.map fun x => T.d (f x)) = some (xs.map f) := e_toDMapC
@[simp] theorem e_allDNil : T.allD [] = some [] := (rfl)
@[simp] theorem e_allDCons {x : PyData} {r : List T} : T.allD (.d x :: r) = (T.allD r).map fun xs => x :: xs := (rfl)
@[simp] theorem e_allDOl {x : List T} {r : List T} : T.allD (.ol x :: r) = none := (rfl)
@[simp] theorem e_allDMapC {α : Type} {f : α → PyData} {xs : List α} : T.allD (xs.map (T.d ∘ f)) = some (xs.map f) := by rw [← List.map_map]; exact allD_map _
@[simp] theorem e_allDMapL {α : Type} {f : α → PyData} {xs : List α} : T.allD (xs.map fun x => T.d (f x)) = some (xs.map f) := e_allDMapC
@[simp] theorem e_allDMap {ds : List PyData} : T.allD (ds.map T.d) = some ds := allD_map ds
@[simp] theorem e_lstL {ds : List PyData} : T.lst? (.d (.list ds)) = some ds := (rfl)
@[simp] theorem e_lstO {ts : List T} : T.lst? (.ol ts) = T.allD ts := (rfl)
@[simp] theorem e_wipe0 {ρ : Env} : wipeE ρ [] = ρ := (rfl)
@[simp] theorem e_wipe1 {ρ : Env} {v : Nat} {vs : List Nat} : wipeE ρ (v :: vs) = (wipeE ρ vs).set v none := (rfl)
theorem e_ixN {m n : Nat} (h : n < m) : ixN m (n : Int) = some n := by
  unfold ixN
  rw [if_pos (by omega), if_pos (by omega)]
  simp
theorem e_atIn {α : Type} {xs : List α} {n : Nat} : atI xs (n : Int) = xs[n]? := by
  unfold atI
  by_cases h : n < xs.length
  · rw [e_ixN h]; rfl
  · rw [List.getElem?_eq_none (by omega)]
    unfold ixN
    rw [if_pos (by omega), if_neg (by omega)]
    rfl
@[simp] theorem e_atI0 {α : Type} {x : α} {xs : List α} : atI (x :: xs) 0 = some x := (e_atIn (n := 0)).trans rfl
@[simp] theorem e_atI1 {α : Type} {x y : α} {xs : List α} : atI (x :: y :: xs) 1 = some y := (e_atIn (n := 1)).trans rfl
@[simp] theorem e_atI2 {α : Type} {x y z : α} {xs : List α} : atI (x :: y :: z :: xs) 2 = some z := (e_atIn (n := 2)).trans rfl
@[simp] theorem e_atI3 {α : Type} {x y z u : α} {xs : List α} : atI (x :: y :: z :: u :: xs) 3 = some u := (e_atIn (n := 3)).trans rfl
end L3
namespace L3
open PySem
def Yes (r : T × List T) : Prop := r.1 = .d (.bool true)
@[simp] theorem e_yes {os : List T} : Yes (.d (.bool true), os) := rfl
end L3
namespace L3
open PySem PySem.Spec PyProof.Rows L2
theorem mWhile_of {mt : MT} {mb : MS} {n : Nat} {ρ : Env} (h : mWhileN mt mb n ρ ≠ .bad) : mWhile mt mb ρ = mWhileN mt mb n ρ := by
  have hx : ∃ n, mWhileN mt mb n ρ ≠ .bad := ⟨n, h⟩
  unfold mWhile
  rw [dif_pos hx]
  have hc := Classical.choose_spec hx
  rcases Nat.le_total n (Classical.choose hx) with l | l
  · exact mWhileN_le h l
  · exact (mWhileN_le hc l).symm
theorem mWhile_bad {mt : MT} {mb : MS} {ρ : Env} (h : ∀ n, mWhileN mt mb n ρ = .bad) : mWhile mt mb ρ = .bad := by
  unfold mWhile
  rw [dif_neg]
  rintro ⟨n, e⟩
  exact e (h n)
noncomputable abbrev wNext (mt : MT) (mb : MS) : Out → R Out := fun o => match o with
  | .next ρ2 => mWhile mt mb ρ2
  | .cont ρ2 => mWhile mt mb ρ2
  | .brk ρ2 => .ok (.next ρ2)
  | .ret t ρ2 => .ok (.ret t ρ2)
theorem mWhile_eq {mt : MT} {mb : MS} {ρ : Env} : mWhile mt mb ρ = (mt ρ).bind fun r => if r.1 = true then (mb r.2).bind (wNext mt mb) else .ok (.next r.2) := by
  have step : ∀ n, mWhileN mt mb (n + 1) ρ = (mt ρ).bind fun r => if r.1 = true then (mb r.2).bind (fun o => match o with
    | .next ρ2 => mWhileN mt mb n ρ2
    | .cont ρ2 => mWhileN mt mb n ρ2
    | .brk ρ2 => .ok (.next ρ2)
    | .ret t ρ2 => .ok (.ret t ρ2)) else .ok (.next r.2) := fun n => rfl
  cases e : mt ρ with
  | exc x =>
    rw [mWhile_of (n := 1) (by rw [step, e]; exact fun z => nomatch z), step, e]; rfl
  | bad => exact mWhile_bad fun n => (match n with
      | 0 => rfl
      | n + 1 => by rw [step, e]; rfl)
  | ok r =>
    show _ = if r.1 = true then _ else _
    by_cases hr : r.1 = true
    · rw [if_pos hr]
      have step2 : ∀ n, mWhileN mt mb (n + 1) ρ = (mb r.2).bind (fun o => match o with
        | .next ρ2 => mWhileN mt mb n ρ2
        | .cont ρ2 => mWhileN mt mb n ρ2
        | .brk ρ2 => .ok (.next ρ2)
        | .ret t ρ2 => .ok (.ret t ρ2)) := fun n => by rw [step, e]; show (if r.1 = true then _ else _) = _; rw [if_pos hr]
      cases e2 : mb r.2 with
      | exc x => rw [mWhile_of (n := 1) (by rw [step2, e2]; exact fun z => nomatch z), step2, e2]; rfl
      | bad => exact mWhile_bad fun n => (match n with
          | 0 => rfl
          | n + 1 => by rw [step2, e2]; rfl)
      | ok o =>
        have go : ∀ ρ2, (∀ n, mWhileN mt mb (n + 1) ρ = mWhileN mt mb n ρ2) → mWhile mt mb ρ = mWhile mt mb ρ2 := fun ρ2 h => by
          by_cases hx : ∃ n, mWhileN mt mb n ρ2 ≠ .bad
          · obtain ⟨n, hn⟩ := hx
            rw [mWhile_of hn, mWhile_of (n := n + 1) (by rw [h]; exact hn), h]
          · have hb : ∀ n, mWhileN mt mb n ρ2 = .bad := fun n => Classical.byContradiction fun z => hx ⟨n, z⟩
            rw [mWhile_bad hb]
            exact mWhile_bad fun n => (match n with
              | 0 => rfl
              | n + 1 => by rw [h]; exact hb n)
        cases o with
        | next ρ2 => exact go ρ2 fun n => by rw [step2, e2]; rfl
        | cont ρ2 => exact go ρ2 fun n => by rw [step2, e2]; rfl
        | brk ρ2 => rw [mWhile_of (n := 1) (by rw [step2, e2]; exact fun z => nomatch z), step2, e2]; rfl
        | ret t ρ2 => rw [mWhile_of (n := 1) (by rw [step2, e2]; exact fun z => nomatch z), step2, e2]; rfl
    · rw [if_neg hr, mWhile_of (n := 1) (by rw [step, e]; show (if r.1 = true then _ else _) ≠ _; rw [if_neg hr]; exact fun z => nomatch z), step, e]
      show (if r.1 = true then _ else _) = _
      rw [if_neg hr]
def turnTo (I : L3.Env → Prop) (Q : Out → Prop) : Out → Prop
  | .next ρ => I ρ
  | .cont ρ => I ρ
  | .brk ρ => Q (.next ρ)
  | .ret t ρ => Q (.ret t ρ)
@[simp] theorem t_next {I : L3.Env → Prop} {Q : Out → Prop} {ρ : L3.Env} : turnTo I Q (.next ρ) ↔ I ρ := (Iff.rfl)
@[simp] theorem t_cont {I : L3.Env → Prop} {Q : Out → Prop} {ρ : L3.Env} : turnTo I Q (.cont ρ) ↔ I ρ := (Iff.rfl)
@[simp] theorem t_brk {I : L3.Env → Prop} {Q : Out → Prop} {ρ : L3.Env} : turnTo I Q (.brk ρ) ↔ Q (.next ρ) := (Iff.rfl)
@[simp] theorem t_ret {I : L3.Env → Prop} {Q : Out → Prop} {t : T} {ρ : L3.Env} : turnTo I Q (.ret t ρ) ↔ Q (.ret t ρ) := (Iff.rfl)
@[simp] theorem rangeItems_len {lo hi : Int} : (rangeItems lo hi).length = (hi - lo).toNat := by simp [rangeItems]
noncomputable instance decD : DecidableEq PyData := fun a b => Classical.propDecidable (a = b)
mutual
def plk : Nat → PyData → Bool
  | _, .int _ => true
  | _, .none => true
  | _, .str s => PyData.strOk s
  | n + 1, .list xs => plkAll n xs
  | n + 1, .tuple xs => plkAll n xs
  | _, _ => false
def plkAll : Nat → List PyData → Bool
  | _, [] => true
  | n, x :: xs => plk n x && plkAll n xs
end
mutual
theorem plk_eqv : ∀ (n m : Nat) (x y : PyData), plk n x = true → plk m y = true → PyData.eqv x y = decide (x = y)
  | _, _, .int i, .int j, _, _ => by rw [Bool.eq_iff_iff]; simp [PyData.eqv]
  | _, _, .str i, .str j, _, _ => by rw [Bool.eq_iff_iff]; simp [PyData.eqv]
  | _, _, .none, .none, _, _ => by simp [PyData.eqv]
  | n + 1, m + 1, .list xs, .list ys, h1, h2 => by
    have := plkAll_eqv n m xs ys (by simpa [plk] using h1) (by simpa [plk] using h2)
    simp [PyData.eqv, this]
  | n + 1, m + 1, .tuple xs, .tuple ys, h1, h2 => by
    have := plkAll_eqv n m xs ys (by simpa [plk] using h1) (by simpa [plk] using h2)
    simp [PyData.eqv, this]
  | 0, _, .list _, _, h1, _ => by simp [plk] at h1
  | 0, _, .tuple _, _, h1, _ => by simp [plk] at h1
  | _, 0, _, .list _, _, h2 => by simp [plk] at h2
  | _, 0, _, .tuple _, _, h2 => by simp [plk] at h2
  | 0, _, .bool _, _, h1, _ => by simp [plk] at h1
  | _ + 1, _, .bool _, _, h1, _ => by simp [plk] at h1
  | 0, _, .dict _, _, h1, _ => by simp [plk] at h1
  | _ + 1, _, .dict _, _, h1, _ => by simp [plk] at h1
  | _, 0, _, .bool _, _, h1 => by simp [plk] at h1
  | _, _ + 1, _, .bool _, _, h1 => by simp [plk] at h1
  | _, 0, _, .dict _, _, h1 => by simp [plk] at h1
  | _, _ + 1, _, .dict _, _, h1 => by simp [plk] at h1
  | _, _, .int _, .str _, _, _ => by simp [PyData.eqv]
  | _, _, .int _, .none, _, _ => by simp [PyData.eqv]
  | _, _ + 1, .int _, .list _, _, _ => by simp [PyData.eqv]
  | _, _ + 1, .int _, .tuple _, _, _ => by simp [PyData.eqv]
  | _, _, .str _, .int _, _, _ => by simp [PyData.eqv]
  | _, _, .str _, .none, _, _ => by simp [PyData.eqv]
  | _, _ + 1, .str _, .list _, _, _ => by simp [PyData.eqv]
  | _, _ + 1, .str _, .tuple _, _, _ => by simp [PyData.eqv]
  | _, _, .none, .int _, _, _ => by simp [PyData.eqv]
  | _, _, .none, .str _, _, _ => by simp [PyData.eqv]
  | _, _ + 1, .none, .list _, _, _ => by simp [PyData.eqv]
  | _, _ + 1, .none, .tuple _, _, _ => by simp [PyData.eqv]
  | _ + 1, _, .list _, .int _, _, _ => by simp [PyData.eqv]
  | _ + 1, _, .list _, .str _, _, _ => by simp [PyData.eqv]
  | _ + 1, _, .list _, .none, _, _ => by simp [PyData.eqv]
  | _ + 1, _ + 1, .list _, .tuple _, _, _ => by simp [PyData.eqv]
  | _ + 1, _, .tuple _, .int _, _, _ => by simp [PyData.eqv]
  | _ + 1, _, .tuple _, .str _, _, _ => by simp [PyData.eqv]
  | _ + 1, _, .tuple _, .none, _, _ => by simp [PyData.eqv]
  | _ + 1, _ + 1, .tuple _, .list _, _, _ => by simp [PyData.eqv]
theorem plkAll_eqv : ∀ (n m : Nat) (xs ys : List PyData), plkAll n xs = true → plkAll m ys = true → PyData.eqvAll xs ys = decide (xs = ys)
  | _, _, [], [], _, _ => by simp [PyData.eqvAll]
  | _, _, [], _ :: _, _, _ => by simp [PyData.eqvAll]
  | _, _, _ :: _, [], _, _ => by simp [PyData.eqvAll]
  | n, m, x :: xs, y :: ys, h1, h2 => by
    simp only [plkAll, Bool.and_eq_true] at h1 h2
    have a := plk_eqv n m x y h1.1 h2.1
    have b := plkAll_eqv n m xs ys h1.2 h2.2
    simp [PyData.eqvAll, a, b]
end
mutual
theorem plk_lay : ∀ (n : Nat) (x : PyData), plk n x = true → x.canLay0 = true ∧ x.depth ≤ n
  | _, .int _, _ => by simp [PyData.canLay0, PyData.depth]
  | _, .none, _ => by simp [PyData.canLay0, PyData.depth]
  | _, .str s, h => ⟨by simpa [plk, PyData.canLay0] using h, by simp [PyData.depth]⟩
  | n + 1, .list xs, h => by
    have := plkAll_lay n xs (by simpa [plk] using h)
    simp only [PyData.canLay0, PyData.depth]
    exact ⟨this.1, by omega⟩
  | n + 1, .tuple xs, h => by
    have := plkAll_lay n xs (by simpa [plk] using h)
    simp only [PyData.canLay0, PyData.depth]
    exact ⟨this.1, by omega⟩
  | 0, .list _, h1 => by simp [plk] at h1
  | 0, .tuple _, h1 => by simp [plk] at h1
  | 0, .bool _, h1 => by simp [plk] at h1
  | _ + 1, .bool _, h1 => by simp [plk] at h1
  | 0, .dict _, h1 => by simp [plk] at h1
  | _ + 1, .dict _, h1 => by simp [plk] at h1
theorem plkAll_lay : ∀ (n : Nat) (xs : List PyData), plkAll n xs = true → PyData.canLayAll0 xs = true ∧ PyData.depthAll xs ≤ n
  | _, [], _ => by simp [PyData.canLayAll0, PyData.depthAll]
  | n, x :: xs, h => by
    simp only [plkAll, Bool.and_eq_true] at h
    have a := plk_lay n x h.1
    have b := plkAll_lay n xs h.2
    simp only [PyData.canLayAll0, PyData.depthAll, Bool.and_eq_true]
    exact ⟨⟨a.1, b.1⟩, by omega⟩
end
def pl (x : PyData) : Prop := plk 60 x = true
theorem pl_shaped {x : PyData} (h : pl x) : SeqAt.shaped x = true := by
  have := plk_lay 60 x h
  unfold SeqAt.shaped
  rw [this.1]
  simp only [Bool.true_and]
  exact decide_eq_true (Nat.le_trans this.2 (by decide))
theorem eqD_pl {x y : T} {a b : PyData} (hx : x.toD = some a) (hy : y.toD = some b) (h1 : pl a) (h2 : pl b) : eqD x y = .ok (decide (a = b)) := by
  unfold eqD
  rw [hx, hy]
  dsimp only
  cases e : eqS a b with
  | some k =>
    dsimp only
    unfold eqS at e
    split at e <;> first | (cases e; simp) | cases e
  | none =>
    dsimp only
    rw [pl_shaped h1, pl_shaped h2, plk_eqv 60 60 a b h1 h2]
    rfl
theorem opEq_pl {x y : T} {a b : PyData} (hx : x.toD = some a) (hy : y.toD = some b) (h1 : pl a) (h2 : pl b) : opEq x y = .ok (.v (.d (.bool (decide (a = b))))) := by
  unfold opEq
  rw [eqD_pl hx hy h1 h2]
  rfl
theorem opNe_pl {x y : T} {a b : PyData} (hx : x.toD = some a) (hy : y.toD = some b) (h1 : pl a) (h2 : pl b) : opNe x y = .ok (.v (.d (.bool (!decide (a = b))))) := by
  unfold opNe
  rw [eqD_pl hx hy h1 h2]
  rfl
theorem plkAll_map {α : Type} {n : Nat} {f : α → PyData} {xs : List α} (h : ∀ x ∈ xs, plk n (f x) = true) : plkAll n (xs.map f) = true := by
  induction xs with
  | nil => rfl
  | cons x r ih =>
    simp only [List.map_cons, plkAll, Bool.and_eq_true]
    exact ⟨h x List.mem_cons_self, ih fun y hy => h y (List.mem_cons_of_mem _ hy)⟩
theorem mulOk_bits {i j : Int} {a b : Nat} (ha : i.natAbs < 2 ^ a) (hb : j.natAbs < 2 ^ b) (h : a + b ≤ 900000) : mulOk i j = true := by
  refine mulOk_iff.mpr (CMulW.ok ?_)
  have h1 : i.natAbs.log2 ≤ a := by
    by_cases z : i.natAbs = 0
    · rw [z]; simp
    · exact Nat.le_of_lt ((Nat.log2_lt z).mpr ha)
  have h2 : j.natAbs.log2 ≤ b := by
    by_cases z : j.natAbs = 0
    · rw [z]; simp
    · exact Nat.le_of_lt ((Nat.log2_lt z).mpr hb)
  show i.natAbs.log2 + j.natAbs.log2 < 1000000
  omega
theorem bits64 {j : Int} (h : j.natAbs < 2 ^ 64) : Builtin.Int.intBits j ≤ 64 := by
  unfold Builtin.Int.intBits
  split
  · omega
  · rename_i z
    have : j.natAbs ≠ 0 := by
      intro e
      have : j = 0 := by omega
      simp [this] at z
    have := (Nat.log2_lt this).mpr h
    omega
theorem mulOk_r {i j : Int} (h : j.natAbs < 2 ^ 64) : mulOk i j = true := by
  unfold mulOk shortFactorBits
  have := bits64 h
  simp; omega
theorem mulOk_l {i j : Int} (h : i.natAbs < 2 ^ 64) : mulOk i j = true := by
  unfold mulOk shortFactorBits
  have := bits64 h
  simp; omega
theorem divOk_of {i j : Int} (h : j ≠ 0) (hb : j.natAbs < 2 ^ 9000) : divOk i j = true := by
  unfold divOk
  rw [decide_eq_true h, Bool.true_and]
  have h0 : j.natAbs ≠ 0 := by omega
  have := (Nat.log2_lt h0).mpr hb
  have e : Builtin.divisionGoesByPylong i j = false := PyProof.noPylong_of_log2 this
  rw [e]
  rfl
end L3
namespace L3
open PySem
end L3
namespace L3
open PySem PySem.Spec PyProof.Rows L2
def fr (q : Rat) : PyData := .tuple [.int q.num, .int q.den]
def frs (qs : List Rat) : PyData := .list (qs.map fr)
theorem fr_def {q : Rat} : fr q = .tuple [.int q.num, .int q.den] := rfl
theorem fr_inj {q r : Rat} (h : fr q = fr r) : q = r := by
  unfold fr at h
  injection h with h
  injection h with h1 h2
  injection h2 with h2 _
  injection h1 with h1
  injection h2 with h2
  exact Rat.ext h1 (by omega)
@[simp] theorem plk_fr {n : Nat} {q : Rat} : plk (n + 1) (fr q) = true := by simp [fr, plk, plkAll]
@[simp] theorem plk_frs {n : Nat} {qs : List Rat} : plk (n + 2) (frs qs) = true := by
  simp only [frs, plk]
  exact plkAll_map fun x _ => plk_fr
theorem pl_fr {q : Rat} : pl (fr q) := plk_fr
theorem pl_frs {q : List Rat} : pl (frs q) := plk_frs
def bl (n : Nat) : Nat := if n = 0 then 0 else n.log2 + 1
theorem bl_lt (n : Nat) : n < 2 ^ bl n := by
  unfold bl
  split
  · omega
  · exact Nat.lt_log2_self
theorem bl_le {n k : Nat} : bl n ≤ k ↔ n < 2 ^ k := by
  unfold bl
  split
  · rename_i h
    subst h
    simp [Nat.two_pow_pos]
  · rename_i h
    rw [← Nat.log2_lt h]
    omega
theorem bl_mono {m n : Nat} (h : m ≤ n) : bl m ≤ bl n := bl_le.mpr (Nat.lt_of_le_of_lt h (bl_lt n))
theorem bl_mul {m n : Nat} : bl (m * n) ≤ bl m + bl n := bl_le.mpr (by
  rw [Nat.pow_add]
  exact Nat.mul_lt_mul'' (bl_lt m) (bl_lt n))
theorem bl_add {m n : Nat} : bl (m + n) ≤ max (bl m) (bl n) + 1 := bl_le.mpr (by
  have h1 : m < 2 ^ max (bl m) (bl n) := Nat.lt_of_lt_of_le (bl_lt m) (Nat.pow_le_pow_right (by decide) (Nat.le_max_left _ _))
  have h2 : n < 2 ^ max (bl m) (bl n) := Nat.lt_of_lt_of_le (bl_lt n) (Nat.pow_le_pow_right (by decide) (Nat.le_max_right _ _))
  rw [Nat.pow_succ]
  omega)
def ib (i : Int) : Nat := bl i.natAbs
theorem ib_mul {i j : Int} : ib (i * j) ≤ ib i + ib j := by
  unfold ib
  rw [Int.natAbs_mul]
  exact bl_mul
theorem ib_add {i j : Int} : ib (i + j) ≤ max (ib i) (ib j) + 1 := Nat.le_trans (bl_mono (Int.natAbs_add_le i j)) bl_add
theorem ib_neg {i : Int} : ib (-i) = ib i := by unfold ib; rw [Int.natAbs_neg]
theorem ib_sub {i j : Int} : ib (i - j) ≤ max (ib i) (ib j) + 1 := by
  have := ib_add (i := i) (j := -j)
  rw [ib_neg] at this
  rwa [Int.sub_eq_add_neg]
theorem ib_nat {n : Nat} : ib (n : Int) = bl n := by unfold ib; rw [Int.natAbs_natCast]
theorem ib_le {i : Int} {k : Nat} : ib i ≤ k ↔ i.natAbs < 2 ^ k := bl_le
theorem mulOk_ib {i j : Int} (h : ib i + ib j ≤ 900000) : mulOk i j = true := mulOk_bits (bl_lt _) (bl_lt _) h
theorem divOk_ib {i j : Int} (h : j ≠ 0) (hb : ib j ≤ 9000) : divOk i j = true := divOk_of h (ib_le.mp hb)
def hq (q : Rat) : Nat := max (ib q.num) (bl q.den)
theorem hq_num (q : Rat) : ib q.num ≤ hq q := Nat.le_max_left _ _
theorem hq_den (q : Rat) : bl q.den ≤ hq q := Nat.le_max_right _ _
theorem hq_denI (q : Rat) : ib (q.den : Int) ≤ hq q := by rw [ib_nat]; exact hq_den q
theorem hq_le {q : Rat} {k : Nat} : hq q ≤ k ↔ ib q.num ≤ k ∧ bl q.den ≤ k := by unfold hq; omega
theorem hq_divInt {t b : Int} {k : Nat} (h1 : ib t ≤ k) (h2 : ib b ≤ k) (hk : 1 ≤ k) : hq (Rat.divInt t b) ≤ k := by
  rw [hq_le, Rat.num_divInt, Rat.den_divInt]
  constructor
  · refine Nat.le_trans (bl_mono (Nat.le_trans (Int.natAbs_ediv_le_natAbs _ _) ?_)) h1
    rw [Int.natAbs_mul, Int.natAbs_sign]
    split <;> omega
  · split
    · unfold bl; simp; exact hk
    · exact Nat.le_trans (bl_mono (Nat.div_le_self _ _)) h2
theorem hq_pos (q : Rat) : 1 ≤ hq q := by
  have h := hq_den q
  have : bl q.den ≠ 0 := by
    unfold bl
    rw [if_neg q.den_nz]
    omega
  omega
theorem add_divInt (q r : Rat) : q + r = Rat.divInt (q.num * r.den + r.num * q.den) (q.den * r.den) := by
  rw [Rat.add_def', ← Rat.divInt_ofNat]
  simp
theorem sub_divInt (q r : Rat) : q - r = Rat.divInt (q.num * r.den - r.num * q.den) (q.den * r.den) := by
  rw [Rat.sub_def', ← Rat.divInt_ofNat]
  simp
theorem mul_divInt (q r : Rat) : q * r = Rat.divInt (q.num * r.num) (q.den * r.den) := by
  rw [Rat.mul_def', ← Rat.divInt_ofNat]
  simp
theorem div_divInt (q r : Rat) : q / r = Rat.divInt (q.num * r.den) (q.den * r.num) := by
  have h : q / r = Rat.divInt q.num q.den / Rat.divInt r.num r.den := by rw [Rat.num_divInt_den, Rat.num_divInt_den]
  rw [h, Rat.div_def, Rat.inv_divInt, Rat.divInt_mul_divInt]
theorem hq_add (q r : Rat) : hq (q + r) ≤ hq q + hq r + 1 := by
  rw [add_divInt]
  have a := hq_num q
  have b := hq_num r
  have c := hq_denI q
  have d := hq_denI r
  have e := ib_add (i := q.num * r.den) (j := r.num * q.den)
  have f := ib_mul (i := q.num) (j := r.den)
  have g := ib_mul (i := r.num) (j := q.den)
  have h := ib_mul (i := (q.den : Int)) (j := r.den)
  exact hq_divInt (by omega) (by omega) (by omega)
theorem hq_sub (q r : Rat) : hq (q - r) ≤ hq q + hq r + 1 := by
  rw [sub_divInt]
  have a := hq_num q
  have b := hq_num r
  have c := hq_denI q
  have d := hq_denI r
  have e := ib_sub (i := q.num * r.den) (j := r.num * q.den)
  have f := ib_mul (i := q.num) (j := r.den)
  have g := ib_mul (i := r.num) (j := q.den)
  have h := ib_mul (i := (q.den : Int)) (j := r.den)
  exact hq_divInt (by omega) (by omega) (by omega)
theorem hq_mul (q r : Rat) : hq (q * r) ≤ hq q + hq r := by
  rw [mul_divInt]
  have a := hq_num q
  have b := hq_num r
  have c := hq_denI q
  have d := hq_denI r
  have g := ib_mul (i := q.num) (j := r.num)
  have h := ib_mul (i := (q.den : Int)) (j := r.den)
  have p := hq_pos q
  exact hq_divInt (by omega) (by omega) (by omega)
theorem hq_neg (q : Rat) : hq (-q) = hq q := by
  unfold hq
  rw [Rat.neg_num, Rat.neg_den, ib_neg]
def lowM (t b : Int) : Int := if b < 0 then 0 - (Int.gcd t b : Int) else (Int.gcd t b : Int)
theorem lowM_ne {t b : Int} (hb : b ≠ 0) : lowM t b ≠ 0 := by
  have : Int.gcd t b ≠ 0 := by
    intro e
    exact hb (Int.gcd_eq_zero_iff.mp e).2
  unfold lowM
  split <;> omega
theorem lowM_ib {t b : Int} (hb : b ≠ 0) : ib (lowM t b) ≤ ib b := by
  have h1 : (lowM t b).natAbs = Int.gcd t b := by unfold lowM; split <;> omega
  unfold ib
  rw [h1]
  refine bl_mono (Nat.le_of_dvd (by omega) ?_)
  exact Int.gcd_dvd_natAbs_right t b
theorem lowM_num {t b : Int} (hb : b ≠ 0) : t.fdiv (lowM t b) = (Rat.divInt t b).num := by
  have hd : (Int.gcd t b : Int) ∣ t := Int.gcd_dvd_left t b
  rw [Rat.num_divInt, Int.gcd_comm b t]
  unfold lowM
  split
  · rename_i h
    rw [Int.sign_eq_neg_one_of_neg h, Int.zero_sub]
    rw [Int.fdiv_eq_ediv_of_dvd (by rw [Int.neg_dvd]; exact hd), Int.ediv_neg]
    rw [Int.neg_one_mul, Int.neg_ediv_of_dvd hd]
  · rename_i h
    rw [Int.sign_eq_one_of_pos (by omega), Int.one_mul, Int.fdiv_eq_ediv_of_dvd hd]
theorem lowM_den {t b : Int} (hb : b ≠ 0) : b.fdiv (lowM t b) = (Rat.divInt t b).den := by
  have hd : (Int.gcd t b : Int) ∣ b := Int.gcd_dvd_right t b
  rw [Rat.den_divInt, if_neg hb, Int.gcd_comm b t]
  unfold lowM
  split
  · rename_i h
    rw [Int.zero_sub, Int.fdiv_eq_ediv_of_dvd (by rw [Int.neg_dvd]; exact hd), Int.ediv_neg, ← Int.neg_ediv_of_dvd hd]
    have : -b = (b.natAbs : Int) := by omega
    rw [this]
    rfl
  · rename_i h
    rw [Int.fdiv_eq_ediv_of_dvd hd]
    have : b = (b.natAbs : Int) := by omega
    rw [this]
    simp
theorem fr_low {t b : Int} (hb : b ≠ 0) : PyData.tuple [.int (t.fdiv (lowM t b)), .int (b.fdiv (lowM t b))] = fr (Rat.divInt t b) := by
  rw [lowM_num hb, lowM_den hb]
  rfl
theorem gcd_fmod (a b : Int) : Int.gcd b (a.fmod b) = Int.gcd a b := by
  rw [Int.fmod_def, Int.gcd_sub_mul_left_right, Int.gcd_comm]
theorem fmod_abs (a b : Int) (h : b ≠ 0) : (a.fmod b).natAbs < b.natAbs := by
  rcases Int.lt_or_gt_of_ne h with z | z
  · have h1 := Int.fmod_nonneg_of_pos (-a) (b := -b) (by omega)
    have h2 := Int.fmod_lt_of_pos (-a) (b := -b) (by omega)
    rw [Int.neg_fmod_neg] at h1 h2
    omega
  · have h1 := Int.fmod_nonneg_of_pos a z
    have h2 := Int.fmod_lt_of_pos a z
    omega
def dq (q : Rat) : Nat := bl q.den
theorem dq_hq (q : Rat) : dq q ≤ hq q := hq_den q
def Ok2 (q r : Rat) : Prop := dq q + dq r ≤ 9000 ∧ hq q + hq r ≤ 400000
def OkD (q r : Rat) : Prop := dq q + ib r.num ≤ 9000 ∧ hq q + hq r ≤ 400000
instance {q r : Rat} : Decidable (Ok2 q r) := by unfold Ok2; infer_instance
instance {q r : Rat} : Decidable (OkD q r) := by unfold OkD; infer_instance
theorem ok2_of {q r : Rat} (h : hq q + hq r ≤ 9000) : Ok2 q r := ⟨by have := dq_hq q; have := dq_hq r; omega, by omega⟩
theorem dq_divInt {t b : Int} : dq (Rat.divInt t b) ≤ max 1 (ib b) := by
  unfold dq
  rw [Rat.den_divInt]
  split
  · exact Nat.le_trans (show bl 1 ≤ 1 by decide) (Nat.le_max_left _ _)
  · exact Nat.le_trans (bl_mono (Nat.div_le_self _ _)) (Nat.le_max_right _ _)
theorem dq_pos (q : Rat) : 1 ≤ dq q := by
  unfold dq
  have : bl q.den ≠ 0 := by
    unfold bl
    rw [if_neg q.den_nz]
    omega
  omega
theorem dq_den (q : Rat) : ib (q.den : Int) = dq q := ib_nat
theorem dq_bot (q r : Rat) : ib ((q.den : Int) * r.den) ≤ dq q + dq r := by
  have := ib_mul (i := (q.den : Int)) (j := r.den)
  rw [dq_den, dq_den] at this
  exact this
theorem dq_add (q r : Rat) : dq (q + r) ≤ dq q + dq r := by
  rw [add_divInt]
  have := dq_divInt (t := q.num * r.den + r.num * q.den) (b := q.den * r.den)
  have := dq_bot q r
  have := dq_pos q
  omega
theorem dq_sub (q r : Rat) : dq (q - r) ≤ dq q + dq r := by
  rw [sub_divInt]
  have := dq_divInt (t := q.num * r.den - r.num * q.den) (b := q.den * r.den)
  have := dq_bot q r
  have := dq_pos q
  omega
theorem dq_mul (q r : Rat) : dq (q * r) ≤ dq q + dq r := by
  rw [mul_divInt]
  have := dq_divInt (t := q.num * r.num) (b := q.den * r.den)
  have := dq_bot q r
  have := dq_pos q
  omega
theorem dq_div (q r : Rat) : dq (q / r) ≤ dq q + ib r.num := by
  rw [div_divInt]
  have := dq_divInt (t := q.num * r.den) (b := q.den * r.num)
  have := ib_mul (i := (q.den : Int)) (j := r.num)
  rw [dq_den] at this
  have := dq_pos q
  omega
end L3
namespace L3
open PySem PySem.Spec PyProof.Rows L2
section
variable {κ : Type} [DecidableEq κ]
def kAt : List κ → κ → Option Nat
  | [], _ => none
  | x :: r, k => if x = k then some 0 else (kAt r k).map (· + 1)
theorem kAt_lt : ∀ {ks : List κ} {k : κ} {n : Nat}, kAt ks k = some n → ks[n]? = some k
  | [], k, n, h => by cases h
  | x :: r, k, n, h => by
    unfold kAt at h
    by_cases e : x = k
    · rw [if_pos e] at h; cases h; simp [e]
    · rw [if_neg e] at h
      obtain ⟨m, e1, e2⟩ := Option.map_eq_some_iff.mp h
      subst e2
      simpa using kAt_lt e1
theorem valV_at : ∀ {kvs : List (κ × V)} {k : κ} {n : Nat}, kAt (kvs.map Prod.fst) k = some n → ∃ v, kvs[n]? = some (k, v) ∧ valV kvs k = some v
  | [], k, n, h => by cases h
  | p :: r, k, n, h => by
    unfold kAt at h
    simp only [List.map_cons] at h
    by_cases e : p.1 = k
    · rw [if_pos e] at h; cases h
      exact ⟨p.2, by simp [← e], valV_pos e⟩
    · rw [if_neg e] at h
      obtain ⟨m, e1, e2⟩ := Option.map_eq_some_iff.mp h
      subst e2
      obtain ⟨v, h1, h2⟩ := valV_at e1
      exact ⟨v, by simpa using h1, by rw [valV_neg e]; exact h2⟩
theorem valV_no : ∀ {kvs : List (κ × V)} {k : κ}, kAt (kvs.map Prod.fst) k = none → valV kvs k = none
  | [], k, h => rfl
  | p :: r, k, h => by
    unfold kAt at h
    simp only [List.map_cons] at h
    by_cases e : p.1 = k
    · rw [if_pos e] at h; cases h
    · rw [if_neg e] at h
      simp at h
      rw [valV_neg e]
      exact valV_no h
end
def PyData.key : PyData → Option Key
  | .int i => some (.inl i)
  | .str x => some (.inr x)
  | _ => none
def T.key : T → Option Key
  | .d x => PyData.key x
  | _ => none
theorem key_rp {K : PySem.W.Frag} {F : Addr → Prop} {H : Hp} {v : V} {t : T} {A : List Addr} {k : Key} (h : Rp K F H v t A) (e : t.key = some k) : v = kV k := by
  cases h with
  | d h =>
    cases h with
    | int i => cases e; rfl
    | str x => cases e; rfl
    | _ => cases e
  | _ => cases e
inductive PK where
  | ix (j : Int) | key (k : Key) | fld (f : Str)
def T.atK : List PK → T → Option T
  | [], t => some t
  | .ix j :: r, .ol ts => (atI ts j).bind (T.atK r)
  | .ix j :: r, .ot ts => (atI ts j).bind (T.atK r)
  | .key k :: r, .od ks ts => (kAt ks k).bind fun n => (ts[n]?).bind (T.atK r)
  | .key k :: r, .fd _ ks ts => (kAt ks k).bind fun n => (ts[n]?).bind (T.atK r)
  | .fld f :: r, .ob _ fs ts => (kAt fs f).bind fun n => (ts[n]?).bind (T.atK r)
  | _ :: _, _ => none
def T.putK? : List PK → T → T → Option T
  | [], n, _ => some n
  | .ix j :: r, n, .ol ts => (ixN ts.length j).bind fun k => (ts[k]?).bind fun t => (T.putK? r n t).map fun t' => .ol (ts.set k t')
  | .ix j :: r, n, .ot ts => (ixN ts.length j).bind fun k => (ts[k]?).bind fun t => (T.putK? r n t).map fun t' => .ot (ts.set k t')
  | .key k :: r, n, .od ks ts => (kAt ks k).bind fun m => (ts[m]?).bind fun t => (T.putK? r n t).map fun t' => .od ks (ts.set m t')
  | .key k :: r, n, .fd a ks ts => (kAt ks k).bind fun m => (ts[m]?).bind fun t => (T.putK? r n t).map fun t' => .fd a ks (ts.set m t')
  | .fld f :: r, n, .ob x fs ts => (kAt fs f).bind fun m => (ts[m]?).bind fun t => (T.putK? r n t).map fun t' => .ob x fs (ts.set m t')
  | _ :: _, _, _ => none
inductive LocK (H : Hp) : V → List PK → V → Prop
  | here (v : V) : LocK H v [] v
  | lst {a : Addr} {vs : List V} {j : Int} {js : List PK} {v u : V} : H a = some (.lst vs) → atI vs j = some v → LocK H v js u → LocK H (.ref a) (.ix j :: js) u
  | tup {a : Addr} {vs : List V} {j : Int} {js : List PK} {v u : V} : H a = some (.tup vs) → atI vs j = some v → LocK H v js u → LocK H (.ref a) (.ix j :: js) u
  | dic {a : Addr} {kvs : List (Key × V)} {k : Key} {js : List PK} {v u : V} : H a = some (.dK kvs) → valV kvs k = some v → LocK H v js u → LocK H (.ref a) (.key k :: js) u
  | dif {a : Addr} {o : Obj} {kvs : List (Key × V)} {k : Key} {js : List PK} {v u : V} : H a = some (.frz o (.dK kvs)) → valV kvs k = some v → LocK H v js u → LocK H (.ref a) (.key k :: js) u
  | ins {a C dx : Addr} {kvs : List (Str × V)} {f : Str} {js : List PK} {v u : V} : H a = some (.ins C dx kvs) → kvs.lookup f = some v → LocK H v js u → LocK H (.ref a) (.fld f :: js) u
theorem LocK.uniq {H : Hp} : ∀ {v : V} {p : List PK} {u u' : V}, LocK H v p u → LocK H v p u' → u = u'
  | _, _, _, _, .here _, .here _ => rfl
  | _, _, _, _, .lst h1 h2 h3, .lst g1 g2 g3 => by
    rw [h1] at g1; cases g1
    rw [h2] at g2; cases g2
    exact h3.uniq g3
  | _, _, _, _, .tup h1 h2 h3, .tup g1 g2 g3 => by
    rw [h1] at g1; cases g1
    rw [h2] at g2; cases g2
    exact h3.uniq g3
  | _, _, _, _, .lst h1 _ _, .tup g1 _ _ => by rw [h1] at g1; cases g1
  | _, _, _, _, .tup h1 _ _, .lst g1 _ _ => by rw [h1] at g1; cases g1
  | _, _, _, _, .dic h1 h2 h3, .dic g1 g2 g3 => by
    rw [h1] at g1; cases g1
    rw [h2] at g2; cases g2
    exact h3.uniq g3
  | _, _, _, _, .dif h1 h2 h3, .dif g1 g2 g3 => by
    rw [h1] at g1; cases g1
    rw [h2] at g2; cases g2
    exact h3.uniq g3
  | _, _, _, _, .dic h1 _ _, .dif g1 _ _ => by rw [h1] at g1; cases g1
  | _, _, _, _, .dif h1 _ _, .dic g1 _ _ => by rw [h1] at g1; cases g1
  | _, _, _, _, .ins h1 h2 h3, .ins g1 g2 g3 => by
    rw [h1] at g1; cases g1
    rw [h2] at g2; cases g2
    exact h3.uniq g3
theorem LocK.grow {H H' : Hp} (s : Same H H') : ∀ {v : V} {p : List PK} {u : V}, LocK H v p u → LocK H' v p u
  | _, _, _, .here v => .here v
  | _, _, _, .lst h1 h2 h3 => .lst (s _ _ h1) h2 (h3.grow s)
  | _, _, _, .tup h1 h2 h3 => .tup (s _ _ h1) h2 (h3.grow s)
  | _, _, _, .dic h1 h2 h3 => .dic (s _ _ h1) h2 (h3.grow s)
  | _, _, _, .dif h1 h2 h3 => .dif (s _ _ h1) h2 (h3.grow s)
  | _, _, _, .ins h1 h2 h3 => .ins (s _ _ h1) h2 (h3.grow s)
theorem LocK.snoc {H : Hp} : ∀ {v : V} {p : List PK} {u w : V} {j : PK}, LocK H v p u → LocK H u [j] w → LocK H v (p ++ [j]) w
  | _, _, _, _, _, .here v, k => k
  | _, _, _, _, _, .lst h1 h2 h3, k => .lst h1 h2 (h3.snoc k)
  | _, _, _, _, _, .tup h1 h2 h3, k => .tup h1 h2 (h3.snoc k)
  | _, _, _, _, _, .dic h1 h2 h3, k => .dic h1 h2 (h3.snoc k)
  | _, _, _, _, _, .dif h1 h2 h3, k => .dif h1 h2 (h3.snoc k)
  | _, _, _, _, _, .ins h1 h2 h3, k => .ins h1 h2 (h3.snoc k)
theorem lookup_at : ∀ {kvs : List (Str × V)} {f : Str} {n : Nat}, kAt (kvs.map Prod.fst) f = some n → ∃ v, kvs[n]? = some (f, v) ∧ kvs.lookup f = some v
  | [], k, n, h => by cases h
  | p :: r, k, n, h => by
    unfold kAt at h
    simp only [List.map_cons] at h
    by_cases e : p.1 = k
    · rw [if_pos e] at h; cases h
      refine ⟨p.2, by simp [← e], ?_⟩
      obtain ⟨g, x⟩ := p
      have e : g = k := e
      subst e
      simp [List.lookup_cons]
    · rw [if_neg e] at h
      obtain ⟨m, e1, e2⟩ := Option.map_eq_some_iff.mp h
      subst e2
      obtain ⟨v, h1, h2⟩ := lookup_at e1
      refine ⟨v, by simpa using h1, ?_⟩
      obtain ⟨g, x⟩ := p
      have : (k == g) = false := by simp; exact Ne.symm e
      rw [List.lookup_cons, this]
      exact h2
section
variable {K : PySem.W.Frag} {F F' : Addr → Prop} {H H' : Hp}
theorem Rp.locK : ∀ {p : List PK} {v0 : V} {t0 t : T} {A0 : List Addr}, Rp K F H v0 t0 A0 → T.atK p t0 = some t → ∃ (v : V) (A1 B : List Addr), LocK H v0 p v ∧ Rp K F H v t A1 ∧ (∀ a, A0.count a = A1.count a + B.count a) ∧
    ∀ {F' : Addr → Prop} {H' : Hp}, Mono F F' H H' → (∀ a ∈ B, H' a = H a) → ∀ {t' : T} {A2 : List Addr}, Rp K F' H' v t' A2 → ∃ t0' C, T.putK? p t' t0 = some t0' ∧ Rp K F' H' v0 t0' C ∧ ∀ a, C.count a = A2.count a + B.count a
  | [], v0, t0, t, A0, h, e => by
    cases e
    exact ⟨v0, A0, [], .here v0, h, fun a => by simp, fun m k t' A2 x => ⟨t', A2, rfl, x, fun a => by simp⟩⟩
  | .ix j :: js, _, .ol ts, t, _, .ol (a := a0) (vs := vs) (A := A1) h r, e => by
    obtain ⟨t1, e1, e2⟩ := Option.bind_eq_some_iff.mp (show (atI ts j).bind (T.atK js) = some t from e)
    obtain ⟨k, ek, ev⟩ := atI_ix e1
    obtain ⟨v1, A2, B2, g1, g2, g3, g4⟩ := r.around ev
    obtain ⟨v, A3, B3, l, x, hc, pt⟩ := Rp.locK g2 e2
    have lv : atI vs j = some v1 := by
      show (ixN vs.length j).bind (fun k => vs[k]?) = _
      rw [r.len, ek]; exact g1
    refine ⟨v, A3, a0 :: (B3 ++ B2), .lst h lv l, x, fun a => by rw [List.count_cons, List.count_cons, List.count_append, g3 a, hc a]; omega, fun {F' H'} m kk t' A4 y => ?_⟩
    have k2 : ∀ a ∈ B2, H' a = H a := fun a ha => kk a (List.mem_cons_of_mem _ (List.mem_append_right _ ha))
    have k3 : ∀ a ∈ B3, H' a = H a := fun a ha => kk a (List.mem_cons_of_mem _ (List.mem_append_left _ ha))
    obtain ⟨t1', C, q1, q2, q3⟩ := pt m k3 y
    obtain ⟨C2, s, q4⟩ := g4.put m k2 q2
    have es : vs.set k v1 = vs := set_self g1
    rw [es] at s
    refine ⟨.ol (ts.set k t1'), a0 :: C2, ?_, .ol ((kk a0 List.mem_cons_self).trans h) s, fun a => by rw [List.count_cons, List.count_cons, List.count_append, q4 a, q3 a]; omega⟩
    show (ixN ts.length j).bind _ = _
    rw [ek]
    show (ts[k]?).bind _ = _
    rw [ev]
    show (T.putK? js t' t1).map _ = _
    rw [q1]
    rfl
  | .ix j :: js, _, .ot ts, t, _, .ot (a := a0) (vs := vs) (A := A1) h r, e => by
    obtain ⟨t1, e1, e2⟩ := Option.bind_eq_some_iff.mp (show (atI ts j).bind (T.atK js) = some t from e)
    obtain ⟨k, ek, ev⟩ := atI_ix e1
    obtain ⟨v1, A2, B2, g1, g2, g3, g4⟩ := r.around ev
    obtain ⟨v, A3, B3, l, x, hc, pt⟩ := Rp.locK g2 e2
    have lv : atI vs j = some v1 := by
      show (ixN vs.length j).bind (fun k => vs[k]?) = _
      rw [r.len, ek]; exact g1
    refine ⟨v, A3, B3 ++ B2, .tup h lv l, x, fun a => by rw [List.count_append, g3 a, hc a]; omega, fun {F' H'} m kk t' A4 y => ?_⟩
    have k2 : ∀ a ∈ B2, H' a = H a := fun a ha => kk a (List.mem_append_right _ ha)
    have k3 : ∀ a ∈ B3, H' a = H a := fun a ha => kk a (List.mem_append_left _ ha)
    obtain ⟨t1', C, q1, q2, q3⟩ := pt m k3 y
    obtain ⟨C2, s, q4⟩ := g4.put m k2 q2
    have es : vs.set k v1 = vs := set_self g1
    rw [es] at s
    refine ⟨.ot (ts.set k t1'), C2, ?_, .ot (m.still _ _ h trivial) s, fun a => by rw [q4 a, q3 a, List.count_append]; omega⟩
    show (ixN ts.length j).bind _ = _
    rw [ek]
    show (ts[k]?).bind _ = _
    rw [ev]
    show (T.putK? js t' t1).map _ = _
    rw [q1]
    rfl
  | .key k :: js, _, .od ks ts, t, _, .od (a := a0) (kvs := kvs) (A := A1) h e0 dd r, e => by
    obtain ⟨n, en, e⟩ := Option.bind_eq_some_iff.mp (show (kAt ks k).bind (fun n => (ts[n]?).bind (T.atK js)) = some t from e)
    obtain ⟨t1, ev, e2⟩ := Option.bind_eq_some_iff.mp e
    obtain ⟨v1, A2, B2, g1, g2, g3, g4⟩ := r.around ev
    obtain ⟨v, A3, B3, l, x, hc, pt⟩ := Rp.locK g2 e2
    have lv : valV kvs k = some v1 := by
      obtain ⟨u, h1, h2⟩ := valV_at (kvs := kvs) (k := k) (n := n) (by rw [e0]; exact en)
      rw [List.getElem?_map, h1] at g1
      cases g1
      exact h2
    refine ⟨v, A3, a0 :: (B3 ++ B2), .dic h lv l, x, fun a => by rw [List.count_cons, List.count_cons, List.count_append, g3 a, hc a]; omega, fun {F' H'} m kk t' A4 y => ?_⟩
    have k2 : ∀ a ∈ B2, H' a = H a := fun a ha => kk a (List.mem_cons_of_mem _ (List.mem_append_right _ ha))
    have k3 : ∀ a ∈ B3, H' a = H a := fun a ha => kk a (List.mem_cons_of_mem _ (List.mem_append_left _ ha))
    obtain ⟨t1', C, q1, q2, q3⟩ := pt m k3 y
    obtain ⟨C2, s, q4⟩ := g4.put m k2 q2
    have es : (kvs.map Prod.snd).set n v1 = kvs.map Prod.snd := set_self g1
    rw [es] at s
    refine ⟨.od ks (ts.set n t1'), a0 :: C2, ?_, .od ((kk a0 List.mem_cons_self).trans h) e0 dd s, fun a => by rw [List.count_cons, List.count_cons, List.count_append, q4 a, q3 a]; omega⟩
    show (kAt ks k).bind _ = _
    rw [en]
    show (ts[n]?).bind _ = _
    rw [ev]
    show (T.putK? js t' t1).map _ = _
    rw [q1]
    rfl
  | .key k :: js, _, .fd _ ks ts, t, _, .fd (a := a0) (kvs := kvs) (A := A1) h e0 dd r, e => by
    obtain ⟨n, en, e⟩ := Option.bind_eq_some_iff.mp (show (kAt ks k).bind (fun n => (ts[n]?).bind (T.atK js)) = some t from e)
    obtain ⟨t1, ev, e2⟩ := Option.bind_eq_some_iff.mp e
    obtain ⟨v1, A2, B2, g1, g2, g3, g4⟩ := r.around ev
    obtain ⟨v, A3, B3, l, x, hc, pt⟩ := Rp.locK g2 e2
    have lv : valV kvs k = some v1 := by
      obtain ⟨u, h1, h2⟩ := valV_at (kvs := kvs) (k := k) (n := n) (by rw [e0]; exact en)
      rw [List.getElem?_map, h1] at g1
      cases g1
      exact h2
    refine ⟨v, A3, B3 ++ B2, .dif h lv l, x, fun a => by rw [List.count_append, g3 a, hc a]; omega, fun {F' H'} m kk t' A4 y => ?_⟩
    have k2 : ∀ a ∈ B2, H' a = H a := fun a ha => kk a (List.mem_append_right _ ha)
    have k3 : ∀ a ∈ B3, H' a = H a := fun a ha => kk a (List.mem_append_left _ ha)
    obtain ⟨t1', C, q1, q2, q3⟩ := pt m k3 y
    obtain ⟨C2, s, q4⟩ := g4.put m k2 q2
    have es : (kvs.map Prod.snd).set n v1 = kvs.map Prod.snd := set_self g1
    rw [es] at s
    refine ⟨.fd a0 ks (ts.set n t1'), C2, ?_, .fd (m.still _ _ h trivial) e0 dd s, fun a => by rw [q4 a, q3 a, List.count_append]; omega⟩
    show (kAt ks k).bind _ = _
    rw [en]
    show (ts[n]?).bind _ = _
    rw [ev]
    show (T.putK? js t' t1).map _ = _
    rw [q1]
    rfl
  | .fld k :: js, _, .ob _ ks ts, t, _, .ob (a := a0) (x := xn) (kvs := kvs) (A := A1) h ec e0 r, e => by
    obtain ⟨n, en, e⟩ := Option.bind_eq_some_iff.mp (show (kAt ks k).bind (fun n => (ts[n]?).bind (T.atK js)) = some t from e)
    obtain ⟨t1, ev, e2⟩ := Option.bind_eq_some_iff.mp e
    obtain ⟨v1, A2, B2, g1, g2, g3, g4⟩ := r.around ev
    obtain ⟨v, A3, B3, l, x, hc, pt⟩ := Rp.locK g2 e2
    have lv : kvs.lookup k = some v1 := by
      obtain ⟨u, h1, h2⟩ := lookup_at (kvs := kvs) (f := k) (n := n) (by rw [e0]; exact en)
      rw [List.getElem?_map, h1] at g1
      cases g1
      exact h2
    refine ⟨v, A3, a0 :: (B3 ++ B2), .ins h lv l, x, fun a => by rw [List.count_cons, List.count_cons, List.count_append, g3 a, hc a]; omega, fun {F' H'} m kk t' A4 y => ?_⟩
    have k2 : ∀ a ∈ B2, H' a = H a := fun a ha => kk a (List.mem_cons_of_mem _ (List.mem_append_right _ ha))
    have k3 : ∀ a ∈ B3, H' a = H a := fun a ha => kk a (List.mem_cons_of_mem _ (List.mem_append_left _ ha))
    obtain ⟨t1', C, q1, q2, q3⟩ := pt m k3 y
    obtain ⟨C2, s, q4⟩ := g4.put m k2 q2
    have es : (kvs.map Prod.snd).set n v1 = kvs.map Prod.snd := set_self g1
    rw [es] at s
    refine ⟨.ob xn ks (ts.set n t1'), a0 :: C2, ?_, .ob ((kk a0 List.mem_cons_self).trans h) ec e0 s, fun a => by rw [List.count_cons, List.count_cons, List.count_append, q4 a, q3 a]; omega⟩
    show (kAt ks k).bind _ = _
    rw [en]
    show (ts[n]?).bind _ = _
    rw [ev]
    show (T.putK? js t' t1).map _ = _
    rw [q1]
    rfl
  | .ix _ :: _, _, .d _, _, _, _, e => by cases e
  | .ix _ :: _, _, .no _, _, _, _, e => by cases e
  | .ix _ :: _, _, .hl, _, _, _, e => by cases e
  | .ix _ :: _, _, .fk _ _ _, _, _, _, e => by cases e
  | .ix _ :: _, _, .dt _ _ _, _, _, _, e => by cases e
  | .ix _ :: _, _, .od _ _, _, _, _, e => by cases e
  | .ix _ :: _, _, .fd _ _ _, _, _, _, e => by cases e
  | .ix _ :: _, _, .ob _ _ _, _, _, _, e => by cases e
  | .ix _ :: _, _, .rd _, _, _, _, e => by cases e
  | .ix _ :: _, _, .ex _, _, _, _, e => by cases e
  | .key _ :: _, _, .d _, _, _, _, e => by cases e
  | .key _ :: _, _, .no _, _, _, _, e => by cases e
  | .key _ :: _, _, .hl, _, _, _, e => by cases e
  | .key _ :: _, _, .fk _ _ _, _, _, _, e => by cases e
  | .key _ :: _, _, .dt _ _ _, _, _, _, e => by cases e
  | .key _ :: _, _, .ol _, _, _, _, e => by cases e
  | .key _ :: _, _, .ot _, _, _, _, e => by cases e
  | .key _ :: _, _, .ob _ _ _, _, _, _, e => by cases e
  | .key _ :: _, _, .rd _, _, _, _, e => by cases e
  | .key _ :: _, _, .ex _, _, _, _, e => by cases e
  | .fld _ :: _, _, .d _, _, _, _, e => by cases e
  | .fld _ :: _, _, .no _, _, _, _, e => by cases e
  | .fld _ :: _, _, .hl, _, _, _, e => by cases e
  | .fld _ :: _, _, .fk _ _ _, _, _, _, e => by cases e
  | .fld _ :: _, _, .dt _ _ _, _, _, _, e => by cases e
  | .fld _ :: _, _, .ol _, _, _, _, e => by cases e
  | .fld _ :: _, _, .ot _, _, _, _, e => by cases e
  | .fld _ :: _, _, .od _ _, _, _, _, e => by cases e
  | .fld _ :: _, _, .fd _ _ _, _, _, _, e => by cases e
  | .fld _ :: _, _, .rd _, _, _, _, e => by cases e
  | .fld _ :: _, _, .ex _, _, _, _, e => by cases e
end
end L3
namespace L3
open PySem PySem.Spec PyProof.Rows L2
def opKey (x y : T) : R RV := match x, y.key with
  | .od ks ts, some k => (ofO ((kAt ks k).bind fun n => ts[n]?)).bind fun t => .ok (.v t)
  | .fd _ ks ts, some k => (ofO ((kAt ks k).bind fun n => ts[n]?)).bind fun t => .ok (.v t)
  | _, _ => .bad
abbrev rKey : R2 := fun x y H Q => ∃ a v, x = .ref a ∧ DGet H a y (some v) ∧ Q v H
theorem opKey_v {K : PySem.W.Frag} : OpV K rKey opKey := by
  intro F H v u x y A B hx hy Q q
  unfold opKey at q
  split at q
  · rename_i ks ts k hk
    obtain ⟨t, e, q⟩ := then_ofO.mp (then_bind.mp q)
    obtain ⟨n, e1, e2⟩ := Option.bind_eq_some_iff.mp e
    cases hx with
    | @od a kvs _ _ A1 h e0 dd r =>
      obtain ⟨w, A2, B2, g1, g2, g3, _⟩ := r.around e2
      obtain ⟨u', h1, h2⟩ := valV_at (kvs := kvs) (k := k) (n := n) (by rw [e0]; exact e1)
      rw [List.getElem?_map, h1] at g1
      cases g1
      refine ⟨a, u', rfl, ?_, q u' A2 g2 fun b => by have := g3 b; rw [List.count_append, List.count_cons]; omega⟩
      rw [key_rp hy hk]
      have := DGet.k (k := k) h
      rwa [h2] at this
  · rename_i ks ts k hk
    obtain ⟨t, e, q⟩ := then_ofO.mp (then_bind.mp q)
    obtain ⟨n, e1, e2⟩ := Option.bind_eq_some_iff.mp e
    cases hx with
    | @fd a o kvs _ _ A1 h e0 dd r =>
      obtain ⟨w, A2, B2, g1, g2, g3, _⟩ := r.around e2
      obtain ⟨u', h1, h2⟩ := valV_at (kvs := kvs) (k := k) (n := n) (by rw [e0]; exact e1)
      rw [List.getElem?_map, h1] at g1
      cases g1
      refine ⟨_, u', rfl, .inl ⟨kvs, k, .inr ⟨o, h⟩, key_rp hy hk, h2.symm⟩, q u' A2 g2 fun b => by have := g3 b; rw [List.count_append]; omega⟩
  · exact q.elim
section
variable {X : Cx} {E : Str → Hp → Prop} {e a b : Expr} {te ta tb : TE} {m ma mb : MP} {pos : Pos}
theorem qp_key (hu : X.A.units + 1 < cLine) (ha : QP X a ta ma) (hb : QP X b tb mb) (hs : NoSl b := by exact fun _ _ => rfl) : QP X (.Subscript a b pos) (tOp rKey ta tb) (pBin opKey ma mb) := ⟨pe_dget hu ha.pe hb.pe hs, sim_pbin opKey_v ha.sim hb.sim⟩
end
abbrev MLK := Env → Option (List PK)
def SimLK (K : PySem.W.Frag) (i : Nat) (te : TE) (mp : MLK) : Prop :=
  ∀ (c : C0) (H : Hp) (tv : List (Option V)) (td : Env) (σ : L2.St) (ρ : Env) (A : List Addr) (p : List PK) (t0 t : T), tv.length = td.length → StW K c H (tv ++ σ) (td ++ ρ) A → mp ρ = some p → ρ[i]? = some (some t0) → T.atK p t0 = some t → ∀ Q : VK,
    (∀ v0 v, σ[i]? = some (some v0) → LocK H v0 p v → Q v H) → te σ H Q
structure QLK (X : Cx) (i : Nat) (e : Expr) (te : TE) (mp : MLK) : Prop where
  pe : PE X e te
  sim : SimLK X.K i te mp
def kHere : MLK := fun _ => some []
section
variable {X : Cx} {E : Str → Hp → Prop} {a b : Expr} {ta tb : TE} {pos : Pos}
end
def putAtK (i : Nat) (p : List PK) (tc : T) (ρ : Env) : Option Env := match ρ[i]? with
  | some (some t) => (T.putK? p tc t).map fun t' => ρ.set i (some t')
  | _ => none
def atKo (p : List PK) (o : Option (Option T)) : Option T := match o with
  | some (some t) => T.atK p t
  | _ => none
theorem atKo_some {p : List PK} {o : Option (Option T)} {tc : T} (h : atKo p o = some tc) : ∃ t, o = some (some t) ∧ T.atK p t = some tc := by
  unfold atKo at h
  split at h
  · exact ⟨_, rfl, h⟩
  · cases h
def putT (ks : List Key) (ts : List T) (k : Key) (t : T) : List Key × List T := match kAt ks k with
  | some n => (ks, ts.set n t)
  | none => (ks ++ [k], ts ++ [t])
def mKeySet (i : Nat) (mp : MLK) (mk : MP) (me : MEx) : MS := fun ρ => (me ρ).bind fun r => (ofO (mp r.2)).bind fun p => (ofO ((mk r.2).bind T.key)).bind fun k => (ofO (atKo p r.2[i]?)).bind fun tc => match tc with
  | .od ks ts => guard (decide (ks.length < sLine)) ((ofO (putAtK i p (.od (putT ks ts k r.1).1 (putT ks ts k r.1).2) r.2)).bind fun ρ' => .ok (.next ρ'))
  | _ => .bad
section
variable {X : Cx} {E : Str → Hp → Prop} {io : List Nat} {o k value : Expr} {to tk tv' : TE} {pos pos' : Pos}
end
def mDisp (ks : List Key) (ma : MA) : MEx := fun ρ => (ma ρ).bind fun r => guard (decide (r.1.length = ks.length ∧ ks.Nodup ∧ ks.length ≤ 15)) (.ok (.od ks r.1, r.2))
theorem StR.push_od {K : PySem.W.Frag} {c : C0} {H : Hp} {sl : List (Option V)} {ρ : Env} {p : Addr} (h : StR K c H sl ρ) (hp : H p = none) : StR K c (upd H p (.dK [])) (some (.ref p) :: sl) (some (.od [] []) :: ρ) := by
  obtain ⟨A, w⟩ := h
  have sm := same_upd (o := .dK []) hp
  have m0 : Mono (Fok c A) (Fok c (p :: A)) H H := Fok.fresh hp
  have eq1 : ∀ a ∈ A, (upd H p (.dK [])) a = H a := fun a ha => upd_ne (fun z => w.not_mem_of_none hp (by rw [← z]; exact ha))
  have s2 := (w.slots.mono m0 fun _ _ => rfl).mono (.same sm) eq1
  have cc : Sl K (Fok c (p :: A)) (upd H p (.dK [])) (some (.ref p) :: sl) (some (.od [] []) :: ρ) ([p] ++ A) := .cons (.od (kvs := []) upd_same rfl List.nodup_nil .nil) s2
  refine ⟨p :: A, fun a => ?_, cc, fun a ha => ?_, w.keep.grow sm⟩
  · rw [List.count_cons]
    have h2 := w.uniq a
    by_cases e : p = a
    · subst e
      have : A.count p = 0 := List.count_eq_zero.mpr (w.not_mem_of_none hp)
      simp [this]
    · have e' : (p == a) = false := by simpa using e
      simp [e']; omega
  · rcases List.mem_cons.mp ha with z | z
    · exact .inr (by rw [z]; exact w.keep.there p hp)
    · exact w.own a z
theorem zip_fst {α β : Type} : ∀ {xs : List α} {ys : List β}, xs.length = ys.length → (xs.zip ys).map Prod.fst = xs
  | [], _, _ => rfl
  | x :: xs, y :: ys, h => by simp at h; simp [zip_fst h]
  | _ :: _, [], h => by simp at h
theorem zip_snd {α β : Type} : ∀ {xs : List α} {ys : List β}, xs.length = ys.length → (xs.zip ys).map Prod.snd = ys
  | [], [], _ => rfl
  | [], _ :: _, h => by simp at h
  | x :: xs, y :: ys, h => by simp at h; simp [zip_snd h]
  | _ :: _, [], h => by simp at h
theorem StR.fill_od {K : PySem.W.Frag} {c : C0} {H : Hp} {sl : List (Option V)} {ρ : Env} {p : Addr} {vs : List V} {ts : List T} {ks : List Key} (hl : vs.length = ts.length) (hk : ks.length = ts.length) (hn : ks.Nodup) (h : StR K c H (vs.map some ++ (some (.ref p) :: sl)) (ts.map some ++ (some (.od [] []) :: ρ))) :
    H p = some (.dK []) ∧ StR K c (upd H p (.dK (ks.zip vs))) (some (.ref p) :: sl) (some (.od ks ts) :: ρ) := by
  obtain ⟨A, w⟩ := h
  obtain ⟨A1, B, eA, ra, s⟩ := w.slots.front hl
  cases s with
  | cons x s =>
    rename_i A2 B2
    cases x with
    | @od _ kvs _ _ A3 hp e0 dd r =>
      cases kvs with
      | cons y ys => simp at e0
      | nil =>
        cases r
        refine ⟨hp, ?_⟩
        have cnt : ∀ a, A.count a = A1.count a + ((if p = a then 1 else 0) + B2.count a) := fun a => by
          rw [eA, List.count_append, List.count_append]
          by_cases e : p = a
          · simp [e]
          · simp [e]
        have pA : p ∈ A := List.count_pos_iff.mp (by have := cnt p; rw [if_pos rfl] at this; omega)
        have ne1 : ∀ b ∈ A1, b ≠ p := fun b hb z => by
          subst z
          have h1 := cnt b
          have h2 := w.uniq b
          have h3 := List.count_pos_iff.mpr hb
          rw [if_pos rfl] at h1
          omega
        have ne2 : ∀ b ∈ B2, b ≠ p := fun b hb z => by
          subst z
          have h1 := cnt b
          have h2 := w.uniq b
          have h3 := List.count_pos_iff.mpr hb
          rw [if_pos rfl] at h1
          omega
        have mo : Mono (Fok c A) (Fok c A) H (upd H p (.dK (ks.zip vs))) := ⟨fun b ws e f => ⟨by rw [upd_ne (fun z => f.2 (by rw [z]; exact pA))]; exact e, f⟩, fun b uu e st => by
          rw [upd_ne (fun z => by rw [z, hp] at e; cases e; exact st)]
          exact e⟩
        have r2 := ra.mono mo fun b hb => upd_ne (ne1 b hb)
        have s2 := s.mono mo fun b hb => upd_ne (ne2 b hb)
        have cc : Sl K (Fok c A) (upd H p (.dK (ks.zip vs))) (some (.ref p) :: sl) (some (.od ks ts) :: ρ) ((p :: A1) ++ B2) := .cons (.od upd_same (zip_fst (by omega)) hn (by rw [zip_snd (by omega)]; exact r2)) s2
        have fin : ∀ b, ((p :: A1) ++ B2).count b = A.count b := fun b => by
          rw [cnt b, List.count_append, List.count_cons]
          by_cases e : p = b
          · simp [e]; omega
          · simp [e]
        refine ⟨_, fun b => by rw [fin]; exact w.uniq b, cc.mono (.sub fun b _ => Fok.sub (fun a => Nat.le_of_eq (fin a)) b) fun _ _ => rfl, fun b hb => w.own b (List.count_pos_iff.mp (by rw [← fin]; exact List.count_pos_iff.mpr hb)), ⟨fun b o e n => ?_, fun b e => ?_⟩⟩
        · rw [upd_ne]
          · exact w.keep.keep b o e n
          · intro z
            subst z
            rcases w.own b pA with y | y
            · exact n y
            · rw [e] at y; cases y
        · by_cases z : b = p
          · subst z
            rw [upd_same] at e; cases e
          · rw [upd_ne z] at e
            exact w.keep.there b e
theorem merge_nodup : ∀ {more kvs : List (Key × V)}, ((kvs ++ more).map Prod.fst).Nodup → mergeK kvs more = kvs ++ more
  | [], kvs, h => by simp [mergeK]
  | p :: r, kvs, h => by
    have hv : valV kvs p.1 = none := valV_no (by
      cases e : kAt (kvs.map Prod.fst) p.1 with
      | none => rfl
      | some n =>
        have := kAt_lt e
        rw [List.map_append, List.nodup_append] at h
        exact (h.2.2 p.1 (List.mem_of_getElem? this) p.1 (by simp) rfl).elim)
    have e : mergeK kvs (p :: r) = mergeK (putK kvs p.1 p.2) r := rfl
    rw [e, putK_new p.2 hv, merge_nodup (by simpa using h)]
    simp
def SimD (K : PySem.W.Frag) (E : Str → Hp → Prop) (ks : List Key) (trs : List (TE × TE)) (m : MA) : Prop :=
  ∀ (c : C0) (H : Hp) (tv : List (Option V)) (td : Env) (σ : L2.St) (ρ : Env), tv.length = td.length → StR K c H (tv ++ σ) (td ++ ρ) → ∀ Q : List (V × V) → Hp → Prop,
    Then (m ρ) (fun r => ∀ vs H', vs.length = r.1.length → ks.length = r.1.length → StR K c H' (vs.map some ++ (tv ++ σ)) (r.1.map some ++ (td ++ r.2)) → Q ((ks.zip vs).map fun kv => (kV kv.1, kv.2)) H') (fun x => ∀ H', KeepC c H' → E x H') → tPairs trs σ H Q
structure QD (X : Cx) (E : Str → Hp → Prop) (pos : Pos) (keys : List (Option Expr)) (values : List Expr) (ks : List Key) (trs : List (TE × TE)) (m : MA) : Prop where
  pps : PPs X pos keys values trs
  sim : SimD X.K E ks trs m
section
variable {X : Cx} {E : Str → Hp → Prop} {pos : Pos} {keys : List (Option Expr)} {values : List Expr} {ks : List Key} {trs : List (TE × TE)} {m : MA}
theorem qd_nil : QD X E pos [] [] [] [] mNil := ⟨pps_nil, fun c H tv td σ ρ hl st Q q => q [] H rfl rfl st⟩
theorem qd_cons {x : Str} {j : Nat} {p1 : Pos} {v : Expr} {tv : TE} {me : MEx} {g : Bool} (h : QE X E g v tv me) (hr : QD X E pos keys values ks trs m) : QD X E pos (some (.Constant (.str x) j p1) :: keys) (v :: values) (.inr x :: ks) ((tC (.str x), tv) :: trs) (mCons me m) := by
  refine ⟨pps_cons pe_str h.pe hr.pps, fun c H tv' td σ ρ hl st Q q => ?_⟩
  unfold mCons at q
  rw [then_bind] at q
  show tv σ H _
  refine h.sim c H tv' td σ ρ hl st _ (q.imp ?_)
  intro z q1 w H1 sm1 st1
  rw [then_bind] at q1
  refine hr.sim c H1 (some w :: tv') (some z.1 :: td) σ z.2 (by simp [hl]) st1 _ (q1.imp ?_)
  intro y q2 vs H2 hvs hks st2
  exact q2 (w :: vs) H2 (by simp [hvs]) (by simp [hks]) (StR.raise (xs := vs.map some) (as := y.1.map some) (by simp [hvs]) st2)
theorem qe_disp (h : QD X E pos keys values ks trs m) (hall : keys.all (·.isSome) = true := by rfl) (hl : keys.length = values.length := by rfl) (h0 : keys ≠ [] := by exact fun z => nomatch z) (h15 : keys.length ≤ 15 := by decide) : QE X E false (.Dict keys values pos) (tDisp trs) (mDisp ks m) := by
  refine ⟨pe_disp h.pps hall hl h0 h15, fun c H tv td σ ρ hl st Q q => ?_⟩
  unfold mDisp at q
  rw [then_bind] at q
  intro p hp
  refine h.sim c (upd H p (.dK [])) (some (.ref p) :: tv) (some (.od [] []) :: td) σ ρ (by simp [hl]) (st.push_od hp) _ (q.imp ?_)
  intro r q1 vs H2 hvs hks st2
  obtain ⟨g, q1⟩ := then_guard.mp q1
  obtain ⟨g1, g2, g3⟩ := of_decide_eq_true g
  obtain ⟨e1, e2⟩ := StR.fill_od (sl := tv ++ σ) (ρ := td ++ r.2) hvs g1.symm g2 st2
  have hz : ((ks.zip vs).map Prod.fst) = ks := zip_fst (by omega)
  refine ⟨e1, ks.zip vs, rfl, by simp; omega, ?_⟩
  rw [merge_nodup (by simpa [hz] using g2)]
  exact q1 _ _ (fun z => nomatch z) e2
end
theorem u1 {k : Nat} {A : Around} (r : Room k A) : A.units + 1 < cLine := by have := r.un; omega
section
variable {X : Cx} {E : Str → Hp → Prop} {io : List Nat} {a b e : Expr} {ta tb te : TE} {pos tpos : Pos} {mi me : MP} {mp : ML}
end
end L3
namespace L3
open PySem PySem.Spec PyProof.Rows L2
structure KC (K : PySem.W.Frag) (u : Value) (v : V) (x : PyData) : Prop where
  rel : RelV v u
  fz : ∀ F H, Fz K F H v x
inductive CVs : List Value → List V → List PyData → Prop
  | nil : CVs [] [] []
  | int {i : Int} {t : Tok} {us : List Value} {vs : List V} {ds : List PyData} : CVs us vs ds → CVs (.int i t :: us) (.int i :: vs) (.int i :: ds)
  | str {x : Str} {t : Tok} {us : List Value} {vs : List V} {ds : List PyData} : CVs us vs ds → CVs (.str x t :: us) (.str x :: vs) (.str x :: ds)
theorem CVs.fz {K : PySem.W.Frag} {F : Addr → Prop} {H : Hp} : ∀ {us : List Value} {vs : List V} {ds : List PyData}, CVs us vs ds → FzAll K F H vs ds
  | _, _, _, .nil => .nil
  | _, _, _, .int r => .cons (.int _) r.fz
  | _, _, _, .str r => .cons (.str _) r.fz
def fzSlot (i : Nat) (ρ : Env) : R Env := match ρ[i]? with
  | some (some t) => (match t.fz with | some x => .ok (ρ.set i (some (.d x))) | none => .bad)
  | _ => .bad
def fzNext (i : Nat) : Out → R Out
  | .next ρ => (fzSlot i ρ).bind fun ρ' => .ok (.next ρ')
  | o => .ok o
def mThenFz (i : Nat) (m : MS) : MS := fun ρ => (m ρ).bind (fzNext i)
theorem StR.fzSlot {K : PySem.W.Frag} {c : C0} {H : Hp} {tv : List (Option V)} {td : Env} {σ : L2.St} {ρ ρ' : Env} {i : Nat} (hl : tv.length = td.length) (st : StR K c H (tv ++ σ) (td ++ ρ)) (e : L3.fzSlot i ρ = .ok ρ') : StR K c H (tv ++ σ) (td ++ ρ') := by
  unfold L3.fzSlot at e
  cases e0 : ρ[i]? with
  | none => rw [e0] at e; cases e
  | some o =>
    cases o with
    | none => rw [e0] at e; cases e
    | some t =>
      rw [e0] at e
      dsimp only at e
      cases ef : t.fz with
      | none => rw [ef] at e; cases e
      | some x =>
        rw [ef] at e
        cases e
        have hs : (mVar i ρ) = .ok (.d x, ρ.set i (some (.d x))) := by
          unfold mVar
          rw [e0]
          cases t with
          | d y =>
            simp [T.fz] at ef
            subst ef
            dsimp only
            rw [set_self e0]
          | _ => dsimp only; rw [ef]
        have := sim_var (K := K) (E := fun _ _ => True) i c H tv td σ ρ hl st (fun v H' => H' = H → StR K c H (tv ++ σ) (td ++ ρ.set i (some (.d x)))) (by
          rw [hs]
          intro v H' sm st1 eh
          subst eh
          exact st1.drop)
        obtain ⟨v, _, q⟩ := this
        exact q rfl
theorem qs_thenFz {X : Cx} {E : Str → Hp → Prop} {io : List Nat} {s : Stmt} {ts : TS} {m : MS} (i : Nat) (h : QS X E io s ts m) : QS X E io s ts (mThenFz i m) := by
  refine ⟨h.ps, fun c H tv td σ ρ hl st D q => ?_⟩
  unfold mThenFz at q
  rw [then_bind] at q
  refine h.sim c H tv td σ ρ hl st D (q.imp fun o q1 => ?_)
  cases o with
  | next ρ1 =>
    intro σ' H' sio st'
    have q1 : Then ((L3.fzSlot i ρ1).bind fun ρ' => R.ok (Out.next ρ')) _ _ := q1
    rw [then_bind] at q1
    cases e : L3.fzSlot i ρ1 with
    | bad => rw [e] at q1; exact q1.elim
    | exc y => unfold L3.fzSlot at e; split at e <;> (try split at e) <;> cases e
    | ok ρ2 =>
      rw [e] at q1
      exact q1 σ' H' sio (st'.fzSlot hl e)
  | ret t ρ1 => exact q1
  | brk ρ1 => exact q1
  | cont ρ1 => exact q1
def fzO : Option T → Option T
  | some t => t.fz.map T.d
  | none => none
def fzEnv (ρ : Env) : Env := ρ.map fzO
def lookK (ρ : Env) (r : Bool × Env) : R (Bool × Env) := .ok (r.1, ρ)
def mLookT (m : MT) : MT := fun ρ => (m (fzEnv ρ)).bind (lookK ρ)
theorem Sl.fzEnv {K : PySem.W.Frag} {F F' : Addr → Prop} {H : Hp} (hF : ∀ a, F' a) : ∀ {sl : List (Option V)} {ρ : Env} {A : List Addr}, Sl K F H sl ρ A → Sl K F' H sl (L3.fzEnv ρ) []
  | _, _, _, .nil => .nil
  | _, _, _, .skip h => .skip (Sl.fzEnv hF h)
  | _, _, _, .cons (t := t) h r => by
    show Sl K F' H _ ((t.fz.map T.d) :: L3.fzEnv _) []
    cases e : t.fz with
    | none => exact .skip (Sl.fzEnv hF r)
    | some x => exact .cons (A := []) (.d (h.freeze (fun a _ _ => hF a) (fun a _ => hF a) e)) (Sl.fzEnv hF r)
theorem Sl.tail {K : PySem.W.Frag} {F : Addr → Prop} {H : Hp} {sl : List (Option V)} {ρ : Env} : ∀ {tv : List (Option V)} {td : Env} {A : List Addr}, tv.length = td.length → Sl K F H (tv ++ sl) (td ++ ρ) A → ∃ B, Sl K F H sl ρ B
  | [], [], _, _, h => ⟨_, h⟩
  | _ :: _, _ :: _, _, e, .skip h => Sl.tail (by simpa using e) h
  | _ :: _, _ :: _, _, e, .cons _ h => Sl.tail (by simpa using e) h
  | [], _ :: _, _, e, _ => by simp at e
  | _ :: _, [], _, e, _ => by simp at e
def lookC (H : Hp) : C0 := ⟨H, [], fun _ => True⟩
theorem KeepC.same {H H' : Hp} (k : KeepC (lookC H) H') : Same H H' := fun a o e => k.keep a o e (by simp [lookC])
end L3
namespace L3
open PySem PySem.Spec PyProof.Rows L2
structure ZAt (z TI TO i1 i2 l1 l2 : Addr) (xs ys : Array Value) (N : Nat) (Ts : List Addr) (h : Heap) : Prop where
  pTI : IsPair h TI (.ref i1) (.ref i2)
  it1 : h.IsListIter i1 l1 Ts.length
  it2 : h.IsListIter i2 l2 Ts.length
  li1 : h.IsList l1 xs
  li2 : h.IsList l2 ys
  own : (IsZip h z TI TO .none ∧ ∃ a b, IsPair h TO a b) ∨ ∃ T f oT, IsZipHeld h z TI TO T f ∧ h.get? T = some oT ∧ T ≠ z ∧ T ≠ i1 ∧ T ≠ i2 ∧ N ≤ T
structure ZGave (xs ys : Array Value) (N : Nat) (Ts : List Addr) (h : Heap) : Prop where
  up : Ts.Pairwise (· < ·)
  new : ∀ T ∈ Ts, N ≤ T ∧ T < h.objs.size
  is : ∀ (j : Nat) (T : Addr), Ts[j]? = some T → ∃ x y, IsPair h T x y ∧ xs[j]? = some x ∧ ys[j]? = some y
theorem ZAt.frame {z TI TO i1 i2 l1 l2 S : Addr} {xs ys : Array Value} {N : Nat} {Ts : List Addr} {h h' : Heap} (k : ZAt z TI TO i1 i2 l1 l2 xs ys N Ts h) (hS : S < N) (hn : S ∉ [z, TI, TO, i1, i2, l1, l2]) (e : ∀ b o, b ≠ S → h.get? b = some o → h'.get? b = some o) : ZAt z TI TO i1 i2 l1 l2 xs ys N Ts h' := by
  simp only [List.mem_cons, List.not_mem_nil, or_false, not_or] at hn
  obtain ⟨n1, n2, n3, n4, n5, n6, n7⟩ := hn
  refine ⟨e _ _ (Ne.symm n2) k.pTI, k.it1.at fun o q => e _ o (Ne.symm n4) q, k.it2.at fun o q => e _ o (Ne.symm n5) q, k.li1.at fun o q => e _ o (Ne.symm n6) q, k.li2.at fun o q => e _ o (Ne.symm n7) q, ?_⟩
  rcases k.own with ⟨hz, a, b, hTO⟩ | ⟨T, f, oT, hz, hT, r1, r2, r3, r4⟩
  · exact .inl ⟨e _ _ (Ne.symm n1) hz, a, b, e _ _ (Ne.symm n3) hTO⟩
  · exact .inr ⟨T, f, oT, e _ _ (Ne.symm n1) hz, e _ _ (fun q => Nat.not_le_of_lt hS (q ▸ r4)) hT, r1, r2, r3, r4⟩
theorem ZGave.frame {S : List Addr} {xs ys : Array Value} {N : Nat} {Ts : List Addr} {h h' : Heap} (k : ZGave xs ys N Ts h) (hS : ∀ b ∈ S, b < N) (hl : h.objs.size ≤ h'.objs.size) (e : ∀ b o, b ∉ S → h.get? b = some o → h'.get? b = some o) : ZGave xs ys N Ts h' := by
  refine ⟨k.up, fun T hT => ⟨(k.new T hT).1, Nat.lt_of_lt_of_le (k.new T hT).2 hl⟩, fun j T hj => ?_⟩
  obtain ⟨x, y, hp, ex, ey⟩ := k.is j T hj
  refine ⟨x, y, e _ _ (fun hm => ?_) hp, ex, ey⟩
  exact absurd (k.new T (List.mem_of_getElem? hj)).1 (Nat.not_le_of_lt (hS T hm))
theorem ZGave.snoc {xs ys : Array Value} {N : Nat} {Ts : List Addr} {h : Heap} {T : Addr} {x y : Value} (k : ZGave xs ys N Ts h) (hT : ∀ U ∈ Ts, U < T) (hN : N ≤ T) (hp : IsPair h T x y) (ex : xs[Ts.length]? = some x) (ey : ys[Ts.length]? = some y) : ZGave xs ys N (Ts ++ [T]) h := by
  refine ⟨List.pairwise_append.mpr ⟨k.up, List.pairwise_singleton .., fun a ha b hb => by simp at hb; subst hb; exact hT a ha⟩, fun U hU => ?_, fun j U hj => ?_⟩
  · rcases List.mem_append.mp hU with e | e
    · exact k.new U e
    · simp at e; subst e; exact ⟨hN, Heap.lt_size hp⟩
  · by_cases hj2 : j < Ts.length
    · rw [List.getElem?_append_left hj2] at hj
      exact k.is j U hj
    · have hj3 : j = Ts.length := by
        have := (List.getElem?_eq_some_iff.mp hj).1
        simp at this
        omega
      subst hj3
      rw [List.getElem?_append_right (Nat.le_refl _)] at hj
      simp at hj
      subst hj
      exact ⟨x, y, hp, ex, ey⟩
section
variable {prog : Program} {w : World} {A : Around} {R : Result → Shared → Prop} {z TI TO i1 i2 l1 l2 : Addr} {xs ys : Array Value}
end
section
variable {X : Cx} {pins : List (Addr × Obj)} {σ : L2.St}
end
end L3
namespace L3
open PySem PySem.Spec PyProof.Rows L2
section
variable {X : Cx} {x : Str} {C : Addr} {b₀ : Stmt} {body suite : List Stmt} {np pos pos' : Pos} {mb mh : MS} {xs : List Str} {E : Str → Hp → Prop}
end
theorem RpAll.rev {K : PySem.W.Frag} {F : Addr → Prop} {H : Hp} : ∀ {vs : List V} {ts : List T} {A : List Addr}, RpAll K F H vs ts A → ∃ B, RpAll K F H vs.reverse ts.reverse B ∧ ∀ a, B.count a = A.count a
  | _, _, _, .nil => ⟨[], .nil, fun _ => rfl⟩
  | _, _, _, .cons x r => by
    obtain ⟨B, h1, h2⟩ := RpAll.rev r
    obtain ⟨C, h3, h4⟩ := h1.snoc x
    refine ⟨C, by simpa using h3, fun a => ?_⟩
    rw [h4, h2, List.count_append]
    omega
section
variable {X : Cx} {E : Str → Hp → Prop} {o : Expr} {name : Str} {id : String} {to : TE} {i : Nat} {mp : ML} {op : List T → List T → Option (T × List T)} {rM : V → List V → Hp → VK → Prop} {apos cpos : Pos}
end
end L3
namespace L3
open PySem PySem.Spec PyProof.Rows L2
mutual
def calm : PyData → Bool
  | .none => true
  | .bool _ => true
  | .int _ => true
  | .str _ => true
  | .tuple xs => calmAll xs
  | _ => false
def calmAll : List PyData → Bool
  | [] => true
  | x :: xs => calm x && calmAll xs
end
section
variable {K : PySem.W.Frag} {F F' : Addr → Prop} {H : Hp}
mutual
theorem Fz.calm : ∀ {v : V} {x : PyData}, Fz K F H v x → L3.calm x = true → Fz K F' H v x
  | _, _, .non, _ => .non
  | _, _, .bl b, _ => .bl b
  | _, _, .int i, _ => .int i
  | _, _, .str x, _ => .str x
  | _, _, .lst _ _ _, h => by simp [L3.calm] at h
  | _, _, .tup h a, e => .tup h (FzAll.calm a (by simpa [L3.calm] using e))
theorem FzAll.calm : ∀ {vs : List V} {xs : List PyData}, FzAll K F H vs xs → calmAll xs = true → FzAll K F' H vs xs
  | _, _, .nil, _ => .nil
  | _, _, .cons h a, e => by
    simp only [calmAll, Bool.and_eq_true] at e
    exact .cons (Fz.calm h e.1) (FzAll.calm a e.2)
end
end
end L3
namespace L3
open PySem PyProof.Rows L2
section
variable {K : PySem.W.Frag} {F F' : Addr → Prop} {H H' : Hp}
theorem ixN_set {α : Type} {xs : List α} {j : Int} {k : Nat} {x : α} (h : ixN xs.length j = some k) : atI (xs.set k x) j = some x := by
  have := (ixN_seq h).2.1
  unfold atI
  rw [List.length_set, h]
  simp [this]
theorem atK_put : ∀ {p : List PK} {n t t' : T}, T.putK? p n t = some t' → T.atK p t' = some n
  | [], n, t, t', h => by cases h; rfl
  | .ix j :: p, n, .ol ts, t', h => by
    obtain ⟨k, e1, h⟩ := Option.bind_eq_some_iff.mp (show (ixN ts.length j).bind _ = some t' from h)
    obtain ⟨t1, e2, h⟩ := Option.bind_eq_some_iff.mp h
    obtain ⟨t2, e3, h⟩ := Option.map_eq_some_iff.mp h
    subst h
    show (atI (ts.set k t2) j).bind (T.atK p) = _
    rw [ixN_set e1]
    exact atK_put e3
  | .ix j :: p, n, .ot ts, t', h => by
    obtain ⟨k, e1, h⟩ := Option.bind_eq_some_iff.mp (show (ixN ts.length j).bind _ = some t' from h)
    obtain ⟨t1, e2, h⟩ := Option.bind_eq_some_iff.mp h
    obtain ⟨t2, e3, h⟩ := Option.map_eq_some_iff.mp h
    subst h
    show (atI (ts.set k t2) j).bind (T.atK p) = _
    rw [ixN_set e1]
    exact atK_put e3
  | .key k :: p, n, .od ks ts, t', h => by
    obtain ⟨m, e1, h⟩ := Option.bind_eq_some_iff.mp (show (kAt ks k).bind _ = some t' from h)
    obtain ⟨t1, e2, h⟩ := Option.bind_eq_some_iff.mp h
    obtain ⟨t2, e3, h⟩ := Option.map_eq_some_iff.mp h
    subst h
    show (kAt ks k).bind (fun m' => ((ts.set m t2)[m']?).bind (T.atK p)) = _
    have hm := (List.getElem?_eq_some_iff.mp e2).1
    rw [e1]
    show ((ts.set m t2)[m]?).bind _ = _
    rw [List.getElem?_set_self hm]
    exact atK_put e3
  | .key k :: p, n, .fd a ks ts, t', h => by
    obtain ⟨m, e1, h⟩ := Option.bind_eq_some_iff.mp (show (kAt ks k).bind _ = some t' from h)
    obtain ⟨t1, e2, h⟩ := Option.bind_eq_some_iff.mp h
    obtain ⟨t2, e3, h⟩ := Option.map_eq_some_iff.mp h
    subst h
    show (kAt ks k).bind (fun m' => ((ts.set m t2)[m']?).bind (T.atK p)) = _
    have hm := (List.getElem?_eq_some_iff.mp e2).1
    rw [e1]
    show ((ts.set m t2)[m]?).bind _ = _
    rw [List.getElem?_set_self hm]
    exact atK_put e3
  | .fld k :: p, n, .ob x ks ts, t', h => by
    obtain ⟨m, e1, h⟩ := Option.bind_eq_some_iff.mp (show (kAt ks k).bind _ = some t' from h)
    obtain ⟨t1, e2, h⟩ := Option.bind_eq_some_iff.mp h
    obtain ⟨t2, e3, h⟩ := Option.map_eq_some_iff.mp h
    subst h
    show (kAt ks k).bind (fun m' => ((ts.set m t2)[m']?).bind (T.atK p)) = _
    have hm := (List.getElem?_eq_some_iff.mp e2).1
    rw [e1]
    show ((ts.set m t2)[m]?).bind _ = _
    rw [List.getElem?_set_self hm]
    exact atK_put e3
  | .ix _ :: _, _, .d _, _, h => by cases h
  | .ix _ :: _, _, .od _ _, _, h => by cases h
  | .ix _ :: _, _, .fd _ _ _, _, h => by cases h
  | .ix _ :: _, _, .fk _ _ _, _, h => by cases h
  | .ix _ :: _, _, .dt _ _ _, _, h => by cases h
  | .ix _ :: _, _, .no _, _, h => by cases h
  | .ix _ :: _, _, .hl, _, h => by cases h
  | .ix _ :: _, _, .ob _ _ _, _, h => by cases h
  | .ix _ :: _, _, .rd _, _, h => by cases h
  | .ix _ :: _, _, .ex _, _, h => by cases h
  | .key _ :: _, _, .d _, _, h => by cases h
  | .key _ :: _, _, .ol _, _, h => by cases h
  | .key _ :: _, _, .ot _, _, h => by cases h
  | .key _ :: _, _, .fk _ _ _, _, h => by cases h
  | .key _ :: _, _, .dt _ _ _, _, h => by cases h
  | .key _ :: _, _, .no _, _, h => by cases h
  | .key _ :: _, _, .hl, _, h => by cases h
  | .key _ :: _, _, .ob _ _ _, _, h => by cases h
  | .key _ :: _, _, .rd _, _, h => by cases h
  | .key _ :: _, _, .ex _, _, h => by cases h
  | .fld _ :: _, _, .d _, _, h => by cases h
  | .fld _ :: _, _, .ol _, _, h => by cases h
  | .fld _ :: _, _, .ot _, _, h => by cases h
  | .fld _ :: _, _, .od _ _, _, h => by cases h
  | .fld _ :: _, _, .fd _ _ _, _, h => by cases h
  | .fld _ :: _, _, .fk _ _ _, _, h => by cases h
  | .fld _ :: _, _, .dt _ _ _, _, h => by cases h
  | .fld _ :: _, _, .no _, _, h => by cases h
  | .fld _ :: _, _, .hl, _, h => by cases h
  | .fld _ :: _, _, .rd _, _, h => by cases h
  | .fld _ :: _, _, .ex _, _, h => by cases h
theorem putK_put : ∀ {p : List PK} {n m t t' : T}, T.putK? p n t = some t' → T.putK? p m t' = T.putK? p m t
  | [], n, m, t, t', h => rfl
  | .ix j :: p, n, m, .ol ts, t', h => by
    obtain ⟨k, e1, h⟩ := Option.bind_eq_some_iff.mp (show (ixN ts.length j).bind _ = some t' from h)
    obtain ⟨t1, e2, h⟩ := Option.bind_eq_some_iff.mp h
    obtain ⟨t2, e3, h⟩ := Option.map_eq_some_iff.mp h
    subst h
    have hm := (List.getElem?_eq_some_iff.mp e2).1
    show (ixN (ts.set k t2).length j).bind (fun k' => ((ts.set k t2)[k']?).bind fun t => (T.putK? p m t).map fun t' => T.ol ((ts.set k t2).set k' t')) = (ixN ts.length j).bind fun k => (ts[k]?).bind fun t => (T.putK? p m t).map fun t' => T.ol (ts.set k t')
    rw [List.length_set, e1]
    simp only [Option.bind_some]
    rw [List.getElem?_set_self hm, e2]
    simp only [Option.bind_some]
    rw [putK_put e3]
    simp only [List.set_set]
  | .ix j :: p, n, m, .ot ts, t', h => by
    obtain ⟨k, e1, h⟩ := Option.bind_eq_some_iff.mp (show (ixN ts.length j).bind _ = some t' from h)
    obtain ⟨t1, e2, h⟩ := Option.bind_eq_some_iff.mp h
    obtain ⟨t2, e3, h⟩ := Option.map_eq_some_iff.mp h
    subst h
    have hm := (List.getElem?_eq_some_iff.mp e2).1
    show (ixN (ts.set k t2).length j).bind (fun k' => ((ts.set k t2)[k']?).bind fun t => (T.putK? p m t).map fun t' => T.ot ((ts.set k t2).set k' t')) = (ixN ts.length j).bind fun k => (ts[k]?).bind fun t => (T.putK? p m t).map fun t' => T.ot (ts.set k t')
    rw [List.length_set, e1]
    simp only [Option.bind_some]
    rw [List.getElem?_set_self hm, e2]
    simp only [Option.bind_some]
    rw [putK_put e3]
    simp only [List.set_set]
  | .key k :: p, n, m, .od ks ts, t', h => by
    obtain ⟨j, e1, h⟩ := Option.bind_eq_some_iff.mp (show (kAt ks k).bind _ = some t' from h)
    obtain ⟨t1, e2, h⟩ := Option.bind_eq_some_iff.mp h
    obtain ⟨t2, e3, h⟩ := Option.map_eq_some_iff.mp h
    subst h
    have hm := (List.getElem?_eq_some_iff.mp e2).1
    show (kAt ks k).bind (fun k' => ((ts.set j t2)[k']?).bind fun t => (T.putK? p m t).map fun t' => T.od ks ((ts.set j t2).set k' t')) = (kAt ks k).bind fun k => (ts[k]?).bind fun t => (T.putK? p m t).map fun t' => T.od ks (ts.set k t')
    rw [e1]
    simp only [Option.bind_some]
    rw [List.getElem?_set_self hm, e2]
    simp only [Option.bind_some]
    rw [putK_put e3]
    simp only [List.set_set]
  | .key k :: p, n, m, .fd a ks ts, t', h => by
    obtain ⟨j, e1, h⟩ := Option.bind_eq_some_iff.mp (show (kAt ks k).bind _ = some t' from h)
    obtain ⟨t1, e2, h⟩ := Option.bind_eq_some_iff.mp h
    obtain ⟨t2, e3, h⟩ := Option.map_eq_some_iff.mp h
    subst h
    have hm := (List.getElem?_eq_some_iff.mp e2).1
    show (kAt ks k).bind (fun k' => ((ts.set j t2)[k']?).bind fun t => (T.putK? p m t).map fun t' => T.fd a ks ((ts.set j t2).set k' t')) = (kAt ks k).bind fun k => (ts[k]?).bind fun t => (T.putK? p m t).map fun t' => T.fd a ks (ts.set k t')
    rw [e1]
    simp only [Option.bind_some]
    rw [List.getElem?_set_self hm, e2]
    simp only [Option.bind_some]
    rw [putK_put e3]
    simp only [List.set_set]
  | .fld k :: p, n, m, .ob x ks ts, t', h => by
    obtain ⟨j, e1, h⟩ := Option.bind_eq_some_iff.mp (show (kAt ks k).bind _ = some t' from h)
    obtain ⟨t1, e2, h⟩ := Option.bind_eq_some_iff.mp h
    obtain ⟨t2, e3, h⟩ := Option.map_eq_some_iff.mp h
    subst h
    have hm := (List.getElem?_eq_some_iff.mp e2).1
    show (kAt ks k).bind (fun k' => ((ts.set j t2)[k']?).bind fun t => (T.putK? p m t).map fun t' => T.ob x ks ((ts.set j t2).set k' t')) = (kAt ks k).bind fun k => (ts[k]?).bind fun t => (T.putK? p m t).map fun t' => T.ob x ks (ts.set k t')
    rw [e1]
    simp only [Option.bind_some]
    rw [List.getElem?_set_self hm, e2]
    simp only [Option.bind_some]
    rw [putK_put e3]
    simp only [List.set_set]
  | .ix _ :: _, _, _, .d _, _, h => by cases h
  | .ix _ :: _, _, _, .od _ _, _, h => by cases h
  | .ix _ :: _, _, _, .fd _ _ _, _, h => by cases h
  | .ix _ :: _, _, _, .fk _ _ _, _, h => by cases h
  | .ix _ :: _, _, _, .dt _ _ _, _, h => by cases h
  | .ix _ :: _, _, _, .no _, _, h => by cases h
  | .ix _ :: _, _, _, .hl, _, h => by cases h
  | .ix _ :: _, _, _, .ob _ _ _, _, h => by cases h
  | .ix _ :: _, _, _, .rd _, _, h => by cases h
  | .ix _ :: _, _, _, .ex _, _, h => by cases h
  | .key _ :: _, _, _, .d _, _, h => by cases h
  | .key _ :: _, _, _, .ol _, _, h => by cases h
  | .key _ :: _, _, _, .ot _, _, h => by cases h
  | .key _ :: _, _, _, .fk _ _ _, _, h => by cases h
  | .key _ :: _, _, _, .dt _ _ _, _, h => by cases h
  | .key _ :: _, _, _, .no _, _, h => by cases h
  | .key _ :: _, _, _, .hl, _, h => by cases h
  | .key _ :: _, _, _, .ob _ _ _, _, h => by cases h
  | .key _ :: _, _, _, .rd _, _, h => by cases h
  | .key _ :: _, _, _, .ex _, _, h => by cases h
  | .fld _ :: _, _, _, .d _, _, h => by cases h
  | .fld _ :: _, _, _, .ol _, _, h => by cases h
  | .fld _ :: _, _, _, .ot _, _, h => by cases h
  | .fld _ :: _, _, _, .od _ _, _, h => by cases h
  | .fld _ :: _, _, _, .fd _ _ _, _, h => by cases h
  | .fld _ :: _, _, _, .fk _ _ _, _, h => by cases h
  | .fld _ :: _, _, _, .dt _ _ _, _, h => by cases h
  | .fld _ :: _, _, _, .no _, _, h => by cases h
  | .fld _ :: _, _, _, .hl, _, h => by cases h
  | .fld _ :: _, _, _, .rd _, _, h => by cases h
  | .fld _ :: _, _, _, .ex _, _, h => by cases h
theorem Sl.takeK {tv : List (Option V)} {td : Env} {σ : L2.St} {ρ : Env} {A : List Addr} {i : Nat} {p : List PK} {t0 tc : T} (hl : tv.length = td.length) (s : Sl K F H (tv ++ σ) (td ++ ρ) A) (e0 : ρ[i]? = some (some t0)) (e1 : T.atK p t0 = some tc) :
    ∃ (v0 v : V) (Al B : List Addr) (tn : T), σ[i]? = some (some v0) ∧ LocK H v0 p v ∧ Rp K F H v tc Al ∧ (∀ b, A.count b = Al.count b + B.count b) ∧ T.putK? p (.no v) t0 = some tn ∧ Sl K F H (tv ++ σ) (td ++ ρ.set i (some tn)) B := by
  have hlen := s.len
  have hi : i < ρ.length := (List.getElem?_eq_some_iff.mp e0).1
  obtain ⟨B1, hb, ar, get⟩ := s.around (i := tv.length + i) (by rw [hlen, List.length_append]; omega)
  obtain ⟨v0, A0, e3, x, hc1⟩ := get t0 (by rw [app_at hl.symm, e0])
  rw [app_at rfl] at e3
  obtain ⟨v, Al, Bl, l, xl, hc2, pt⟩ := x.locK e1
  obtain ⟨tn, C3, q1, q2, q3⟩ := pt (.same (Same.refl H)) (fun _ _ => rfl) (t' := .no v) (A2 := []) (.no v)
  obtain ⟨C4, s4, q4⟩ := ar.put (.same (Same.refl H)) (fun _ _ => rfl) q2
  rw [app_set rfl, set_self e3, app_set hl.symm] at s4
  exact ⟨v0, v, Al, C4, tn, e3, l, xl, fun b => by have := q3 b; rw [List.count_nil] at this; rw [hc1 b, hc2 b, q4 b, this]; omega, q1, s4⟩
theorem Sl.putK {tv : List (Option V)} {td : Env} {σ : L2.St} {ρ : Env} {B : List Addr} {i : Nat} {p : List PK} {tn t' : T} {v : V} {A2 : List Addr} (hl : tv.length = td.length) (s : Sl K F H (tv ++ σ) (td ++ ρ) B) (e0 : ρ[i]? = some (some tn)) (e1 : T.atK p tn = some (.no v))
    (m : Mono F F' H H') (k : ∀ b ∈ B, H' b = H b) (x : Rp K F' H' v t' A2) : ∃ (C : List Addr) (t1 : T), T.putK? p t' tn = some t1 ∧ Sl K F' H' (tv ++ σ) (td ++ ρ.set i (some t1)) C ∧ ∀ b, C.count b = A2.count b + B.count b := by
  have hlen := s.len
  have hi : i < ρ.length := (List.getElem?_eq_some_iff.mp e0).1
  obtain ⟨B1, hb, ar, get⟩ := s.around (i := tv.length + i) (by rw [hlen, List.length_append]; omega)
  obtain ⟨v0, A0, e3, x0, hc1⟩ := get tn (by rw [app_at hl.symm, e0])
  rw [app_at rfl] at e3
  obtain ⟨v', Al, Bl, l, xl, hc2, pt⟩ := x0.locK e1
  cases xl
  obtain ⟨t1, C3, q1, q2, q3⟩ := pt m (fun b hb' => k b (List.count_pos_iff.mp (by have := List.count_pos_iff.mpr hb'; have := hc1 b; have := hc2 b; omega))) x
  obtain ⟨C4, s4, q4⟩ := ar.put m (fun b hb' => k b (List.count_pos_iff.mp (by have := List.count_pos_iff.mpr hb'; have := hc1 b; omega))) q2
  rw [app_set rfl, set_self e3, app_set hl.symm] at s4
  exact ⟨C4, t1, q1, s4, fun b => by have := hc2 b; rw [List.count_nil] at this; rw [q4 b, q3 b, hc1 b, this]; omega⟩
end
end L3
namespace L3
open PySem PyProof.Rows L2
section
variable {K : PySem.W.Frag} {c : C0} {H1 : Hp} {A A1 B : List Addr} {vs : List V} {ts : List T} {sl : List (Option V)} {rl : Env} {rz : Bool} {cl : Str → Option Addr} {n : Nat} {io : List Nat} {fm : List T → R (T × List T)}
end
inductive AK where
  | v (t : T) | pl (i : Nat) (p : List PK)
def AK.slot : AK → Option T
  | .v t => some t
  | .pl _ _ => none
def AK.isPl : AK → Bool
  | .v _ => false
  | .pl _ _ => true
abbrev MBK := Env → R (List AK × Env)
def SimBK (K : PySem.W.Frag) (E : Str → Hp → Prop) (pat : List Bool) (ta : TA) (m : MBK) : Prop :=
  ∀ (c : C0) (H : Hp) (tv : List (Option V)) (td : Env) (σ : L2.St) (ρ : Env), tv.length = td.length → StR K c H (tv ++ σ) (td ++ ρ) → ∀ Q : List V → Hp → Prop,
    Then (m ρ) (fun r => ∀ vs H', Same H H' → vs.length = r.1.length → r.1.map AK.isPl = pat → (∀ (j i : Nat) (p : List PK), r.1[j]? = some (.pl i p) → ∃ v0 v, vs[j]? = some v ∧ σ[i]? = some (some v0) ∧ LocK H' v0 p v) → StR K c H' (vs.map some ++ (tv ++ σ)) (r.1.map AK.slot ++ (td ++ r.2)) → Q vs H') (fun x => ∀ H', KeepC c H' → E x H') → ta σ H Q
structure QBK (X : Cx) (E : Str → Hp → Prop) (pat : List Bool) (es : List Expr) (ta : TA) (m : MBK) : Prop where
  pa : PA X es ta
  sim : SimBK X.K E pat ta m
section
variable {X : Cx} {E : Str → Hp → Prop} {e : Expr} {es : List Expr} {te : TE} {t : TA} {m : MEx} {r : MBK} {pat : List Bool} {pos : Pos}
end
inductive Holes : List (Nat × List PK × V) → Env → Env → Prop
  | nil {ρ : Env} : Holes [] ρ ρ
  | cons {i : Nat} {p : List PK} {v : V} {r : List (Nat × List PK × V)} {ρ ρn : Env} {t0 tn : T} : ρ[i]? = some (some t0) → T.putK? p (.no v) t0 = some tn → Holes r (ρ.set i (some tn)) ρn → i ∉ r.map Prod.fst → Holes ((i, p, v) :: r) ρ ρn
theorem Holes.get_ne : ∀ {r : List (Nat × List PK × V)} {ρ ρn : Env}, Holes r ρ ρn → ∀ {j : Nat}, j ∉ r.map Prod.fst → ρn[j]? = ρ[j]?
  | _, _, _, .nil, _, _ => rfl
  | _, _, _, .cons (i := i) _ _ h _, j, hj => by
    simp at hj
    rw [h.get_ne (by simpa using hj.2), List.getElem?_set_ne (fun z => hj.1 z.symm)]
theorem Holes.set : ∀ {r : List (Nat × List PK × V)} {ρ ρn : Env}, Holes r ρ ρn → ∀ {j : Nat} {o : Option T}, j ∉ r.map Prod.fst → Holes r (ρ.set j o) (ρn.set j o)
  | _, _, _, .nil, _, _, _ => .nil
  | _, _, _, .cons (i := i) e1 e2 h h', j, o, hj => by
    have hj' := hj
    simp at hj'
    have ne : i ≠ j := fun z => hj'.1 z.symm
    refine .cons (by rw [List.getElem?_set_ne (fun z => ne z.symm)]; exact e1) e2 ?_ h'
    rw [List.set_comm _ _ (fun z => ne z.symm)]
    exact h.set (by simpa using hj'.2)
def fillPk : List AK → Env → Option (List T)
  | [], _ => some []
  | .v t :: ks, ρ => (fillPk ks ρ).map fun r => t :: r
  | .pl i p :: ks, ρ => (atKo p ρ[i]?).bind fun t => (fillPk ks (ρ.set i none)).map fun r => t :: r
def putKs : List AK → List T → Env → Option Env
  | [], [], ρ => some ρ
  | .v _ :: ks, os, ρ => putKs ks os ρ
  | .pl i p :: ks, o :: os, ρ => (putAtK i p o ρ).bind (putKs ks os)
  | _, _, _ => none
def holesOf : List AK → List V → List (Nat × List PK × V)
  | [], _ => []
  | .v _ :: ks, vs => holesOf ks vs.tail
  | .pl i p :: ks, v :: vs => (i, p, v) :: holesOf ks vs
  | .pl _ _ :: ks, [] => holesOf ks []
theorem fillPk_set : ∀ {ks : List AK} {vs : List V} {ρ : Env} {i : Nat} {ts : List T} (o : Option T), vs.length = ks.length → fillPk ks (ρ.set i none) = some ts → fillPk ks (ρ.set i o) = some ts ∧ i ∉ (holesOf ks vs).map Prod.fst
  | [], vs, ρ, i, ts, o, _, h => ⟨h, by simp [holesOf]⟩
  | .v t :: ks, v :: vs, ρ, i, ts, o, hl, h => by
    obtain ⟨r, e, e2⟩ := Option.map_eq_some_iff.mp (show (fillPk ks _).map _ = some ts from h)
    obtain ⟨h1, h2⟩ := fillPk_set (vs := vs) o (by simpa using hl) e
    exact ⟨by show (fillPk ks _).map _ = _; rw [h1, ← e2]; rfl, h2⟩
  | .pl j p :: ks, v :: vs, ρ, i, ts, o, hl, h => by
    obtain ⟨t, e0, h⟩ := Option.bind_eq_some_iff.mp (show (atKo p (ρ.set i none)[j]?).bind _ = some ts from h)
    obtain ⟨r, e, e2⟩ := Option.map_eq_some_iff.mp h
    have ne : i ≠ j := fun z => by
      subst z
      obtain ⟨t0, e3, _⟩ := atKo_some e0
      have hlt : i < (ρ.set i none).length := (List.getElem?_eq_some_iff.mp e3).1
      rw [List.getElem?_set_self (by simpa using hlt)] at e3
      cases e3
    rw [List.set_comm _ _ ne] at e
    obtain ⟨h1, h2⟩ := fillPk_set (vs := vs) o (by simpa using hl) e
    refine ⟨?_, ?_⟩
    · show (atKo p (ρ.set i o)[j]?).bind _ = _
      rw [List.getElem?_set_ne ne] at e0 ⊢
      rw [e0]
      show (fillPk ks ((ρ.set i o).set j none)).map _ = _
      rw [List.set_comm _ _ ne, h1, ← e2]
      rfl
    · show i ∉ (((j, p, v) :: holesOf ks vs).map Prod.fst)
      simp only [List.map_cons, List.mem_cons]
      exact fun z => z.elim ne h2
theorem Sl.fillPk {K : PySem.W.Frag} {F : Addr → Prop} {H : Hp} {σ : L2.St} : ∀ {ks : List AK} {vs : List V} {ρ : Env} {ts : List T} {A : List Addr} {tv : List (Option V)} {td : Env}, tv.length = td.length → vs.length = ks.length → (∀ (j i : Nat) (p : List PK), ks[j]? = some (.pl i p) → ∃ v0 v, vs[j]? = some v ∧ σ[i]? = some (some v0) ∧ LocK H v0 p v) →
    L3.fillPk ks ρ = some ts → Sl K F H (vs.map some ++ (tv ++ σ)) (ks.map AK.slot ++ (td ++ ρ)) A → ∃ A1 B ρn, RpAll K F H vs ts A1 ∧ Sl K F H (tv ++ σ) (td ++ ρn) B ∧ (∀ a, A1.count a + B.count a = A.count a) ∧ Holes (holesOf ks vs) ρ ρn
  | [], [], ρ, ts, A, tv, td, _, _, _, e, s => by cases e; exact ⟨[], A, ρ, .nil, s, fun a => by simp, .nil⟩
  | .v t :: ks, v :: vs, ρ, ts, A, tv, td, hl, hvs, hk, e, s => by
    obtain ⟨r, e1, e2⟩ := Option.map_eq_some_iff.mp (show (L3.fillPk ks ρ).map _ = some ts from e)
    subst e2
    cases s with
    | cons x s =>
      obtain ⟨A1, B, ρn, h1, h2, h3, h4⟩ := Sl.fillPk hl (by simpa using hvs) (fun j i p z => hk (j + 1) i p (by simpa using z)) e1 s
      exact ⟨_, B, ρn, .cons x h1, h2, fun a => by have := h3 a; rw [List.count_append, List.count_append]; omega, h4⟩
  | .pl i p :: ks, v :: vs, ρ, ts, A, tv, td, hl, hvs, hk, e, s => by
    obtain ⟨t, e0, e⟩ := Option.bind_eq_some_iff.mp (show (atKo p ρ[i]?).bind _ = some ts from e)
    obtain ⟨r, e1, e2⟩ := Option.map_eq_some_iff.mp e
    subst e2
    obtain ⟨t0, e6, e7⟩ := atKo_some e0
    have hvs' : vs.length = ks.length := by simpa using hvs
    cases s with
    | skip s =>
      have s' : Sl K F H ((vs.map some ++ tv) ++ σ) ((ks.map AK.slot ++ td) ++ ρ) A := by simpa [List.append_assoc] using s
      obtain ⟨v0, v', Al, B0, tn, g1, g2, g3, g4, g5, g6⟩ := s'.takeK (i := i) (p := p) (by simp [hl, hvs']) e6 e7
      obtain ⟨w0, w, k1, k2, k3⟩ := hk 0 i p rfl
      have ev : v = w := by simpa using k1
      subst ev
      rw [g1] at k2; cases k2
      have := g2.uniq k3
      subst this
      obtain ⟨f1, f2⟩ := fillPk_set (vs := vs) (some tn) hvs' e1
      obtain ⟨A1, B, ρn, h1, h2, h3, h4⟩ := Sl.fillPk hl hvs' (fun j i p z => hk (j + 1) i p (by simpa using z)) f1 (by simpa [List.append_assoc] using g6)
      exact ⟨_, B, ρn, .cons g3 h1, h2, fun a => by have := h3 a; have := g4 a; rw [List.count_append]; omega, .cons e6 g5 h4 f2⟩
theorem Sl.putKs {K : PySem.W.Frag} {F : Addr → Prop} {H : Hp} {tv : List (Option V)} {td : Env} {σ : L2.St} (hl : tv.length = td.length) : ∀ {ks : List AK} {vs : List V} {os : List T} {ρ ρn ρ' : Env} {B C1 : List Addr}, vs.length = ks.length → Holes (holesOf ks vs) ρ ρn → Sl K F H (tv ++ σ) (td ++ ρn) B → RpAll K F H ((holesOf ks vs).map fun h => h.2.2) os C1 → L3.putKs ks os ρ = some ρ' →
    ∃ C2, Sl K F H (tv ++ σ) (td ++ ρ') C2 ∧ ∀ a, C2.count a = C1.count a + B.count a
  | [], _, os, ρ, ρn, ρ', B, C1, _, hh, s, r, e => by
    cases hh
    cases r
    cases e
    exact ⟨B, s, fun a => by simp⟩
  | .v t :: ks, v :: vs, os, ρ, ρn, ρ', B, C1, hvs, hh, s, r, e => Sl.putKs hl (vs := vs) (by simpa using hvs) hh s r e
  | .pl i p :: ks, v :: vs, os, ρ, ρn, ρ', B, C1, hvs, hh, s, r, e => by
    have hh : Holes ((i, p, v) :: holesOf ks vs) ρ ρn := hh
    have r : RpAll K F H (v :: (holesOf ks vs).map fun h => h.2.2) os C1 := r
    cases r with
    | @cons _ _ o os' A2 B2 x r2 =>
      obtain ⟨ρ1, e1, e⟩ := Option.bind_eq_some_iff.mp (show (putAtK i p o ρ).bind _ = some ρ' from e)
      cases hh with
      | @cons _ _ _ _ _ _ t0 tn g1 g2 g3 g4 =>
        have hi : i < ρ.length := (List.getElem?_eq_some_iff.mp g1).1
        have hn : ρn[i]? = some (some tn) := by rw [g3.get_ne g4, List.getElem?_set_self hi]
        obtain ⟨C, t1, q1, q2, q3⟩ := s.putK hl hn (atK_put g2) (.same (Same.refl H)) (fun _ _ => rfl) x
        have ep : putAtK i p o ρ = some (ρ.set i (some t1)) := by
          unfold putAtK
          rw [g1]
          show (T.putK? p o t0).map _ = _
          rw [← putK_put g2, q1]
          rfl
        rw [ep] at e1
        cases e1
        have g5 := g3.set (j := i) (o := some t1) g4
        rw [List.set_set] at g5
        obtain ⟨C2, z1, z2⟩ := Sl.putKs hl (vs := vs) (by simpa using hvs) g5 q2 r2 e
        exact ⟨C2, z1, fun a => by rw [z2 a, q3 a, List.count_append]; omega⟩
end L3
namespace L3
open PySem PyProof.Rows L2
section
variable {K : PySem.W.Frag} {cl : Str → Option Addr} {Ek : XK} {rz : Bool} {n : Nat} {fm : List T → R (T × List T)}
end
section
variable {X : Cx} {CX : CXT} {k : Nat} {f C : Addr} {fd : FuncData} {ps : List Str} {Ek : XK} {cl : Str → Option Addr} {x m : Str} {p pos apos : Pos} {o e : Expr} {es : List Expr} {ta : TE} {t : TA} {mb : MBK} {pat : List Bool} {io : List Nat} {fm : List T → R (T × List T)} {rz : Bool} {n : Nat} {i : Nat} {mp : MLK}
end
end L3
namespace L3
open PySem PyProof.Rows L2
section
variable {K : PySem.W.Frag}
end
section
variable {X : Cx} {E : Str → Hp → Prop} {o e : Expr} {es : List Expr} {to : TE} {t : TA} {name : Str} {apos cpos : Pos} {id : String} {rM : V → List V → Hp → VK → Prop} {op : List T → List T → Option (T × List T)}
end
section
variable {X : Cx} {a b : Expr} {ta tb : TE} {pos : Pos} {pr : Nat → Bool}
def kFldC (i : Nat) (mp : MLK) (x f : Str) : MLK := fun ρ => (mp ρ).bind fun p => match atKo p ρ[i]? with
  | some (.ob y _ _) => if y = x then some (p ++ [.fld f]) else none
  | _ => none
end
section
variable {X : Cx} {E : Str → Hp → Prop} {io : List Nat} {o value : Expr} {to tv' : TE} {pos pos' : Pos}
end
theorem RpAll.erase {K : PySem.W.Frag} {F : Addr → Prop} {H : Hp} : ∀ {vs : List V} {ts : List T} {A : List Addr}, RpAll K F H vs ts A → ∀ {n : Nat} {t : T}, ts[n]? = some t → ∃ v B C, vs[n]? = some v ∧ Rp K F H v t B ∧ RpAll K F H (vs.eraseIdx n) (ts.eraseIdx n) C ∧ ∀ a, A.count a = B.count a + C.count a
  | _, _, _, .nil, _, _, h => by simp at h
  | v0 :: vs, t0 :: ts, _, .cons x r, 0, t, h => by
    have h' : t0 = t := by simpa using h
    subst h'
    exact ⟨_, _, _, rfl, x, r, fun a => by rw [List.count_append]⟩
  | _, _, _, .cons x r, n + 1, t, h => by
    obtain ⟨v, B, C, e1, e2, e3, e4⟩ := r.erase (n := n) (by simpa using h)
    exact ⟨v, B, _, by simpa using e1, e2, by simpa using RpAll.cons x e3, fun a => by rw [List.count_append, List.count_append, e4 a]; omega⟩
def popO (i : Nat) (p : List PK) (k : Key) (ρ : Env) (miss : R (T × Env)) : R (T × Env) := match atKo p ρ[i]? with
  | some (.od ks ts) => (match kAt ks k with
    | some n => (ofO ts[n]?).bind fun t => (ofO (putAtK i p (.od (ks.eraseIdx n) (ts.eraseIdx n)) ρ)).bind fun ρ' => .ok (t, ρ')
    | none => miss)
  | _ => .bad
def mPop1 (i : Nat) (mp : MLK) (mk : MP) : MEx := fun ρ => (ofO (mp ρ)).bind fun p => (ofO ((mk ρ).bind T.key)).bind fun k => popO i p k ρ .bad
def mPop2 (i : Nat) (mp : MLK) (mk : MP) (md : MP) : MEx := fun ρ => (ofO (mp ρ)).bind fun p => (ofO ((mk ρ).bind T.key)).bind fun k => (ofO (md ρ)).bind fun d => match d with
  | .d x => popO i p k ρ (.ok (.d x, ρ))
  | _ => .bad
section
variable {K : PySem.W.Frag}
end
section
variable {X : Cx} {E : Str → Hp → Prop} {o e f : Expr} {td' ty tx : TE} {apos cpos : Pos} {i : Nat} {mp : MLK} {mk md : MP}
end
end L3
namespace L3
open PySem PyProof.Rows L2
section
variable {X : Cx} {E : Str → Hp → Prop} {o e f : Expr} {td' ty tx : TE} {apos cpos pos : Pos} {ma mk md : MP}
def mDispE : MEx := fun ρ => .ok (.od [] [], ρ)
theorem qe_dispE : QE X E true (.Dict [] [] pos) tDNewK mDispE := ⟨pe_dnewK, fun c H tv td σ ρ hl st Q q p hp => q (.ref p) _ (fun _ => same_upd hp) (st.push_od hp)⟩
end
section
variable {X : Cx} {E : Str → Hp → Prop} {x : Str} {p pos : Pos} {id : String} {rr : List V → Hp → VK → Prop} {op : List T → R RV} {e : Expr} {es : List Expr} {t : TA}
end
end L3
namespace L3
open PySem PyProof.Rows L2
instance : DecidableEq PK := fun a b => match a, b with
  | .ix i, .ix j => if h : i = j then .isTrue (by rw [h]) else .isFalse fun z => h (by injection z)
  | .key i, .key j => if h : i = j then .isTrue (by rw [h]) else .isFalse fun z => h (by injection z)
  | .fld i, .fld j => if h : i = j then .isTrue (by rw [h]) else .isFalse fun z => h (by injection z)
  | .ix _, .key _ => .isFalse nofun
  | .ix _, .fld _ => .isFalse nofun
  | .key _, .ix _ => .isFalse nofun
  | .key _, .fld _ => .isFalse nofun
  | .fld _, .ix _ => .isFalse nofun
  | .fld _, .key _ => .isFalse nofun
mutual
def T.noFd : T → Bool
  | .d _ => true
  | .ol ts => T.noFdA ts
  | .ot ts => T.noFdA ts
  | .od _ ts => T.noFdA ts
  | .fd _ _ _ => false
  | .fk _ _ _ => false
  | .dt _ _ _ => true
  | .no _ => true
  | .hl => true
  | .rd _ => true
  | .ex _ => true
  | .ob _ _ ts => T.noFdA ts
def T.noFdA : List T → Bool
  | [] => true
  | t :: r => t.noFd && T.noFdA r
end
mutual
inductive Avd (a : Addr) : T → Prop
  | d (x : PyData) : Avd a (.d x)
  | ol {ts : List T} : AvdA a ts → Avd a (.ol ts)
  | ot {ts : List T} : AvdA a ts → Avd a (.ot ts)
  | od {ks : List Key} {ts : List T} : AvdA a ts → Avd a (.od ks ts)
  | fd {b : Addr} {ks : List Key} {ts : List T} : b ≠ a → AvdA a ts → Avd a (.fd b ks ts)
  | fk {b : Addr} {o : Obj} {kvs : List (Key × V)} : b ≠ a → Avd a (.fk b o kvs)
  | dt (en : List Key × Addr × Value → DictEntry) (ks : List (List Key)) (ds : List PyData) : Avd a (.dt en ks ds)
  | no (v : V) : Avd a (.no v)
  | hl : Avd a .hl
  | rd (xs : List PyData) : Avd a (.rd xs)
  | ex (x : Str) : Avd a (.ex x)
  | ob {x : Str} {fs : List Str} {ts : List T} : AvdA a ts → Avd a (.ob x fs ts)
inductive AvdA (a : Addr) : List T → Prop
  | nil : AvdA a []
  | cons {t : T} {ts : List T} : Avd a t → AvdA a ts → AvdA a (t :: ts)
end
def AvdE (a : Addr) (ρ : Env) : Prop := ∀ t, some t ∈ ρ → Avd a t
mutual
theorem T.noFd_avd (a : Addr) : ∀ (t : T), t.noFd = true → Avd a t
  | .d x, _ => .d x
  | .ol ts, h => .ol (T.noFdA_avd a ts (by simpa [T.noFd] using h))
  | .ot ts, h => .ot (T.noFdA_avd a ts (by simpa [T.noFd] using h))
  | .od _ ts, h => .od (T.noFdA_avd a ts (by simpa [T.noFd] using h))
  | .fd _ _ _, h => by simp [T.noFd] at h
  | .fk _ _ _, h => by simp [T.noFd] at h
  | .dt en ks ds, _ => .dt en ks ds
  | .no v, _ => .no v
  | .hl, _ => .hl
  | .rd x, _ => .rd x
  | .ex x, _ => .ex x
  | .ob _ _ ts, h => .ob (T.noFdA_avd a ts (by simpa [T.noFd] using h))
theorem T.noFdA_avd (a : Addr) : ∀ (ts : List T), T.noFdA ts = true → AvdA a ts
  | [], _ => .nil
  | t :: r, h => by
    simp only [T.noFdA, Bool.and_eq_true] at h
    exact .cons (T.noFd_avd a t h.1) (T.noFdA_avd a r h.2)
end
section
variable {K : PySem.W.Frag} {F F' : Addr → Prop} {H : Hp} {a : Addr}
mutual
theorem Rp.avd (h0 : ∀ o kvs, H a ≠ some (.frz o (.dK kvs))) : ∀ {v : V} {t : T} {A : List Addr}, Rp K F H v t A → Avd a t
  | _, _, _, .d _ => .d _
  | _, _, _, .ol _ r => .ol (RpAll.avd h0 r)
  | _, _, _, .ot _ r => .ot (RpAll.avd h0 r)
  | _, _, _, .od _ _ _ r => .od (RpAll.avd h0 r)
  | _, _, _, .fd h _ _ r => .fd (fun e => h0 _ _ (by rw [← e]; exact h)) (RpAll.avd h0 r)
  | _, _, _, .fk h => .fk (fun e => h0 _ _ (by rw [← e]; exact h))
  | _, _, _, .dt _ _ _ _ _ _ => .dt _ _ _
  | _, _, _, .no v => .no v
  | _, _, _, .hl v => .hl
  | _, _, _, .rd _ _ => .rd _
  | _, _, _, .ob _ _ _ r => .ob (RpAll.avd h0 r)
  | _, _, _, .ex _ _ _ => .ex _
theorem RpAll.avd (h0 : ∀ o kvs, H a ≠ some (.frz o (.dK kvs))) : ∀ {vs : List V} {ts : List T} {A : List Addr}, RpAll K F H vs ts A → AvdA a ts
  | _, _, _, .nil => .nil
  | _, _, _, .cons x r => .cons (Rp.avd h0 x) (RpAll.avd h0 r)
end
theorem Sl.avd (h0 : ∀ o kvs, H a ≠ some (.frz o (.dK kvs))) : ∀ {sl : List (Option V)} {ρ : Env} {A : List Addr}, Sl K F H sl ρ A → AvdE a ρ
  | _, _, _, .nil => fun t ht => by simp at ht
  | _, _, _, .skip r => fun t ht => by
    rcases List.mem_cons.mp ht with e | e
    · cases e
    · exact Sl.avd h0 r t e
  | _, _, _, .cons x r => fun t ht => by
    rcases List.mem_cons.mp ht with e | e
    · cases e; exact x.avd h0
    · exact Sl.avd h0 r t e
section
variable {o : Obj} {kvs : List (Key × V)} (ha : H a = some (.frz o (.dK kvs))) (hF : ∀ b, b ≠ a → F b → F' b)
include ha hF
mutual
theorem Fz.unl : ∀ {v : V} {x : PyData}, Fz K F H v x → Fz K F' (upd H a (.dK kvs)) v x
  | _, _, .non => .non
  | _, _, .bl b => .bl b
  | _, _, .int i => .int i
  | _, _, .str x => .str x
  | _, _, .lst (a := b) h f r => by
    have ne : b ≠ a := fun e => by rw [e, ha] at h; cases h
    exact .lst (by rw [upd_ne ne]; exact h) (hF b ne f) (FzAll.unl r)
  | _, _, .edc (a := b) h f => by
    have ne : b ≠ a := fun e => by rw [e, ha] at h; cases h
    exact .edc (by rw [upd_ne ne]; exact h) (hF b ne f)
  | _, _, .tup (a := b) h r => by
    refine .tup ?_ (FzAll.unl r)
    rcases h with (h | ⟨o', h⟩) | h
    · have ne : b ≠ a := fun e => by rw [e, ha] at h; cases h
      exact .inl (.inl (by rw [upd_ne ne]; exact h))
    · have ne : b ≠ a := fun e => by rw [e, ha] at h; cases h
      exact .inl (.inr ⟨o', by rw [upd_ne ne]; exact h⟩)
    · exact .inr h
theorem FzAll.unl : ∀ {vs : List V} {xs : List PyData}, FzAll K F H vs xs → FzAll K F' (upd H a (.dK kvs)) vs xs
  | _, _, .nil => .nil
  | _, _, .cons x r => .cons (Fz.unl x) (FzAll.unl r)
end
theorem sqT_unl {b : Addr} {vs : List V} (h : SqT K H b vs) : SqT K (upd H a (.dK kvs)) b vs := by
  rcases h with (h | ⟨o', h⟩) | h
  · have ne : b ≠ a := fun e => by rw [e, ha] at h; cases h
    exact .inl (.inl (by rw [upd_ne ne]; exact h))
  · have ne : b ≠ a := fun e => by rw [e, ha] at h; cases h
    exact .inl (.inr ⟨o', by rw [upd_ne ne]; exact h⟩)
  · exact .inr h
theorem RdL.unl {b : Addr} {vs : List V} (h : RdL K H b vs) : RdL K (upd H a (.dK kvs)) b vs := by
  rcases h with ⟨o', h⟩ | h
  · have ne : b ≠ a := fun e => by rw [e, ha] at h; cases h
    exact .inl ⟨o', by rw [upd_ne ne]; exact h⟩
  · exact .inr h
mutual
theorem Rp.unl : ∀ {v : V} {t : T} {A : List Addr}, Rp K F H v t A → Avd a t → Rp K F' (upd H a (.dK kvs)) v t A
  | _, _, _, .d h, _ => .d (h.unl ha hF)
  | _, _, _, .ol (a := b) h r, v => by
    cases v with
    | ol v =>
      have ne : b ≠ a := fun e => by rw [e, ha] at h; cases h
      exact .ol (by rw [upd_ne ne]; exact h) (RpAll.unl r v)
  | _, _, _, .ot (a := b) h r, v => by
    cases v with
    | ot v =>
      have ne : b ≠ a := fun e => by rw [e, ha] at h; cases h
      exact .ot (by rw [upd_ne ne]; exact h) (RpAll.unl r v)
  | _, _, _, .od (a := b) h e d r, v => by
    cases v with
    | od v =>
      have ne : b ≠ a := fun e => by rw [e, ha] at h; cases h
      exact .od (by rw [upd_ne ne]; exact h) e d (RpAll.unl r v)
  | _, _, _, .fd (a := b) h e d r, v => by
    cases v with
    | fd ne v => exact .fd (by rw [upd_ne ne]; exact h) e d (RpAll.unl r v)
  | _, _, _, .fk (a := b) h, v => by
    cases v with
    | fk ne => exact .fk (by rw [upd_ne ne]; exact h)
  | _, _, _, .dt (a := b) h e n k v r, _ => by
    have ne : b ≠ a := fun e => by rw [e, ha] at h; cases h
    exact .dt (by rw [upd_ne ne]; exact h) e n (fun x hx => sqT_unl ha hF (k x hx)) v (r.unl ha hF)
  | _, _, _, .no v, _ => .no v
  | _, _, _, .hl v, _ => .hl v
  | _, _, _, .rd h r, _ => .rd (h.unl ha hF) (r.unl ha hF)
  | _, _, _, .ob (a := b) h c e r, v => by
    cases v with
    | ob v =>
      have ne : b ≠ a := fun e => by rw [e, ha] at h; cases h
      exact .ob (by rw [upd_ne ne]; exact h) c e (RpAll.unl r v)
  | _, _, _, .ex (a := b) h c e, _ => by
    have ne : b ≠ a := fun e => by rw [e, ha] at h; cases h
    exact .ex (by rw [upd_ne ne]; exact h) c e
theorem RpAll.unl : ∀ {vs : List V} {ts : List T} {A : List Addr}, RpAll K F H vs ts A → AvdA a ts → RpAll K F' (upd H a (.dK kvs)) vs ts A
  | _, _, _, .nil, _ => .nil
  | _, _, _, .cons x r, v => by
    cases v with
    | cons v1 v2 => exact .cons (Rp.unl x v1) (RpAll.unl r v2)
end
theorem Sl.unl : ∀ {sl : List (Option V)} {ρ : Env} {A : List Addr}, Sl K F H sl ρ A → AvdE a ρ → Sl K F' (upd H a (.dK kvs)) sl ρ A
  | _, _, _, .nil, _ => .nil
  | _, _, _, .skip r, v => .skip (Sl.unl r fun t ht => v t (List.mem_cons_of_mem _ ht))
  | _, _, _, .cons x r, v => .cons (x.unl ha hF (v _ List.mem_cons_self)) (Sl.unl r fun t ht => v t (List.mem_cons_of_mem _ ht))
end
end
section
variable {K : PySem.W.Frag} {c : C0}
end
section
variable {X : Cx} {E : Str → Hp → Prop} {io : List Nat} {pos : Pos}
end
end L3
namespace L3
open PySem PySem.Spec PyProof.Rows L2
section
variable {X : Cx} {E : Str → Hp → Prop} {x : Str} {p pos : Pos} {rr : List V → Hp → VK → Prop} {op : List T → R RV} {e : Expr} {es : List Expr} {t : TA}
end
end L3
namespace L2
open PySem PySem.Spec PyProof.Rows
end L2
namespace L3
open PySem PySem.Spec PyProof.Rows L2
def errAt (a : Addr) (b : Bool) : T → Option PyData
  | .no (.ref x) => if x = a then some (.bool b) else none
  | _ => none
@[simp] theorem errAt_at {a : Addr} {b : Bool} : errAt a b (.no (.ref a)) = some (.bool b) := by
  show (if a = a then _ else _) = _
  rw [if_pos rfl]
section
variable {X : Cx} {E : Str → Hp → Prop} {e : Expr} {te : TE} {ma : MP} {p p2 pos : Pos} {y : Str} {C D a : Addr} {n : String} {Cs : List Addr} {oe : Obj} {pn : List (Addr × Obj)} {b : Bool}
end
section
variable {X : Cx} {x n z : Str} {C D : Addr} {i j : Nat} {b₀ : Stmt} {body suite : List Stmt} {np pos pos' : Pos} {mb : MS} {t : T} {mh : Addr → MS} {E : Str → Hp → Prop}
end
end L3
namespace L3
open PySem PySem.Spec PyProof.Rows L2
section
variable {X : Cx} {E : Str → Hp → Prop} {a b : Expr} {ta tb : TE} {ma mb : MEx} {g g2 : Bool} {p p2 pos pos2 : Pos}
end
end L3
namespace L3
open PySem PySem.Spec PyProof.Rows L2
section
variable {X : Cx} {E : Str → Hp → Prop} {tg a b : Expr} {ta tb : TE} {ma mb : MEx} {g g2 : Bool} {p p2 pos pos2 : Pos}
end
end L3
namespace L3
open PySem PySem.Spec PyProof.Rows L2 RT
end L3
namespace Sr
open PySem PySem.Spec PyProof.Rows L2 L3
@[irreducible] noncomputable def m__law_draw : List T → R (T × List T) := mFn [0] 3 (
    mSeq (mAsg (mLift (pBin opMod (pBin opIdx (pVar 0) (pC (.int 2))) (pCallB opLen (pCons (pBin opIdx (pVar 0) (pC (.int 0))) (pNil))))) (mgName 2)) <|
    mSeq (mAsg (mLift (pBin opAdd (pBin opIdx (pVar 0) (pC (.int 2))) (pC (.int 1)))) (mgItem 0 (lHere) (pC (.int 2)))) <|
    mSeq (mIfS (mTest (mLift (pBin opEq (pBin opIdx (pVar 0) (pC (.int 1))) (pC (.int 0))))) (mSeq (mAsg (mLift (pBin opMod (pBin opIdx (pBin opIdx (pVar 0) (pC (.int 0))) (pVar 2)) (pVar 1))) (mgName 4)) <|
    mSeq (mAsg (mLift (pBin opFdiv (pBin opIdx (pBin opIdx (pVar 0) (pC (.int 0))) (pVar 2)) (pVar 1))) (mgItem 0 (lIx (lHere) (pC (.int 0))) (pVar 2))) <|
    mRet (mVar 4)) (mNext)) <|
    mSeq (mAsg (mLift (pBin opMod (pBin opAdd (pBin opMulI (pBin opMod (pBin opIdx (pBin opIdx (pVar 0) (pC (.int 0))) (pVar 2)) (pC (.int 1000000021))) (pC (.int 6563))) (pBin opMulI (pBin opIdx (pVar 0) (pC (.int 2))) (pC (.int 130363)))) (pC (.int 1000000033)))) (mgName 3)) <|
    mSeq (mAsg (mLift (pBin opMod (pBin opMulI (pVar 3) (pVar 3)) (pC (.int 469762049)))) (mgName 3)) <|
    mRet (mLift (pBin opMod (pBin opFdiv (pBin opMod (pBin opAdd (pBin opMulI (pVar 3) (pC (.int 29443))) (pBin opIdx (pVar 0) (pC (.int 2)))) (pC (.int 167772161))) (pC (.int 3))) (pVar 1))))
@[irreducible] noncomputable def m__law_divisor : List T → R (T × List T) := mFn [] 0 (
    mSeq (mWhile (mTest (mLift (pBin opNe (pVar 1) (pC (.int 0))))) (mPar 0 1 (mCons (mVar 1) (mCons (mLift (pBin opMod (pVar 0) (pVar 1))) (mNil))))) <|
    mRet (mLift (pCallB opAbs (pCons (pVar 0) (pNil)))))
@[irreducible] noncomputable def m__law_low : List T → R (T × List T) := mFn [] 1 (
    mSeq (mAsg (mCallF false false 2 m__law_divisor [none, none] (mbCons (mVar 0) (mbCons (mVar 1) (mbNil)))) (mgName 2)) <|
    mSeq (mIfS (mTest (mLift (pBin opLt (pVar 1) (pC (.int 0))))) (mAsg (mLift (pBin opSub (pC (.int 0)) (pVar 2))) (mgName 2)) (mNext)) <|
    mRet (mTup (mCons (mLift (pBin opFdiv (pVar 0) (pVar 2))) (mCons (mLift (pBin opFdiv (pVar 1) (pVar 2))) (mNil)))))
@[irreducible] noncomputable def m__law_far : List T → R (T × List T) := mFn [0] 2 (
    mSeq (mAsg (mLift (pC (.int 0))) (mgName 1)) <|
    mSeq (mFor (miR1 (mCons (mLift (pC (.int 3))) (mNil))) (mgName 2) (mAsg (mBin opAdd (mBin opAdd (mLift (pBin opMulI (pVar 1) (pBin opPow (pC (.int 10)) (pC (.int 12))))) (mBin opMulI (mCallF false false 2 m__law_draw [some 0, none] (mbIo 0 (mbCons (mLift (pBin opPow (pC (.int 10)) (pC (.int 6)))) (mbNil)))) (mLift (pBin opPow (pC (.int 10)) (pC (.int 6)))))) (mCallF false false 2 m__law_draw [some 0, none] (mbIo 0 (mbCons (mLift (pBin opPow (pC (.int 10)) (pC (.int 6)))) (mbNil))))) (mgName 1))) <|
    mRet (mBin opMulI (mVar 1) (mBin opIdx (mLst (mCons (mLift (pC (.int 1))) (mCons (mLift (pUn opNeg (pC (.int 1)))) (mNil)))) (mCallF false false 2 m__law_draw [some 0, none] (mbIo 0 (mbCons (mLift (pC (.int 2))) (mbNil)))))))
@[irreducible] noncomputable def m__law_whole : List T → R (T × List T) := mFn [0] 1 (
    mSeq (mAsg (mBin opIdx (mLst (mCons (mCallF false false 1 m__law_far [some 0] (mbIo 0 (mbNil))) (mCons (mBin opSub (mLift (pBin opSub (pBin opPow (pC (.int 10)) (pC (.int 40))) (pC (.int 1)))) (mCallF false false 2 m__law_draw [some 0, none] (mbIo 0 (mbCons (mLift (pC (.int 9))) (mbNil))))) (mCons (mLift (pBin opSub (pC (.int 1)) (pBin opPow (pC (.int 10)) (pC (.int 40))))) (mNil))))) (mCallF false false 2 m__law_draw [some 0, none] (mbIo 0 (mbCons (mLift (pC (.int 3))) (mbNil))))) (mgName 1)) <|
    mRet (mBin opIdx (mLst (mCons (mBin opSub (mCallF false false 2 m__law_draw [some 0, none] (mbIo 0 (mbCons (mLift (pC (.int 5))) (mbNil)))) (mLift (pC (.int 2)))) (mCons (mBin opSub (mCallF false false 2 m__law_draw [some 0, none] (mbIo 0 (mbCons (mLift (pC (.int 61))) (mbNil)))) (mLift (pC (.int 30)))) (mCons (mVar 1) (mNil))))) (mBin opIdx (mLst (mCons (mLift (pC (.int 0))) (mCons (mLift (pC (.int 1))) (mCons (mLift (pC (.int 1))) (mCons (mLift (pC (.int 2))) (mNil)))))) (mCallF false false 2 m__law_draw [some 0, none] (mbIo 0 (mbCons (mLift (pC (.int 4))) (mbNil)))))))
@[irreducible] noncomputable def m__law_fraction : List T → R (T × List T) := mFn [0] 2 (
    mSeq (mAsg (mBin opIdx (mLst (mCons (mBin opAdd (mLift (pC (.int 1))) (mCallB opAbs (mCons (mCallF false false 1 m__law_far [some 0] (mbIo 0 (mbNil))) (mNil)))) (mCons (mBin opSub (mLift (pBin opSub (pBin opPow (pC (.int 10)) (pC (.int 40))) (pC (.int 1)))) (mCallF false false 2 m__law_draw [some 0, none] (mbIo 0 (mbCons (mLift (pC (.int 9))) (mbNil))))) (mNil)))) (mCallB opInt1 (mCons (mBin opEq (mCallF false false 2 m__law_draw [some 0, none] (mbIo 0 (mbCons (mLift (pC (.int 4))) (mbNil)))) (mLift (pC (.int 3)))) (mNil)))) (mgName 1)) <|
    mSeq (mAsg (mBin opIdx (mLst (mCons (mLift (pC (.int 1))) (mCons (mBin opAdd (mLift (pC (.int 1))) (mCallF false false 2 m__law_draw [some 0, none] (mbIo 0 (mbCons (mLift (pC (.int 12))) (mbNil))))) (mCons (mVar 1) (mNil))))) (mBin opIdx (mLst (mCons (mLift (pC (.int 0))) (mCons (mLift (pC (.int 0))) (mCons (mLift (pC (.int 1))) (mCons (mLift (pC (.int 2))) (mNil)))))) (mCallF false false 2 m__law_draw [some 0, none] (mbIo 0 (mbCons (mLift (pC (.int 4))) (mbNil)))))) (mgName 2)) <|
    mRet (mCallF false false 2 m__law_low [none, none] (mbCons (mCallF false false 1 m__law_whole [some 0] (mbIo 0 (mbNil))) (mbCons (mVar 2) (mbNil)))))
@[irreducible] noncomputable def m__law_cell_at : List T → R (T × List T) := mFn [] 0 (
    mSeq (mIfS (mTest (mLift (pBin opLt (pVar 1) (pCallB opLen (pCons (pVar 0) (pNil)))))) (mRet (mLift (pBin opIdx (pVar 0) (pVar 1)))) (mNext)) <|
    mRet (mLift (pC (.int 0))))
@[irreducible] noncomputable def m__law_mixed_3 : List T → R (T × List T) := mFn [] 1 (
    mSeq (mIfS (mTest (mLift (pBin opGe (pVar 0) (pBin opPow (pC (.int 10)) (pC (.int 18)))))) (mRet (mVar 0)) (mNext)) <|
    mSeq (mAsg (mLift (pBin opMod (pBin opAdd (pBin opAdd (pBin opAdd (pBin opMulI (pVar 0) (pC (.int 48271))) (pBin opMulI (pBin opMulI (pC (.int 7919)) (pVar 1)) (pVar 1))) (pBin opMulI (pC (.int 104729)) (pVar 1))) (pC (.int 17))) (pC (.int 2147483647)))) (mgName 2)) <|
    mSeq (mAsg (mLift (pBin opMod (pBin opMulI (pVar 2) (pVar 2)) (pC (.int 2147483629)))) (mgName 2)) <|
    mRet (mLift (pBin opAdd (pBin opAdd (pBin opMulI (pBin opMulI (pVar 2) (pVar 2)) (pVar 2)) (pBin opMulI (pC (.int 1000003)) (pVar 2))) (pVar 1))))
@[irreducible] noncomputable def m__law_fraction_6 : List T → R (T × List T) := mFn [] 2 (
    mSeq (mAsg (mLift (pCallB opMax2 (pCons (pVar 0) (pCons (pBin opSub (pC (.int 0)) (pVar 0)) (pNil))))) (mgName 2)) <|
    mSeq (mAsg (mVar 1) (mgName 3)) <|
    mSeq (mWhile (mTest (mLift (pBin opGt (pVar 2) (pC (.int 0))))) (mPar 2 3 (mCons (mLift (pBin opMod (pVar 3) (pVar 2))) (mCons (mVar 2) (mNil))))) <|
    mRet (mTup (mCons (mLift (pBin opFdiv (pVar 0) (pVar 3))) (mCons (mLift (pBin opFdiv (pVar 1) (pVar 3))) (mNil)))))
@[irreducible] noncomputable def m__law_shares : List T → R (T × List T) := mFn [] 2 (
    mSeq (mAsg (mLst (mNil)) (mgName 2)) <|
    mSeq (mFor (miR1 (mCons (mVar 1) (mNil))) (mgName 3) (mSeq (mDrop (mMeth 2 (lHere) opAppend (mCons (mBin opIdx (mLst (mCons (mTup (mCons (mLift (pC (.int 0))) (mCons (mLift (pC (.int 1))) (mNil)))) (mCons (mTup (mCons (mLift (pC (.int 1))) (mCons (mLift (pC (.int 1))) (mNil)))) (mCons (mTup (mCons (mLift (pUn opNeg (pC (.int 1)))) (mCons (mLift (pC (.int 1))) (mNil)))) (mCons (mTup (mCons (mLift (pC (.int 2))) (mCons (mLift (pC (.int 1))) (mNil)))) (mCons (mTup (mCons (mLift (pUn opNeg (pC (.int 1)))) (mCons (mLift (pC (.int 2))) (mNil)))) (mNil))))))) (mLift (pBin opMod (pVar 0) (pC (.int 5))))) (mNil)))) <|
    mAsg (mLift (pBin opFdiv (pVar 0) (pC (.int 5)))) (mgName 0))) <|
    mRet (mTup (mCons (mVar 2) (mCons (mVar 0) (mNil)))))
@[irreducible] noncomputable def m__law_order_2 : List T → R (T × List T) := mFn [] 3 (
    mSeq (mAsg (mLst (mNil)) (mgName 2)) <|
    mSeq (mFor (miL (mFz (mBin opAdd (mFz (mLc (miR1 (mCons (mLift (pCallB opLen (pCons (pBin opIdx (pVar 0) (pC (.int 0))) (pNil)))) (mNil))) (mgName 4) (mtYes) (mTup (mCons (mLift (pC (.str "size"))) (mCons (mVar 4) (mNil)))) [4])) (mFz (mLc (miR1 (mCons (mLift (pCallB opLen (pCons (pBin opIdx (pVar 0) (pC (.int 1))) (pNil)))) (mNil))) (mgName 4) (mtYes) (mTup (mCons (mLift (pC (.str "shim"))) (mCons (mVar 4) (mNil)))) [4]))))) (mgName 3) (mSeq (mDrop (mMeth 2 (lHere) opInsert (mCons (mLift (pBin opMod (pVar 1) (pBin opAdd (pCallB opLen (pCons (pVar 2) (pNil))) (pC (.int 1))))) (mCons (mVar 3) (mNil))))) <|
    mAsg (mLift (pBin opFdiv (pVar 1) (pC (.int 7)))) (mgName 1))) <|
    mRet (mVar 2))
@[irreducible] noncomputable def m__law_copy_2 : List T → R (T × List T) := mFn [] 6 (
    mSeq (mAsg (mVar 0) (mgTup 3 (mgCons (mgName 1) (mgCons (mgName 2) (mgCons (mgName 3) (mgNil)))))) <|
    mRet (mTup (mCons (mFz (mCallB opListOf (mCons (mVar 1) (mNil)))) (mCons (mFz (mCallB opListOf (mCons (mVar 2) (mNil)))) (mCons (mFz (mLc (miL (mVar 3)) (mgTup 3 (mgCons (mgName 4) (mgCons (mgName 5) (mgCons (mgName 6) (mgNil))))) (mtYes) (mTup (mCons (mFz (mCallB opListOf (mCons (mVar 4) (mNil)))) (mCons (mFz (mCallB opListOf (mCons (mVar 5) (mNil)))) (mCons (mVar 6) (mNil))))) [4, 5, 6])) (mNil))))))
@[irreducible] noncomputable def m__law_plus_5 : List T → R (T × List T) := mFn [] 0 (
    mRet (mCallF false false 2 m__law_fraction_6 [none, none] (mbCons (mLift (pBin opAdd (pBin opMulI (pBin opIdx (pVar 0) (pC (.int 0))) (pBin opIdx (pVar 1) (pC (.int 1)))) (pBin opMulI (pBin opIdx (pVar 1) (pC (.int 0))) (pBin opIdx (pVar 0) (pC (.int 1)))))) (mbCons (mLift (pBin opMulI (pBin opIdx (pVar 0) (pC (.int 1))) (pBin opIdx (pVar 1) (pC (.int 1))))) (mbNil)))))
@[irreducible] noncomputable def m__law_bounds_6 : List T → R (T × List T) := mFn [] 1 (
    mSeq (mAsg (mCallF false false 2 m__law_fraction_6 [none, none] (mbCons (mLift (pBin opSub (pBin opMod (pVar 0) (pC (.int 9))) (pC (.int 4)))) (mbCons (mLift (pBin opAdd (pC (.int 1)) (pBin opMod (pBin opFdiv (pVar 0) (pC (.int 9))) (pC (.int 3))))) (mbNil)))) (mgName 1)) <|
    mRet (mTup (mCons (mVar 1) (mCons (mCallF false false 2 m__law_plus_5 [none, none] (mbCons (mVar 1) (mbCons (mCallF false false 2 m__law_fraction_6 [none, none] (mbCons (mLift (pBin opMod (pBin opFdiv (pVar 0) (pC (.int 27))) (pC (.int 7)))) (mbCons (mLift (pBin opAdd (pC (.int 1)) (pBin opMod (pBin opFdiv (pVar 0) (pC (.int 189))) (pC (.int 2))))) (mbNil)))) (mbNil)))) (mNil)))))
@[irreducible] noncomputable def m__law_plan_9 : List T → R (T × List T) := mFn [] 8 (
    mSeq (mAsg (mCallF false false 2 m__law_cell_at [none, none] (mbCons (mRd 0) (mbCons (mLift (pC (.int 0))) (mbNil)))) (mgName 1)) <|
    mSeq (mThenFz 2 (mAsg (mLc (miR1 (mCons (mLift (pBin opAdd (pC (.int 1)) (pBin opMod (pVar 1) (pC (.int 3))))) (mNil))) (mgName 5) (mtYes) (mCallF false false 1 m__law_bounds_6 [none] (mbCons (mCallF false false 2 m__law_mixed_3 [none, none] (mbCons (mCallF false false 2 m__law_cell_at [none, none] (mbCons (mRd 0) (mbCons (mLift (pBin opAdd (pC (.int 1)) (pVar 5))) (mbNil)))) (mbCons (mVar 5) (mbNil)))) (mbNil))) [5]) (mgName 2))) <|
    mSeq (mThenFz 3 (mAsg (mLc (miR1 (mCons (mLift (pBin opMod (pBin opFdiv (pVar 1) (pC (.int 3))) (pC (.int 3)))) (mNil))) (mgName 5) (mtYes) (mCallF false false 1 m__law_bounds_6 [none] (mbCons (mCallF false false 2 m__law_mixed_3 [none, none] (mbCons (mCallF false false 2 m__law_cell_at [none, none] (mbCons (mRd 0) (mbCons (mLift (pBin opAdd (pC (.int 4)) (pVar 5))) (mbNil)))) (mbCons (mLift (pBin opAdd (pC (.int 4)) (pVar 5))) (mbNil)))) (mbNil))) [5]) (mgName 3))) <|
    mSeq (mAsg (mLst (mNil)) (mgName 4)) <|
    mSeq (mFor (miR1 (mCons (mBin opMod (mLift (pBin opFdiv (pVar 1) (pC (.int 9)))) (mBin opIdx (mLst (mCons (mLift (pC (.int 13))) (mCons (mLift (pC (.int 13))) (mCons (mLift (pC (.int 5))) (mNil))))) (mLift (pCallB opLen (pCons (pVar 3) (pNil)))))) (mNil))) (mgName 5) (mSeq (mAsg (mCallF false false 2 m__law_mixed_3 [none, none] (mbCons (mCallF false false 2 m__law_cell_at [none, none] (mbCons (mRd 0) (mbCons (mLift (pBin opAdd (pC (.int 26)) (pVar 5))) (mbNil)))) (mbCons (mLift (pBin opAdd (pC (.int 6)) (pVar 5))) (mbNil)))) (mgName 6)) <|
    mSeq (mAsg (mCallF false false 2 m__law_shares [none, none] (mbCons (mVar 6) (mbCons (mLift (pCallB opLen (pCons (pVar 2) (pNil)))) (mbNil)))) (mgTup 2 (mgCons (mgName 7) (mgCons (mgName 6) (mgNil))))) <|
    mSeq (mAsg (mCallF false false 2 m__law_shares [none, none] (mbCons (mVar 6) (mbCons (mLift (pCallB opLen (pCons (pVar 3) (pNil)))) (mbNil)))) (mgTup 2 (mgCons (mgName 8) (mgCons (mgName 6) (mgNil))))) <|
    mDrop (mMeth 4 (lHere) opAppend (mCons (mTup (mCons (mVar 7) (mCons (mVar 8) (mCons (mCallF false false 2 m__law_fraction_6 [none, none] (mbCons (mLift (pBin opSub (pBin opMod (pVar 6) (pC (.int 15))) (pC (.int 4)))) (mbCons (mLift (pBin opAdd (pC (.int 1)) (pBin opMod (pBin opFdiv (pVar 6) (pC (.int 15))) (pC (.int 2))))) (mbNil)))) (mNil))))) (mNil))))) <|
    mRet (mTup (mCons (mVar 2) (mCons (mVar 3) (mCons (mVar 4) (mNil))))))
end Sr
namespace L3
open PySem PySem.Spec PyProof.Rows L2
end L3
namespace L3
open PySem PySem.Spec PyProof.Rows L2
def takeN : List Nat → Env → Option (List T × Env)
  | [], ρ => some ([], ρ)
  | j :: js, ρ => match ρ[j]? with
    | some (some t) => (takeN js (ρ.set j none)).map fun r => (t :: r.1, r.2)
    | _ => none
def setV : List Nat → List V → L2.St → L2.St
  | j :: js, v :: vs, σ => setV js vs (σ.set j (some v))
  | _, _, σ => σ
def clearN : List Nat → Env → Env
  | [], ρ => ρ
  | j :: js, ρ => clearN js (ρ.set j none)
section
variable {K : PySem.W.Frag} {F : Addr → Prop} {H : Hp}
theorem Sl.clearN {tv : List (Option V)} {td : Env} (hl : tv.length = td.length) : ∀ {js : List Nat} {ws : List V} {σ : L2.St} {ρ : Env} {A : List Addr}, ws.length = js.length → (∀ j ∈ js, j < σ.length) → Sl K F H (tv ++ σ) (td ++ ρ) A → ∃ B, Sl K F H (tv ++ setV js ws σ) (td ++ L3.clearN js ρ) B ∧ ∀ a, B.count a ≤ A.count a
  | [], [], σ, ρ, A, _, _, s => ⟨A, s, fun _ => Nat.le_refl _⟩
  | j :: js, w :: ws, σ, ρ, A, h, hj, s => by
    have hi := hj j List.mem_cons_self
    obtain ⟨B, hb, ar, _⟩ := s.around (i := tv.length + j) (by rw [List.length_append]; omega)
    obtain ⟨C, s', z⟩ := ar.gone (some w)
    rw [app_set rfl, app_set hl.symm] at s'
    obtain ⟨C2, s2, z2⟩ := Sl.clearN hl (js := js) (ws := ws) (by simpa using h) (fun x hx => by rw [List.length_set]; exact hj x (List.mem_cons_of_mem _ hx)) s'
    exact ⟨C2, s2, fun a => by have := z2 a; have := z a; have := hb a; omega⟩
  | [], _ :: _, _, _, _, h, _, _ => by simp at h
  | _ :: _, [], _, _, _, h, _, _ => by simp at h
theorem Sl.lift {tv : List (Option V)} {td : Env} {σ : L2.St} {ρ : Env} {A : List Addr} {j : Nat} {t : T} (hl : tv.length = td.length) (s : Sl K F H (tv ++ σ) (td ++ ρ) A) (e : ρ[j]? = some (some t)) : ∃ v A1 B, σ[j]? = some (some v) ∧ Rp K F H v t A1 ∧ Sl K F H (tv ++ σ) (td ++ ρ.set j none) B ∧ ∀ a, A.count a = A1.count a + B.count a := by
  have hlen := s.len
  have hi : j < ρ.length := (List.getElem?_eq_some_iff.mp e).1
  obtain ⟨B1, hb, ar, get⟩ := s.around (i := tv.length + j) (by rw [hlen, List.length_append]; omega)
  obtain ⟨v, A0, e3, x, hc1⟩ := get t (by rw [app_at hl.symm, e])
  rw [app_at rfl] at e3
  obtain ⟨C, s', z⟩ := ar.gone (some v)
  rw [app_set rfl, set_self e3, app_set hl.symm] at s'
  exact ⟨v, A0, C, e3, x, s', fun a => by rw [hc1 a, z a]⟩
theorem Sl.takeN {tv : List (Option V)} {td : Env} {σ : L2.St} (hl : tv.length = td.length) : ∀ {js : List Nat} {ws : List V} {ρ ρ' : Env} {ts : List T} {A : List Addr}, ws.length = js.length → (∀ (k j : Nat), js[k]? = some j → ∃ w, ws[k]? = some w ∧ σ[j]? = some (some w)) → Sl K F H (tv ++ σ) (td ++ ρ) A → L3.takeN js ρ = some (ts, ρ') →
    ∃ A1 B, RpAll K F H ws ts A1 ∧ Sl K F H (tv ++ σ) (td ++ ρ') B ∧ ∀ a, A.count a = A1.count a + B.count a
  | [], [], ρ, ρ', ts, A, _, _, s, e => by
    cases e
    exact ⟨[], A, .nil, s, fun a => by simp⟩
  | j :: js, w :: ws, ρ, ρ', ts, A, h, hk, s, e => by
    unfold L3.takeN at e
    split at e
    · rename_i t e0
      obtain ⟨r, e1, e2⟩ := Option.map_eq_some_iff.mp e
      cases e2
      obtain ⟨v, A1, B, e3, x, s', z⟩ := s.lift hl e0
      obtain ⟨w', e4, e5⟩ := hk 0 j rfl
      have ew : w = w' := by simpa using e4
      subst ew
      rw [e5] at e3
      cases e3
      obtain ⟨A2, B2, ra, s2, z2⟩ := Sl.takeN hl (js := js) (ws := ws) (by simpa using h) (fun k j' e => hk (k + 1) j' (by simpa using e)) s' e1
      exact ⟨A1 ++ A2, B2, .cons x ra, s2, fun a => by rw [z a, z2 a, List.count_append]; omega⟩
    · cases e
  | [], _ :: _, _, _, _, _, h, _, _, _ => by simp at h
  | _ :: _, [], _, _, _, _, h, _, _, _ => by simp at h
end
section
variable {K : PySem.W.Frag} {E : Str → Hp → Prop} {io js : List Nat} {i : Nat} {tb : TS} {mb : MS} {c : C0}
end
section
variable {X : Cx} {E : Str → Hp → Prop} {io : List Nat} {pos : Pos}
end
end L3
namespace L3
open PySem PySem.Spec PyProof.Rows L2
section
variable {K : PySem.W.Frag} {E : Str → Hp → Prop} {io : List Nat} {i j : Nat} {tb : TS} {mb : MS}
end
section
variable {X : Cx} {E : Str → Hp → Prop} {io : List Nat} {pos : Pos}
end
section
variable {K : PySem.W.Frag} {E : Str → Hp → Prop} {io : List Nat} {i j : Nat} {tb : TS} {mb : MS} {c : C0}
end
section
variable {X : Cx} {E : Str → Hp → Prop} {io : List Nat} {pos : Pos}
end
end L3
namespace L3
open PySem PySem.Spec PyProof.Rows L2
def opPopAt : List T → List T → Option (T × List T) := fun ts us => match us with
  | [.d (.int i)] => if decide (0 ≤ i ∧ i < 2 ^ 63) = true then (match ts[i.toNat]? with | some (.d x) => some (.d x, ts.take i.toNat ++ ts.drop (i.toNat + 1)) | _ => none) else none
  | _ => none
theorem popAt_v {K : PySem.W.Frag} : UpdV K rPopAt opPopAt := by
  intro F H a vs ys ts us A1 A2 r ha r1 r2 e Q q
  unfold opPopAt at e
  split at e
  · split at e
    · rename_i i hz
      have hz' := of_decide_eq_true hz
      split at e
      · rename_i x hx
        cases e
        cases r2 with
        | cons x0 rn =>
          have e0 := Rp.i x0
          subst e0
          cases x0 with
          | d x0 =>
            cases rn
            have hk := (List.getElem?_eq_some_iff.mp hx).1
            have hkv : i.toNat < vs.length := by rw [r1.len]; exact hk
            obtain ⟨y, B0, ey, ry, _⟩ := r1.get hx
            obtain ⟨B, C, h1, h2, h3⟩ := r1.split i.toNat
            obtain ⟨B', C', h1', h2', h3'⟩ := h2.split 1
            rw [List.drop_drop, List.drop_drop] at h2'
            obtain ⟨G, h6, h7⟩ := h1.append h2'
            cases ry with
            | d fy =>
              have sq : seqIndex? i vs.length = some i.toNat := by
                have g0 : ¬ i < 0 := by omega
                have g1 : i < (vs.length : Int) := by omega
                simp [seqIndex?, g0, g1, hz'.1]
              have er : vs.eraseIdx i.toNat = vs.take i.toNat ++ vs.drop (i.toNat + 1) := List.eraseIdx_eq_take_drop_succ ..
              refine ⟨a, vs, i, i.toNat, y, rfl, rfl, ha, by omega, hz'.2, sq, ey, ?_⟩
              rw [er]
              refine q y _ [] G (.d fy) h6 fun b => ?_
              have := h3 b
              have := h3' b
              have := h7 b
              simp only [List.count_append, List.count_nil]
              omega
      · cases e
    · cases e
  · cases e
end L3
namespace L3
open PySem PySem.Spec PyProof.Rows L2
section
variable {X : Cx} {E : Str → Hp → Prop} {e : Expr} {te : TE} {m : MP} {pos : Pos}
def mAugM (i : Nat) (m : MP) : MS := fun ρ => match ρ[i]?, m ρ with
  | some (some (.d (.int x))), some (.d (.int y)) => guard (mulOk x y) (.ok (.next (ρ.set i (some (.d (.int (x * y)))))))
  | _, _ => .bad
end
def augMK (i : Nat) (ρ : En) : Option (Option T) → Option T → R Out
  | some (some (.d (.int x))), some (.d (.int y)) => guard (mulOk x y) (.ok (.next (ρ.set i (some (.d (.int (x * y)))))))
  | _, _ => .bad
@[simp] theorem e_mAugM {i : Nat} {m : MP} {ρ : En} : mAugM i m ρ = augMK i ρ ρ[i]? (m ρ) := (rfl)
@[simp] theorem e_augMK {i : Nat} {x y : Int} {ρ : En} : augMK i ρ (some (some (.d (.int x)))) (some (.d (.int y))) = guard (mulOk x y) (.ok (.next (ρ.set i (some (.d (.int (x * y))))))) := (rfl)
section
variable {X : Cx} {tg : Expr}
end
def miF2 (m : MA) : MI := fun ρ => (m ρ).bind fun r => match r.1 with | [.d (.int i), .d (.int j)] => .ok (rangeItems i j, r.2) | _ => .bad
section
variable {X : Cx} {E : Str → Hp → Prop}
end
def rgF2 : List T × En → R (List T × En) := fun r => match r.1 with | [.d (.int i), .d (.int j)] => .ok (rangeItems i j, r.2) | _ => .bad
@[simp] theorem e_miF2 {m : MA} {ρ : En} : miF2 m ρ = (m ρ).bind rgF2 := (rfl)
@[simp] theorem e_rgF2 {i j : Int} {ρ : En} : rgF2 ([.d (.int i), .d (.int j)], ρ) = .ok (rangeItems i j, ρ) := (rfl)
end L3
namespace L3
open PySem PySem.Spec PyProof.Rows L2
section
variable {X : Cx} {E : Str → Hp → Prop} {e hx : Expr} {te th : TE} {ma mb : MEx} {pos p2 : Pos}
def idxD (ds : List PyData) (d : PyData) : Option Nat := ds.findIdx? fun z => PyData.eqv z d
def idxT (u v : T) : Option T := match u, v with
  | .d (.list ds), .d d => if (SeqAt.shaped d && SeqAt.shaped (.list ds)) = true then (idxD ds d).map fun j => .d (.int (j : Nat)) else none
  | _, _ => none
end
end L3
namespace L3
open PySem PySem.Spec PyProof.Rows L2
open PySem.W (EachIs AllAlike Sortable alike alikeAll dataLe)
mutual
theorem alike_plain : ∀ (x : PyData), alike x x = true → x.plain = true
  | .none, _ => rfl
  | .bool _, _ => rfl
  | .int _, _ => rfl
  | .str _, _ => rfl
  | .list xs, h => by
    rw [PyData.plain]
    exact alike_plainAll xs (by simpa [alike] using h)
  | .tuple xs, h => by
    rw [PyData.plain]
    exact alike_plainAll xs (by simpa [alike] using h)
  | .dict _, h => by simp [alike] at h
theorem alike_plainAll : ∀ (xs : List PyData), alikeAll xs xs = true → PyData.plainAll xs = true
  | [], _ => rfl
  | x :: xs, h => by
    rw [alikeAll, Bool.and_eq_true] at h
    rw [PyData.plainAll, Bool.and_eq_true]
    exact ⟨alike_plain x h.1, alike_plainAll xs h.2⟩
end
end L3
namespace L3
open PySem PySem.Spec PyProof.Rows L2
section
variable {P0 : Program} {w0 : World} {B : Around} {E : Value → Shared → Prop} {z : Shared}
end
section
variable {X : Cx} {E : Str → Hp → Prop} {a b e : Expr} {ta tb : TE} {te : L2.St → Hp → (Int → Int → Hp → Prop) → Prop} {ma mb : MEx} {g g2 : Bool} {p p2 pos pos2 : Pos}
end
end L3
namespace L3
open PySem PySem.Spec PyProof.Rows L2
def holes (us : List V) (ts : List T) : List T := us.map T.no ++ ts.drop us.length
section
variable {K : PySem.W.Frag} {E : Str → Hp → Prop} {io : List Nat} {c : C0}
end
section
variable {X : Cx} {E : Str → Hp → Prop} {io : List Nat} {pos : Pos}
end
end L3
namespace L3
open PySem PySem.Spec PyProof.Rows L2
section
variable {K : PySem.W.Frag} {F : Addr → Prop} {H : Hp}
theorem Sl.part : ∀ {sl : List (Option V)} {ρ : Env} {A : List Addr}, Sl K F H sl ρ A → ∀ {sl' : List (Option V)} {ρ' : Env}, sl'.length = sl.length → ρ'.length = ρ.length → (∀ (i : Nat) (t : T), ρ'[i]? = some (some t) → ρ[i]? = some (some t) ∧ sl'[i]? = sl[i]?) → ∃ B, Sl K F H sl' ρ' B ∧ ∀ a, B.count a ≤ A.count a
  | _, _, _, .nil, sl', ρ', h1, h2, _ => by
    have e1 : sl' = [] := List.length_eq_zero_iff.mp h1
    have e2 : ρ' = [] := List.length_eq_zero_iff.mp h2
    subst e1 e2
    exact ⟨[], .nil, fun _ => Nat.le_refl _⟩
  | _, _, _, .skip (o := o) (sl := sl) (ρ := ρ) (A := A) r, sl', ρ', h1, h2, h => by
    obtain ⟨o', sl0, rfl⟩ : ∃ a b, sl' = a :: b := List.exists_cons_of_length_eq_add_one h1
    obtain ⟨t', ρ0, rfl⟩ : ∃ a b, ρ' = a :: b := List.exists_cons_of_length_eq_add_one h2
    obtain ⟨B, hB, cB⟩ := Sl.part r (sl' := sl0) (ρ' := ρ0) (by simpa using h1) (by simpa using h2) fun i t e => by simpa using h (i + 1) t (by simpa using e)
    cases t' with
    | none => exact ⟨B, .skip hB, cB⟩
    | some t' =>
      have := (h 0 t' rfl).1
      simp at this
  | _, _, _, .cons (v := v) (t := t) (sl := sl) (ρ := ρ) (A := A) (B := B) x r, sl', ρ', h1, h2, h => by
    obtain ⟨o', sl0, rfl⟩ : ∃ a b, sl' = a :: b := List.exists_cons_of_length_eq_add_one h1
    obtain ⟨t', ρ0, rfl⟩ : ∃ a b, ρ' = a :: b := List.exists_cons_of_length_eq_add_one h2
    obtain ⟨B2, hB, cB⟩ := Sl.part r (sl' := sl0) (ρ' := ρ0) (by simpa using h1) (by simpa using h2) fun i t e => by simpa using h (i + 1) t (by simpa using e)
    cases t' with
    | none => exact ⟨B2, .skip hB, fun a => by have := cB a; rw [List.count_append]; omega⟩
    | some t' =>
      obtain ⟨z1, z2⟩ := h 0 t' rfl
      have e1 : t' = t := by simpa using z1.symm
      have e2 : o' = some v := by simpa using z2
      subst e1 e2
      exact ⟨A ++ B2, .cons x hB, fun a => by have := cB a; rw [List.count_append, List.count_append]; omega⟩
theorem StR.part {c : C0} {sl sl' : List (Option V)} {ρ ρ' : Env} (st : StR K c H sl ρ) (h1 : sl'.length = sl.length) (h2 : ρ'.length = ρ.length) (h : ∀ (i : Nat) (t : T), ρ'[i]? = some (some t) → ρ[i]? = some (some t) ∧ sl'[i]? = sl[i]?) : StR K c H sl' ρ' := by
  obtain ⟨A, w⟩ := st
  obtain ⟨B, hB, cB⟩ := w.slots.part h1 h2 h
  exact ⟨B, fun a => Nat.le_trans (cB a) (w.uniq a), hB.mono (.sub fun y _ => Fok.sub (c := c) cB y) fun _ _ => rfl, fun a ha => w.own a (List.count_pos_iff.mp (Nat.lt_of_lt_of_le (List.count_pos_iff.mpr ha) (cB a))), w.keep⟩
end
end L3
namespace L3
open PySem PySem.Spec PyProof.Rows L2
abbrev rRemoveD (K : PySem.W.Frag) : V → List V → Hp → VK → Prop := fun x xs H Q => ∃ (a : Addr) (vs : List V) (y : V) (d : PyData) (ds : List PyData) (j : Nat) (z : PyData), x = V.ref a ∧ xs = [y] ∧ H a = some (.lst vs) ∧ DpAll K H vs ds ∧ Dp K H y d ∧
  SeqAt.shaped (.list ds) = true ∧ SeqAt.shaped d = true ∧ ds[j]? = some z ∧ PyData.eqv z d = true ∧ (∀ (m : Nat) (z' : PyData), m < j → ds[m]? = some z' → PyData.eqv z' d = false) ∧ Q .non (upd H a (.lst (vs.eraseIdx j)))
section
variable {X : Cx}
theorem mt_removeD (hu : X.A.units + 65 < cLine) : MtM X "list.remove" (rRemoveD X.K) := by
  intro pins s σ H x xs v us Q I rx rxs h
  obtain ⟨a, vs, y, d, ds, j, z, rfl, rfl, hH, ha, hy, sl, sd, hz, hzj, hno, q⟩ := h
  cases rx
  obtain ⟨uy, rfl, ry⟩ := rxs.one
  obtain ⟨bs, r1⟩ := Dp.reads I d y uy hy ry
  have hxs : PyData.canLayAll0 ds = true := SeqAt.canLay_of_shaped sl
  have hroom : X.A.units + 1 + min (PyData.depthAll ds) d.depth < cLine := room_in_shaped sd hu
  obtain ⟨zl, its, n, r, hl, e⟩ := I.lstM hH
  obtain ⟨as, h4⟩ := Dp.readsAll I ds _ its ha r
  have hn : its.length = ds.length := SeqAt.ReadsAll.length ds its as h4
  have hmap : its.map (SeqAt.readOf s.heap) = ds := SeqAt.readsAll_map ds its as hxs h4
  have hvl := r.length
  have hsl := sizeLine_eq
  obtain ⟨hjd, _⟩ := List.getElem?_eq_some_iff.mp hz
  have hjl : j < its.length := by omega
  have hj : j < its.toArray.size := by simpa using hjl
  have at_ : ∀ (m : Nat) (hm : m < its.toArray.size) (z' : PyData), ds[m]? = some z' → SeqAt.readOf s.heap its.toArray[m] = z' := by
    intro m hm z' hz'
    have hml : m < its.length := by simpa using hm
    rw [← hmap, List.getElem?_map, List.getElem?_eq_getElem hml] at hz'
    have e1 : SeqAt.readOf s.heap its[m] = z' := Option.some.inj (show some (SeqAt.readOf s.heap its[m]) = some z' from hz')
    simpa using e1
  refine call_meets PySem.F.slot_list_remove ⟨_, e, rfl⟩ PySem.F.entry_list_remove (PySem.F.args_list_remove_2 _ _)
    (SeqAt.list_removeAt a its.toArray n none #[] uy (fun u => PyData.eqv (SeqAt.readOf s.heap u) d) j hj ?_ ?_ (by rw [List.size_toArray]; omega)) ⟨e, SeqAt.items_eqAt (vs := its.toArray) (show ReadsAll s.heap its.toArray.toList ds as from h4) r1 hxs (SeqAt.canLay_of_shaped sd) hroom, ?_⟩
  · show PyData.eqv (SeqAt.readOf s.heap its.toArray[j]) d = true
    rw [at_ j hj z hz]
    exact hzj
  · intro m hm hmj
    have hmd : m < ds.length := by omega
    have hz' : ds[m]? = some ds[m] := List.getElem?_eq_getElem hmd
    show PyData.eqv (SeqAt.readOf s.heap its.toArray[m]) d = false
    rw [at_ m hm _ hz']
    exact hno m _ hmj hz'
  · refine ⟨.non, _, I.lset (its' := its.eraseIdx j) hH e ?_ (r.eraseIdx j) ?_, rfl, q⟩
    · show its.toArray.eraseIdxIfInBounds j = (its.eraseIdx j).toArray
      rw [List.eraseIdxIfInBounds_toArray]
    · have := len_erase vs j
      omega
end
def opRemove : List T → List T → Option (T × List T) := fun ts us => match us with
  | [.d d] => match T.allD ts with
    | some ds => if (SeqAt.shaped d && SeqAt.shaped (.list ds)) = true then (idxD ds d).map fun j => (.d .none, ts.take j ++ ts.drop (j + 1)) else none
    | none => none
  | _ => none
theorem remove_v {K : PySem.W.Frag} : UpdV K (rRemoveD K) opRemove := by
  intro F H a vs ys ts us A1 A2 r ha r1 r2 e Q q
  unfold opRemove at e
  split at e
  · rename_i d
    split at e
    · rename_i ds hds
      split at e
      · rename_i hsh
        rw [Bool.and_eq_true] at hsh
        obtain ⟨j, e3, e4⟩ := Option.map_eq_some_iff.mp e
        subst e4
        obtain ⟨fa, _, _⟩ := r1.data hds
        unfold idxD at e3
        obtain ⟨hj, z1, z2⟩ := List.findIdx?_eq_some_iff_getElem.mp e3
        cases r2 with
        | cons x0 rn =>
          cases x0 with
          | d f2 =>
            cases rn
            rename_i y
            obtain ⟨B, C, h1, h2, h3⟩ := r1.split j
            obtain ⟨B', C', h1', h2', h3'⟩ := h2.split 1
            rw [List.drop_drop, List.drop_drop] at h2'
            obtain ⟨G, h6, h7⟩ := h1.append h2'
            have er : vs.eraseIdx j = vs.take j ++ vs.drop (j + 1) := List.eraseIdx_eq_take_drop_succ ..
            refine ⟨a, vs, y, d, ds, j, _, rfl, rfl, ha, dqsDpl fa.dq (PyData.plain_of_canLay0 (.list ds) (SeqAt.canLay_of_shaped hsh.2)), f2.dp hsh.1, hsh.2, hsh.1, List.getElem?_eq_getElem hj, z1, fun m z' hm hz' => ?_, ?_⟩
            · obtain ⟨hm1, hm2⟩ := List.getElem?_eq_some_iff.mp hz'
              rw [← hm2]
              exact Bool.not_eq_true _ ▸ z2 m hm
            · rw [er]
              refine q .non _ [] G (.d .non) h6 fun b => ?_
              have := h3 b
              have := h3' b
              have := h7 b
              simp only [List.count_append, List.count_nil]
              omega
      · cases e
    · cases e
  · cases e
end L3
namespace L3
open PySem PySem.Spec PyProof.Rows L2
section
variable {X : Cx} {pins : List (Addr × Obj)} {σ : L2.St} {H : Hp} {s : Shared}
end
end L3
namespace L3
open PySem PySem.Spec PyProof.Rows L2
section
variable {X : Cx}
end
end L3
namespace L3
open PySem PySem.Spec PyProof.Rows L2
section
variable {K : PySem.W.Frag} {F : Addr → Prop} {H : Hp}
end
section
variable {X : Cx} {E : Str → Hp → Prop} {pos : Pos}
end
end L3
namespace L3
open PySem PySem.Spec PyProof.Rows L2
section
variable {X : Cx}
end
end L3
namespace L3
open PySem PySem.Spec PyProof.Rows L2
section
variable {X : Cx} {E : Str → Hp → Prop} {e : Expr} {te : TE} {ma : MP} {p p2 pos : Pos} {y : Str} {tab : XTab} {C : Addr} {n : String}
end
end L3
namespace L3
open PySem PySem.Spec PyProof.Rows L2
end L3
namespace L3
open PySem PySem.Spec PyProof.Rows L2
instance {x : Str} {n : Int} : Decidable (MulOk x n) := by unfold MulOk; infer_instance
section
variable {K : PySem.W.Frag} {E : Str → Hp → Prop} {ta tb : TE} {ma mb : MEx}
end
section
variable {X : Cx} {E : Str → Hp → Prop} {o e i : Expr} {to te ti : TE} {mo me mi : MEx} {g1 g2 : Bool} {apos pos : Pos}
end
end L3
namespace L3
open PySem PySem.Spec PyProof.Rows L2
section
variable {K : PySem.W.Frag} {E : Str → Hp → Prop} {c : C0} {H : Hp} {tv : List (Option V)} {td : Env} {σ : L2.St} {ρ : Env}
end
section
variable {K : PySem.W.Frag} {E : Str → Hp → Prop} {ta tb : TE} {ma mb : MEx}
end
section
variable {X : Cx} {E : Str → Hp → Prop} {a b : Expr} {ta tb : TE} {ma mb : MEx} {pos : Pos} {g1 g2 : Bool}
end
section
variable {K : PySem.W.Frag} {E : Str → Hp → Prop} {io : List Nat} {j : Nat} {tb : TS} {mb : MS} {c : C0}
end
section
variable {K : PySem.W.Frag} {E : Str → Hp → Prop} {io : List Nat} {j : Nat} {tb : TS} {mb : MS} {c : C0}
end
end L3
namespace L3
open PySem PySem.Spec PyProof.Rows L2
section
variable {K : PySem.W.Frag} {c : C0} {H : Hp} {tv : List (Option V)} {td : Env} {σ : L2.St} {ρ : Env}
end
section
variable {K : PySem.W.Frag} {E : Str → Hp → Prop} {io : List Nat} {i j : Nat} {tb : TS} {mb : MS}
end
section
variable {X : Cx} {E : Str → Hp → Prop} {io : List Nat} {pos : Pos}
end
section
variable {K : PySem.W.Frag} {E : Str → Hp → Prop} {io : List Nat} {i1 i2 j : Nat} {tb : TS} {mb : MS}
end
section
variable {X : Cx} {E : Str → Hp → Prop} {io : List Nat} {pos p1 p2 lpos apos : Pos}
end
end L3
namespace L3
open PySem PySem.Spec PyProof.Rows L2
mutual
def T.calmT : T → Bool
  | .d x => calm x
  | .ol ts => T.calmA ts
  | .ot ts => T.calmA ts
  | _ => false
def T.calmA : List T → Bool
  | [] => true
  | t :: r => t.calmT && T.calmA r
end
section
variable {K : PySem.W.Frag} {F F' : Addr → Prop} {H : Hp}
mutual
theorem Rp.calmT : ∀ {v : V} {t : T} {A : List Addr}, Rp K F H v t A → t.calmT = true → Rp K F' H v t A
  | _, _, _, .d x, h => .d (x.calm (by simpa [T.calmT] using h))
  | _, _, _, .ol e r, h => .ol e (RpAll.calmT r (by simpa [T.calmT] using h))
  | _, _, _, .ot e r, h => .ot e (RpAll.calmT r (by simpa [T.calmT] using h))
  | _, _, _, .od _ _ _ _, h => by simp [T.calmT] at h
  | _, _, _, .fd _ _ _ _, h => by simp [T.calmT] at h
  | _, _, _, .fk _, h => by simp [T.calmT] at h
  | _, _, _, .dt _ _ _ _ _ _, h => by simp [T.calmT] at h
  | _, _, _, .no _, h => by simp [T.calmT] at h
  | _, _, _, .hl _, h => by simp [T.calmT] at h
  | _, _, _, .rd _ _, h => by simp [T.calmT] at h
  | _, _, _, .ob _ _ _ _, h => by simp [T.calmT] at h
  | _, _, _, .ex _ _ _, h => by simp [T.calmT] at h
theorem RpAll.calmT : ∀ {vs : List V} {ts : List T} {A : List Addr}, RpAll K F H vs ts A → T.calmA ts = true → RpAll K F' H vs ts A
  | _, _, _, .nil, _ => .nil
  | _, _, _, .cons x r, h => by
    simp only [T.calmA, Bool.and_eq_true] at h
    exact .cons (Rp.calmT x h.1) (RpAll.calmT r h.2)
end
end
section
variable {X : Cx} {E : Str → Hp → Prop} {e : Expr} {te : TE} {m : MEx} {pos kpos : Pos} {g : Bool}
end
section
variable {X : Cx} {E : Str → Hp → Prop} {es : List Expr} {t : TA} {r : MA} {g : Bool} {x : Str} {p : Pos}
end
section
variable {K : PySem.W.Frag} {E : Str → Hp → Prop} {io : List Nat} {i1 i2 il : Nat} {te te2 : TE} {me me2 : MEx} {g1 g2 : Bool}
end
section
variable {X : Cx} {E : Str → Hp → Prop} {io : List Nat} {e e2 : Expr} {te te2 : TE} {me me2 : MEx} {g1 g2 : Bool}
end
end L3
namespace L3
open PySem PySem.Spec PyProof.Rows L2
end L3
namespace L3
open PySem PyProof.Rows L2
section
variable {K : PySem.W.Frag} {cl : Str → Option Addr} {Ek : XK} {rz : Bool} {n : Nat} {fm : List T → R (T × List T)}
end
section
variable {X : Cx} {CX : CXT} {k : Nat} {f C : Addr} {fd : FuncData} {ps : List Str} {Ek : XK} {cl : Str → Option Addr} {x m : Str} {pos apos : Pos} {o e : Expr} {es : List Expr} {ta : TE} {t : TA} {ma : MA} {me : MEx} {g : Bool} {io : List Nat} {fm : List T → R (T × List T)} {rz : Bool} {n : Nat} {i : Nat}
end
end L3
namespace Sr
open PySem PySem.Spec PyProof.Rows L2 L3
end Sr
namespace L3
open PySem PySem.Spec PyProof.Rows L2
section
variable {X : Cx} {E : Str → Hp → Prop} {o e : Expr} {es : List Expr} {to : TE} {t : TA} {name : Str} {apos cpos : Pos} {id : String} {rM : V → List V → Hp → VK → Prop} {op : List T → List T → Option (T × List T)} {g : Bool}
end
end L3
namespace L3
open PySem PyProof.Rows L2
mutual
def T.fds : T → List Addr
  | .ol ts => T.fdsA ts
  | .ot ts => T.fdsA ts
  | .od _ ts => T.fdsA ts
  | .fd a _ ts => a :: T.fdsA ts
  | .fk a _ _ => [a]
  | .ob _ _ ts => T.fdsA ts
  | .d _ => []
  | .dt _ _ _ => []
  | .no _ => []
  | .hl => []
  | .rd _ => []
  | .ex _ => []
def T.fdsA : List T → List Addr
  | [] => []
  | t :: r => t.fds ++ T.fdsA r
end
def fdsO : Option T → List Addr
  | some t => t.fds
  | none => []
def fdsE (ρ : Env) : List Addr := ρ.flatMap fdsO
mutual
theorem T.fds_avd {a : Addr} : ∀ (t : T), a ∉ t.fds → Avd a t
  | .d x, _ => .d x
  | .ol ts, h => .ol (T.fdsA_avd ts h)
  | .ot ts, h => .ot (T.fdsA_avd ts h)
  | .od _ ts, h => .od (T.fdsA_avd ts h)
  | .fd b _ ts, h => .fd (fun e => h (List.mem_cons.mpr (.inl e.symm))) (T.fdsA_avd ts fun z => h (List.mem_cons_of_mem _ z))
  | .fk b o kvs, h => .fk fun e => h (List.mem_cons.mpr (.inl e.symm))
  | .dt en ks ds, _ => .dt en ks ds
  | .no v, _ => .no v
  | .hl, _ => .hl
  | .rd xs, _ => .rd xs
  | .ex x, _ => .ex x
  | .ob _ _ ts, h => .ob (T.fdsA_avd ts h)
theorem T.fdsA_avd {a : Addr} : ∀ (ts : List T), a ∉ T.fdsA ts → AvdA a ts
  | [], _ => .nil
  | t :: ts, h => .cons (T.fds_avd t fun z => h (List.mem_append_left _ z)) (T.fdsA_avd ts fun z => h (List.mem_append_right _ z))
end
mutual
theorem Avd.fds {a : Addr} : ∀ {t : T}, Avd a t → a ∉ t.fds
  | _, .d x, h => by simp [T.fds] at h
  | _, .ol q, h => AvdA.fds q h
  | _, .ot q, h => AvdA.fds q h
  | _, .od q, h => AvdA.fds q h
  | _, .fd n q, h => by
    rcases List.mem_cons.mp h with e | e
    · exact n e.symm
    · exact AvdA.fds q e
  | _, .fk n, h => by
    rcases List.mem_cons.mp h with e | e
    · exact n e.symm
    · simp at e
  | _, .dt en ks ds, h => by simp [T.fds] at h
  | _, .no v, h => by simp [T.fds] at h
  | _, .hl, h => by simp [T.fds] at h
  | _, .rd xs, h => by simp [T.fds] at h
  | _, .ex x, h => by simp [T.fds] at h
  | _, .ob q, h => AvdA.fds q h
theorem AvdA.fds {a : Addr} : ∀ {ts : List T}, AvdA a ts → a ∉ T.fdsA ts
  | _, .nil, h => by simp [T.fdsA] at h
  | _, .cons q r, h => by
    rcases List.mem_append.mp h with e | e
    · exact Avd.fds q e
    · exact AvdA.fds r e
end
theorem AvdE.fds {a : Addr} {ρ : Env} (h : AvdE a ρ) : a ∉ fdsE ρ := fun z => by
  obtain ⟨o, ho, q⟩ := List.mem_flatMap.mp z
  cases o with
  | none => simp [fdsO] at q
  | some t => exact (h t ho).fds q
section
variable {K : PySem.W.Frag} {c : C0}
end
section
variable {X : Cx} {E : Str → Hp → Prop} {io : List Nat} {pos : Pos}
end
theorem RpAll.cut {K : PySem.W.Frag} {F : Addr → Prop} {H : Hp} : ∀ {xs ys : List V} {ts : List T} {A : List Addr}, RpAll K F H (xs ++ ys) ts A → ∃ A1 A2, A = A1 ++ A2 ∧ RpAll K F H xs (ts.take xs.length) A1
  | [], ys, ts, A, h => ⟨[], A, rfl, by rw [List.length_nil, List.take_zero]; exact .nil⟩
  | x :: xs, ys, _, _, .cons (t := t) (A := A) (B := B) q r => by
    obtain ⟨B1, B2, e, h⟩ := RpAll.cut r
    subst e
    exact ⟨A ++ B1, B2, (List.append_assoc ..).symm, by rw [List.length_cons, List.take_succ_cons]; exact .cons q h⟩
end L3
namespace PySem
open Sem (wp)
section
variable {prog : Program} {w : World} {K : Type} [DecidableEq K] {knd : KeyKind prog w K} {A : Around} {E : Value → Shared → Prop} {s : Shared}
end
end PySem
namespace L3
open PySem PySem.Spec PyProof.Rows L2
section
variable {X : Cx} {a e : Expr} {ta td : TE} {apos cpos pos : Pos}
end
end L3
namespace L3
open PySem PySem.Spec PyProof.Rows L2
section
variable {X : Cx} {E : Str → Hp → Prop} {e : Expr} {te : TE} {me : MP} {apos cpos : Pos}
end
section
variable {X : Cx} {E : Str → Hp → Prop} {io : List Nat}
end
end L3
namespace L3
open PySem PySem.Spec PyProof.Rows L2
end L3
namespace L3
open PySem PySem.Spec PyProof.Rows L2
section
variable {X : Cx} {E : Str → Hp → Prop} {a b c0 : Expr} {ta tb tc : TE} {pos : Pos}
end
def putD (kvs : List (Key × PyData)) (k : Key) (v : PyData) : List (Key × PyData) :=
  if (kvs.any fun kv => decide (kv.1 = k)) = true then kvs.map (fun kv => if kv.1 = k then (kv.1, v) else kv) else kvs ++ [(k, v)]
section
variable {K : PySem.W.Frag} {F : Addr → Prop} {H : Hp}
inductive PairF (K : PySem.W.Frag) (F : Addr → Prop) (H : Hp) : List (Key × V) → List (Key × PyData) → Prop
  | nil : PairF K F H [] []
  | cons {k : Key} {v : V} {d : PyData} {kvs : List (Key × V)} {ps : List (Key × PyData)} : Fz K F H v d → PairF K F H kvs ps → PairF K F H ((k, v) :: kvs) ((k, d) :: ps)
theorem PairF.fst : ∀ {kvs : List (Key × V)} {ps : List (Key × PyData)}, PairF K F H kvs ps → kvs.map Prod.fst = ps.map Prod.fst
  | _, _, .nil => rfl
  | _, _, .cons _ t => by rw [List.map_cons, List.map_cons, t.fst]
theorem PairF.any {k : Key} : ∀ {kvs : List (Key × V)} {ps : List (Key × PyData)}, PairF K F H kvs ps → (kvs.any fun kv => decide (kv.1 = k)) = (ps.any fun kv => decide (kv.1 = k))
  | _, _, .nil => rfl
  | _, _, .cons _ t => by rw [List.any_cons, List.any_cons, t.any]
theorem PairF.repl {k : Key} {v : V} {d : PyData} (f : Fz K F H v d) : ∀ {kvs : List (Key × V)} {ps : List (Key × PyData)}, PairF K F H kvs ps → PairF K F H (kvs.map fun kv => if kv.1 = k then (kv.1, v) else kv) (ps.map fun kv => if kv.1 = k then (kv.1, d) else kv)
  | _, _, .nil => .nil
  | _, _, .cons (k := k0) f0 t => by
    rw [List.map_cons, List.map_cons]
    by_cases e : k0 = k
    · rw [if_pos e, if_pos e]; exact .cons f (t.repl f)
    · rw [if_neg e, if_neg e]; exact .cons f0 (t.repl f)
theorem PairF.snoc {k : Key} {v : V} {d : PyData} (f : Fz K F H v d) : ∀ {kvs : List (Key × V)} {ps : List (Key × PyData)}, PairF K F H kvs ps → PairF K F H (kvs ++ [(k, v)]) (ps ++ [(k, d)])
  | _, _, .nil => .cons f .nil
  | _, _, .cons f0 t => .cons f0 (t.snoc f)
theorem PairF.put {k : Key} {v : V} {d : PyData} (f : Fz K F H v d) {kvs : List (Key × V)} {ps : List (Key × PyData)} (h : PairF K F H kvs ps) : PairF K F H (putK kvs k v) (putD ps k d) := by
  unfold putK putD
  rw [h.any]
  split
  · exact h.repl f
  · exact h.snoc f
theorem PairF.mono {F' : Addr → Prop} {H' : Hp} (m : Mono F F' H H') : ∀ {kvs : List (Key × V)} {ps : List (Key × PyData)}, PairF K F H kvs ps → PairF K F' H' kvs ps
  | _, _, .nil => .nil
  | _, _, .cons f t => .cons (f.mono m) (t.mono m)
end
section
variable {X : Cx} {E : Str → Hp → Prop} {e : Expr} {t : TA} {p pos : Pos} {ma : MA} {g : Bool}
end
end L3
namespace L3
open PySem PySem.Spec PyProof.Rows L2
end L3
namespace L3
open PySem PySem.Spec PyProof.Rows L2
structure PrT (K : PySem.W.Frag) (H : Hp) (ts bs : List Addr) (ks : List (List Key)) (ys : List V) : Prop where
  l1 : ts.length = ks.length
  l2 : bs.length = ks.length
  l3 : ys.length = ks.length
  p : ∀ (i : Nat) (t b : Addr) (y : V), ts[i]? = some t → bs[i]? = some b → ys[i]? = some y → SqT K H t [.ref b, y]
  k : ∀ (i : Nat) (b : Addr) (k : List Key), bs[i]? = some b → ks[i]? = some k → SqT K H b (k.map kV)
section
variable {X : Cx}
end
end L3
namespace L3
open PySem PySem.Spec PyProof.Rows L2
section
variable {K : PySem.W.Frag} {E : Str → Hp → Prop} {io : List Nat} {i j : Nat} {te ti : TE} {tb : TS} {mb : MS} {me mi : MEx} {g1 g2 : Bool}
end
section
variable {X : Cx} {E : Str → Hp → Prop} {io : List Nat} {pos pos2 pos3 : Pos} {e b : Expr} {te ti : TE} {me mi : MEx} {g1 g2 : Bool} {i j : Nat} {x : Str}
end
end L3
namespace L2
open PySem PySem.Spec PyProof.Rows
section
variable {X : Cx} {W : WX} {Ek : XK} {pins : List (Addr × Obj)} {σ : St} {H3 : Hp} {s3 : Shared}
end
section
variable {X : Cx} {W : WX} {Ek : XK}
end
end L2
namespace L3
open PySem PySem.Spec PyProof.Rows L2
section
variable {X : Cx} {W : WX} {Ek : XK} {cl0 : Str → Option Addr} {pos : Pos}
end
end L3
namespace L3
open PySem PySem.Spec PyProof.Rows L2
end L3
namespace L2
open PySem PySem.Spec PyProof.Rows
section
variable {X : Cx} {x n : Str} {c : Value} {i : Nat} {body suite : List Stmt} {b₀ : Stmt} {np pos pos' : Pos} {tb : WX → TS} {ts : TS}
end
end L2
namespace L3
open PySem PySem.Spec PyProof.Rows L2
inductive OX where
  | nx (ρ : Env)
  | ex (x : Str) (ρ : Env)
abbrev MX := Env → R OX
def XTo (K : PySem.W.Frag) (c : C0) (tv : List (Option V)) (td : Env) (σ : L2.St) (N : L2.St → Hp → Prop) (W : WX) : OX → Prop
  | .nx ρ => ∀ σ' H', SameIo [] σ σ' → StR K c H' (tv ++ σ') (td ++ ρ) → N σ' H'
  | .ex x ρ => ∀ σ' H', SameIo [] σ σ' → StR K c H' (tv ++ σ') (td ++ ρ) → ∀ C, clK K x = some C → W (.ref C) none σ' H'
def SimX (K : PySem.W.Frag) (W : WX) (ts : TS) (mx : MX) : Prop :=
  ∀ (c : C0) (H : Hp) (tv : List (Option V)) (td : Env) (σ : L2.St) (ρ : Env), tv.length = td.length → StR K c H (tv ++ σ) (td ++ ρ) → ∀ D : Ends, Then (mx ρ) (XTo K c tv td σ D.nx W) (fun _ => False) → ts D σ H
structure QX (X : Cx) (W : WX) (s : List Stmt) (ts : TS) (mx : MX) : Prop where
  ps : PSs X s ts
  sim : SimX X.K W ts mx
section
variable {X : Cx} {k : Nat} {f : Addr} {fd : FuncData} {ps : List Str} {x : Str} {p pos pos2 : Pos} {e : Expr} {es : List Expr} {t : TA} {mb : MB} {ks : List (Option Nat)} {io : List Nat} {fm : List T → R (T × List T)} {g : Bool} {n : Nat} {W : WX} {E' : Str → Hp → Prop}
end
def tMirX (K : PySem.W.Frag) (W : WX) (m : MX) : TS := fun D σ H => ∃ c tv td ρ, tv.length = td.length ∧ StR K c H (tv ++ σ) (td ++ ρ) ∧ Then (m ρ) (XTo K c tv td σ D.nx W) (fun _ => False)
theorem QX.mir {X : Cx} {W : WX} {s : List Stmt} {ts : TS} {m : MX} (h : QX X W s ts m) : PSs X s (tMirX X.K W m) := ⟨fun pins s σ H D I ⟨c, tv, td, ρ, hl, st, q⟩ => h.ps.run pins s σ H D I (h.sim c H tv td σ ρ hl st D q)⟩
section
variable {X : Cx} {x n : Str} {C : Addr} {i : Nat} {body suite : List Stmt} {b₀ : Stmt} {np pos pos' : Pos} {mx : MX} {mh : MS} {xs : List Str} {E : Str → Hp → Prop}
end
theorem TabOk.cons {K : PySem.W.Frag} {z : Str} {b : Bool} {u : Value} {C : Addr} {tab : XTab} (h : clK K z = some C) (k : PySem.W.kitOne K (.ref C) u = some b) (r : TabOk K tab u) : TabOk K ((z, b) :: tab) u := fun z' b' e D hD => by
  rw [List.lookup_cons] at e
  by_cases hz : z' = z
  · subst hz
    rw [beq_self_eq_true] at e
    cases e
    rw [h] at hD
    cases hD
    exact k
  · rw [beq_eq_false_iff_ne.mpr hz] at e
    exact r z' b' e D hD
end L3
namespace L3
open PySem PySem.Spec PyProof.Rows L2
inductive Flat (H : Hp) : List V → List V → Prop
  | nil : Flat H [] []
  | cons {t : Addr} {a b c : V} {vs us : List V} : H t = some (.tup [a, b, c]) → Flat H vs us → Flat H (.ref t :: vs) (a :: b :: us)
theorem Flat.len {H : Hp} : ∀ {vs us : List V}, Flat H vs us → us.length = 2 * vs.length
  | _, _, .nil => rfl
  | _, _, .cons _ r => by have := r.len; simp only [List.length_cons]; omega
theorem Flat.at {H : Hp} : ∀ {vs us : List V} (f : Flat H vs us) {i : Nat} {v : V}, vs[i]? = some v → ∃ t a b c, v = .ref t ∧ H t = some (.tup [a, b, c]) ∧ us.take (2 * (i + 1)) = us.take (2 * i) ++ [a, b]
  | _, _, .nil, i, v, e => by simp at e
  | _, _, .cons (t := t) (a := a) (b := b) (c := c) h r, i, v, e => by
    cases i with
    | zero =>
      have e : V.ref t = v := by simpa using e
      exact ⟨t, a, b, c, e.symm, h, by simp⟩
    | succ i =>
      obtain ⟨t', a', b', c', e1, e2, e3⟩ := r.at (i := i) (v := v) (by simpa using e)
      refine ⟨t', a', b', c', e1, e2, ?_⟩
      have x1 : 2 * (i + 1 + 1) = 2 * (i + 1) + 1 + 1 := by omega
      have x2 : 2 * (i + 1) = 2 * i + 1 + 1 := by omega
      rw [x1, List.take_succ_cons, List.take_succ_cons, e3]
      rw [x2, List.take_succ_cons, List.take_succ_cons]
      rfl
inductive Lens (H : Hp) : List V → List Nat → Prop
  | nil : Lens H [] []
  | cons {a : Addr} {xs vs : List V} {ns : List Nat} : H a = some (.lst xs) → Lens H vs ns → Lens H (.ref a :: vs) (xs.length :: ns)
theorem Lens.len {H : Hp} : ∀ {vs : List V} {ns : List Nat}, Lens H vs ns → ns.length = vs.length
  | _, _, .nil => rfl
  | _, _, .cons _ r => by rw [List.length_cons, List.length_cons, r.len]
theorem Lens.at {H : Hp} : ∀ {vs : List V} {ns : List Nat}, Lens H vs ns → ∀ {i : Nat} {v : V}, vs[i]? = some v → ∃ a xs, v = .ref a ∧ H a = some (.lst xs) ∧ ns[i]? = some xs.length
  | _, _, .nil, i, v, e => by simp at e
  | _, _, .cons (a := a) (xs := xs) h r, i, v, e => by
    cases i with
    | zero =>
      have e : V.ref a = v := by simpa using e
      exact ⟨a, xs, e.symm, h, rfl⟩
    | succ i =>
      obtain ⟨a', xs', e1, e2, e3⟩ := r.at (i := i) (v := v) (by simpa using e)
      exact ⟨a', xs', e1, e2, by simpa using e3⟩
section
variable {X : Cx} {E : Str → Hp → Prop} {pos : Pos}
end
end L3
namespace L3
open PySem PySem.Spec PyProof.Rows L2
def eqE (x y : T) : R Bool := match x.toD, y.toD with
  | some a, some b => (match eqS a b with
    | some k => .ok k
    | none => guard (SeqAt.topE a b && decide (a.depth ≤ 64)) (.ok (SeqAt.eqvE a b)))
  | _, _ => .bad
def opEqE (x y : T) : R RV := (eqE x y).bind fun k => .ok (.v (.d (.bool k)))
def opNeE (x y : T) : R RV := (eqE x y).bind fun k => .ok (.v (.d (.bool (!k))))
def rEqE2 (K : PySem.W.Frag) : R2 := fun x y H Q => rEq x y H Q ∨ rEqE K x y H Q
def rNeE2 (K : PySem.W.Frag) : R2 := fun x y H Q => rNe x y H Q ∨ rNeE K x y H Q
theorem op_eqE2 {X : Cx} (hu : X.A.units + 64 < cLine) : OpR X (compareOp .Eq) (rEqE2 X.K) := op_eq.or (op_eqE hu)
theorem op_neE2 {X : Cx} (hu : X.A.units + 64 < cLine) : OpR X (compareOp .NotEq) (rNeE2 X.K) := op_ne.or (op_neE hu)
theorem eqE_noexc {x y : T} (c : Str) : eqE x y ≠ .exc c := by
  unfold eqE
  split
  · split
    · (intro z; cases z)
    · exact guard_noexc (by intro _ z; cases z) c
  · (intro z; cases z)
theorem opEqE_nox : NoX opEqE := fun x y c => bind_noexc (fun _ => eqE_noexc _) (by intro _ _ z; cases z) c
theorem opNeE_nox : NoX opNeE := fun x y c => bind_noexc (fun _ => eqE_noexc _) (by intro _ _ z; cases z) c
section
variable {K : PySem.W.Frag} {F : Addr → Prop} {H : Hp}
theorem eqE_red {v u : V} {x y : T} {A B : List Addr} (hx : Rp K F H v x A) (hy : Rp K F H u y B) {P : Bool → Prop} (q : Then (eqE x y) P (fun _ => False)) :
    (∃ k, scal v u = true ∧ decide (v = u) = k ∧ P k) ∨ ∃ d e, Dq K H v d ∧ Dq K H u e ∧ SeqAt.topE d e = true ∧ d.depth ≤ 64 ∧ P (SeqAt.eqvE d e) := by
  unfold eqE at q
  split at q
  · rename_i a b e1 e2
    have d1 := hx.dq e1
    have d2 := hy.dq e2
    split at q
    · rename_i k ek
      refine .inl ⟨k, ?_⟩
      have q' : P k := q
      unfold eqS at ek
      split at ek
      · cases d1; cases d2; cases ek
        exact ⟨rfl, by simp [V.int.injEq], q'⟩
      · cases d1; cases d2; cases ek
        exact ⟨rfl, by simp [V.bl.injEq], q'⟩
      · cases d1; cases d2; cases ek
        exact ⟨rfl, by simp [V.str.injEq], q'⟩
      · cases d1; cases d2; cases ek
        exact ⟨rfl, by simp, q'⟩
      · cases ek
    · obtain ⟨g, q⟩ := then_guard.mp q
      rw [Bool.and_eq_true] at g
      exact .inr ⟨a, b, d1, d2, g.1, of_decide_eq_true g.2, q⟩
  · exact q.elim
end
theorem opEqE_v {K : PySem.W.Frag} : OpV K (rEqE2 K) opEqE := by
  intro F H v u x y A B hx hy Q q
  have q' : Then (eqE x y) (fun k => Q (.bl k) H) (fun _ => False) := (then_bind.mp q).imp fun k h => rv_d h (.bl k)
  rcases eqE_red hx hy q' with ⟨k, s, e, q⟩ | ⟨d, e, h1, h2, h3, h4, q⟩
  · exact .inl ⟨s, by rw [e]; exact q⟩
  · exact .inr ⟨d, e, h1, h2, h3, h4, q⟩
theorem opNeE_v {K : PySem.W.Frag} : OpV K (rNeE2 K) opNeE := by
  intro F H v u x y A B hx hy Q q
  have q' : Then (eqE x y) (fun k => Q (.bl (!k)) H) (fun _ => False) := (then_bind.mp q).imp fun k h => rv_d h (.bl (!k))
  rcases eqE_red hx hy q' with ⟨k, s, e, q⟩ | ⟨d, e, h1, h2, h3, h4, q⟩
  · exact .inl ⟨s, by rw [e]; exact q⟩
  · exact .inr ⟨d, e, h1, h2, h3, h4, q⟩
def inE (x y : T) : R Bool := match x.toD, y.toD with
  | some d, some (.list ds) => guard (decide (d.depth ≤ 60)) (.ok (ds.any fun z => SeqAt.eqvE z d))
  | _, _ => .bad
def opNotInE (x y : T) : R RV := (inE x y).bind fun k => .ok (.v (.d (.bool (!k))))
theorem inE_noexc {x y : T} (c : Str) : inE x y ≠ .exc c := by
  unfold inE
  split
  · exact guard_noexc (by intro _ z; cases z) c
  · (intro z; cases z)
theorem opNotInE_nox : NoX opNotInE := fun x y c => bind_noexc (fun _ => inE_noexc _) (by intro _ _ z; cases z) c
theorem inE_red {K : PySem.W.Frag} {F : Addr → Prop} {H : Hp} {v u : V} {x y : T} {A B : List Addr} (hx : Rp K F H v x A) (hy : Rp K F H u y B) {P : Bool → Prop} (q : Then (inE x y) P (fun _ => False)) :
    ∃ d ds, Dq K H v d ∧ Dq K H u (.list ds) ∧ d.depth ≤ 60 ∧ P (ds.any fun z => SeqAt.eqvE z d) := by
  unfold inE at q
  split at q
  · rename_i d ds e1 e2
    obtain ⟨g, q⟩ := then_guard.mp q
    exact ⟨d, ds, hx.dq e1, hy.dq e2, of_decide_eq_true g, q⟩
  · exact q.elim
theorem opNotInE_v {K : PySem.W.Frag} : OpV K (rNotInE K) opNotInE := by
  intro F H v u x y A B hx hy Q q
  exact inE_red hx hy ((then_bind.mp q).imp fun k h => rv_d h (.bl (!k)))
end L3
namespace Sr
open PySem PySem.Spec PyProof.Rows L2 L3
@[irreducible] noncomputable def m_is_order : List T → R (T × List T) := mFn [] 3 (
    mSeq (mAsg (mBin opAdd (mFz (mLc (miR1 (mCons (mLift (pCallB opLen (pCons (pBin opIdx (pVar 0) (pC (.int 0))) (pNil)))) (mNil))) (mgName 4) (mtYes) (mTup (mCons (mLift (pC (.str "size"))) (mCons (mVar 4) (mNil)))) [4])) (mFz (mLc (miR1 (mCons (mLift (pCallB opLen (pCons (pBin opIdx (pVar 0) (pC (.int 1))) (pNil)))) (mNil))) (mgName 4) (mtYes) (mTup (mCons (mLift (pC (.str "shim"))) (mCons (mVar 4) (mNil)))) [4]))) (mgName 2)) <|
    mSeq (mIfS (mTest (mLift (pBin opNe (pCallB opLen (pCons (pVar 1) (pNil))) (pCallB opLen (pCons (pVar 2) (pNil)))))) (mRet (mLift (pC (.bool false)))) (mNext)) <|
    mSeq (mFor (miL (mVar 1)) (mgName 3) (mSeq (mIfS (mOr (mNot (mTest (mLift (pIsa "tuple" (pVar 3))))) (mOr (mTest (mLift (pBin opNotInE (pVar 3) (pVar 2)))) (mTest (mLift (pIsa "bool" (pBin opIdx (pVar 3) (pC (.int 1)))))))) (mRet (mLift (pC (.bool false)))) (mNext)) <|
    mDrop (mMeth 2 (lHere) opRemove (mCons (mVar 3) (mNil))))) <|
    mRet (mLift (pC (.bool true))))
@[irreducible] noncomputable def m__law_spoilt_3 : List T → R (T × List T) := mFn [] 8 (
    mSeq (mAsg (mLift (pBin opMod (pBin opFdiv (pVar 2) (pC (.int 12))) (pCallB opLen (pCons (pVar 0) (pNil))))) (mgName 3)) <|
    mSeq (mAsg (mLift (pBin opIdx (pVar 0) (pVar 3))) (mgTup 2 (mgCons (mgName 8) (mgCons (mgName 9) (mgNil))))) <|
    mSeq (mAsg (mFz (mLst (mCons (mTup (mCons (mVar 8) (mCons (mVar 9) (mNil)))) (mCons (mTup (mCons (mVar 8) (mCons (mVar 9) (mNil)))) (mCons (mTup (mCons (mVar 8) (mCons (mLift (pBin opAdd (pVar 9) (pC (.int 1)))) (mNil)))) (mCons (mTup (mCons (mVar 8) (mCons (mLift (pBin opSub (pUn opNeg (pC (.int 1))) (pBin opMod (pBin opFdiv (pVar 2) (pC (.int 12))) (pC (.int 9))))) (mNil)))) (mCons (mTup (mCons (mVar 8) (mCons (mLift (pBin opEq (pVar 9) (pC (.int 0)))) (mNil)))) (mCons (mTup (mCons (mVar 8) (mCons (mLift (pBin opGt (pVar 9) (pC (.int 0)))) (mNil)))) (mNil))))))))) (mgName 4)) <|
    mSeq (mAsg (mFz (mBin opAdd (mVar 4) (mFz (mLst (mCons (mTup (mCons (mLift (pC (.str "seize"))) (mCons (mVar 9) (mNil)))) (mCons (mFz (mLst (mCons (mVar 8) (mCons (mVar 9) (mNil))))) (mCons (mVar 8) (mCons (mLift (pC .none)) (mCons (mTup (mCons (mVar 8) (mCons (mVar 9) (mCons (mVar 9) (mNil))))) (mCons (mTup (mCons (mVar 8) (mCons (mLift (pBin opPow (pC (.int 10)) (pC (.int 30)))) (mNil)))) (mNil))))))))))) (mgName 4)) <|
    mSeq (mAsg (mFz (mBin opAdd (mVar 4) (mFz (mLst (mCons (mTup (mCons (mVar 8) (mCons (mFz (mLst (mCons (mVar 9) (mNil)))) (mNil)))) (mCons (mTup (mCons (mVar 8) (mCons (mFz (mDispE)) (mNil)))) (mCons (mTup (mCons (mFz (mLst (mCons (mVar 8) (mNil)))) (mCons (mVar 9) (mNil)))) (mCons (mTup (mCons (mFz (mDispE)) (mCons (mVar 9) (mNil)))) (mCons (mTup (mCons (mVar 8) (mCons (mLift (pC .none)) (mNil)))) (mCons (mTup (mCons (mVar 8) (mNil))) (mCons (mTup (mNil)) (mCons (mFz (mDispE)) (mNil))))))))))))) (mgName 4)) <|
    mSeq (mAsg (mBin opIdx (mLst (mCons (mLift (pC (.str "size"))) (mCons (mLift (pC (.str "shim"))) (mNil)))) (mLift (pCallB opInt1 (pCons (pBin opEq (pVar 8) (pC (.str "size"))) (pNil))))) (mgName 5)) <|
    mSeq (mAsg (mFz (mBin opAdd (mVar 4) (mFz (mLst (mCons (mTup (mCons (mVar 5) (mCons (mVar 9) (mNil)))) (mCons (mTup (mCons (mVar 5) (mCons (mLift (pBin opAdd (pVar 9) (pC (.int 1)))) (mNil)))) (mCons (mTup (mCons (mVar 5) (mCons (mLift (pBin opSub (pCallB opLen (pCons (pVar 0) (pNil))) (pC (.int 1)))) (mNil)))) (mNil)))))))) (mgName 4)) <|
    mSeq (mAsg (mFz (mBin opAdd (mVar 4) (mFz (mLst (mCons (mTup (mCons (mVar 9) (mCons (mVar 8) (mNil)))) (mCons (mTup (mCons (mLift (pC (.str "size"))) (mCons (mLift (pBin opAdd (pVar 1) (pVar 9))) (mNil)))) (mCons (mTup (mCons (mLift (pC (.str "shim"))) (mCons (mLift (pBin opSub (pVar 9) (pVar 1))) (mNil)))) (mNil)))))))) (mgName 4)) <|
    mSeq (mAsg (mBin opAdd (mFz (mBin opAdd (mFz (mSl opSlL (pVar 0) (oNone) (oSome (pVar 3)))) (mFz (mLst (mCons (mLift (pBin opIdx (pVar 4) (pBin opMod (pVar 2) (pC (.int 26))))) (mNil)))))) (mFz (mSl opSlL (pVar 0) (oSome (pBin opAdd (pVar 3) (pC (.int 1)))) (oNone)))) (mgName 6)) <|
    mSeq (mAsg (mLift (pBin opMod (pBin opFdiv (pVar 2) (pC (.int 312))) (pC (.int 6)))) (mgName 7)) <|
    mSeq (mIfS (mTest (mLift (pBin opEq (pVar 7) (pC (.int 1))))) (mDrop (mMeth 6 (lHere) opPopAt (mCons (mVar 3) (mNil)))) (mNext)) <|
    mSeq (mIfS (mTest (mLift (pBin opEq (pVar 7) (pC (.int 2))))) (mDrop (mMeth 6 (lHere) opAppend (mCons (mLift (pBin opIdx (pVar 0) (pVar 3))) (mNil)))) (mNext)) <|
    mSeq (mIfS (mTest (mLift (pBin opEq (pVar 7) (pC (.int 3))))) (mSeq (mAsg (mLift (pBin opMod (pBin opFdiv (pVar 2) (pC (.int 1872))) (pCallB opLen (pCons (pVar 0) (pNil))))) (mgName 10)) <|
    mSeq (mAsg (mCallB opListOf (mCons (mVar 0) (mNil))) (mgName 6)) <|
    mSeq (mAsg (mTup (mCons (mVar 8) (mCons (mLift (pBin opIdx (pBin opIdx (pVar 0) (pVar 10)) (pC (.int 1)))) (mNil)))) (mgItem 6 (lHere) (pVar 3))) <|
    mAsg (mTup (mCons (mLift (pBin opIdx (pBin opIdx (pVar 0) (pVar 10)) (pC (.int 0)))) (mCons (mVar 9) (mNil)))) (mgItem 6 (lHere) (pVar 10))) (mNext)) <|
    mRet (mVar 6))
@[irreducible] noncomputable def m__law_due_10 : List T → R (T × List T) := mFn [] 3 (
    mSeq (mAsg (mDisp [.inr "size", .inr "shim"] (mCons (mLift (pCallB opLen (pCons (pBin opIdx (pVar 0) (pC (.int 0))) (pNil)))) (mCons (mLift (pCallB opLen (pCons (pBin opIdx (pVar 0) (pC (.int 1))) (pNil)))) (mNil)))) (mgName 2)) <|
    mSeq (mAsg (mLst (mNil)) (mgName 3)) <|
    mSeq (mFor (miL (mVar 1)) (mgName 4) (mSeq (mIfS (mOr (mNot (mTest (mLift (pIsa "tuple" (pVar 4))))) (mOr (mTest (mLift (pBin opNe (pCallB opLen (pCons (pVar 4) (pNil))) (pC (.int 2))))) (mTest (mBin opNotInE (mLift (pBin opIdx (pVar 4) (pC (.int 0)))) (mFz (mLst (mCons (mLift (pC (.str "size"))) (mCons (mLift (pC (.str "shim"))) (mNil))))))))) (mRet (mLift (pC (.bool false)))) (mNext)) <|
    mSeq (mIfS (mOr (mTest (mLift (pIsa "bool" (pBin opIdx (pVar 4) (pC (.int 1)))))) (mOr (mNot (mTest (mLift (pIsa "int" (pBin opIdx (pVar 4) (pC (.int 1))))))) (mTest (mLift (pBin opInD (pVar 4) (pVar 3)))))) (mRet (mLift (pC (.bool false)))) (mNext)) <|
    mSeq (mIfS (mOr (mTest (mLift (pBin opLt (pBin opIdx (pVar 4) (pC (.int 1))) (pC (.int 0))))) (mTest (mLift (pBin opGe (pBin opIdx (pVar 4) (pC (.int 1))) (pBin opKey (pVar 2) (pBin opIdx (pVar 4) (pC (.int 0)))))))) (mRet (mLift (pC (.bool false)))) (mNext)) <|
    mDrop (mMeth 3 (lHere) opAppend (mCons (mVar 4) (mNil))))) <|
    mRet (mLift (pBin opEq (pCallB opLen (pCons (pVar 3) (pNil))) (pBin opAdd (pBin opKey (pVar 2) (pC (.str "size"))) (pBin opKey (pVar 2) (pC (.str "shim")))))))
@[irreducible] noncomputable def m_law_69 : List T → R (T × List T) := mFn [] 4 (
    mSeq (mAsg (mCallF false false 1 m__law_plan_9 [none] (mbCons (mRd 0) (mbNil))) (mgName 1)) <|
    mSeq (mAsg (mCallF false false 2 m__law_order_2 [none, none] (mbCons (mVar 1) (mbCons (mCallF false false 2 m__law_cell_at [none, none] (mbCons (mRd 0) (mbCons (mLift (pC (.int 10))) (mbNil)))) (mbNil)))) (mgName 2)) <|
    mSeq (mIfS (mTest (mBin opGt (mBin opMod (mCallF false false 2 m__law_cell_at [none, none] (mbCons (mRd 0) (mbCons (mLift (pC (.int 11))) (mbNil)))) (mLift (pC (.int 4)))) (mLift (pC (.int 0))))) (mAsg (mCallF false false 3 m__law_spoilt_3 [none, none, none] (mbCons (mVar 2) (mbCons (mLift (pCallB opLen (pCons (pBin opIdx (pVar 1) (pC (.int 0))) (pNil)))) (mbCons (mBin opFdiv (mCallF false false 2 m__law_cell_at [none, none] (mbCons (mRd 0) (mbCons (mLift (pC (.int 11))) (mbNil)))) (mLift (pC (.int 4)))) (mbNil))))) (mgName 2)) (mNext)) <|
    mSeq (mAsg (mTup (mCons (mCallF false false 1 m__law_copy_2 [none] (mbCons (mVar 1) (mbNil))) (mCons (mFz (mCallB opListOf (mCons (mVar 2) (mNil)))) (mNil)))) (mgName 3)) <|
    mSeq (mAsg (mCallF false false 2 m_is_order [none, none] (mbCons (mLift (pBin opIdx (pVar 3) (pC (.int 0)))) (mbCons (mLift (pBin opIdx (pVar 3) (pC (.int 1)))) (mbNil)))) (mgName 4)) <|
    mSeq (mIfS (mOr (mNot (mTest (mLift (pIsa "bool" (pVar 4))))) (mOr (mTest (mBin opNe (mVar 4) (mCallF false false 2 m__law_due_10 [none, none] (mbCons (mVar 1) (mbCons (mVar 2) (mbNil)))))) (mTest (mBin opNeE (mVar 3) (mTup (mCons (mVar 1) (mCons (mVar 2) (mNil)))))))) (mRet (mLift (pC (.bool false)))) (mNext)) <|
    mRet (mAndV (mBin opEq (mCallF false false 2 m_is_order [none, none] (mbCons (mLift (pBin opIdx (pVar 3) (pC (.int 0)))) (mbCons (mLift (pBin opIdx (pVar 3) (pC (.int 1)))) (mbNil)))) (mVar 4)) (mAndV (mBin opEqE (mVar 3) (mTup (mCons (mVar 1) (mCons (mVar 2) (mNil))))) (mNotV (mCallF false false 2 m_is_order [none, none] (mbCons (mLift (pBin opIdx (pVar 3) (pC (.int 0)))) (mbCons (mFz (mLst (mNil))) (mbNil))))))))
end Sr
namespace Sr
open PySem PySem.Spec PyProof.Rows L2 L3
def topS (i : Nat) : Stmt := PySem.Challenge.pw_shimright_k67_is_an_order.main.body.getD i (.Pass ⟨0, 0, 0, 0⟩)
abbrev s_is_order : Stmt := topS 1
abbrev N_is_order : List Str := ["plan", "order", "due", "thing", "k"]
theorem sc_is_order : FnScope N_is_order ["plan", "order"] (defScope s_is_order) := ⟨rfl, rfl, rfl, by decide +kernel, rfl, by decide +kernel, by decide +kernel⟩
abbrev s__law_cell_at : Stmt := topS 3
abbrev N__law_cell_at : List Str := ["script", "k"]
theorem sc__law_cell_at : FnScope N__law_cell_at ["script", "k"] (defScope s__law_cell_at) := ⟨rfl, rfl, rfl, by decide +kernel, rfl, by decide +kernel, by decide +kernel⟩
abbrev s__law_mixed : Stmt := topS 4
abbrev N__law_mixed : List Str := ["cell", "k", "number"]
theorem sc__law_mixed : FnScope N__law_mixed ["cell", "k"] (defScope s__law_mixed) := ⟨rfl, rfl, rfl, by decide +kernel, rfl, by decide +kernel, by decide +kernel⟩
abbrev s__law_fraction : Stmt := topS 5
abbrev N__law_fraction : List Str := ["top", "bottom", "one", "other"]
theorem sc__law_fraction : FnScope N__law_fraction ["top", "bottom"] (defScope s__law_fraction) := ⟨rfl, rfl, rfl, by decide +kernel, rfl, by decide +kernel, by decide +kernel⟩
abbrev s__law_shares : Stmt := topS 9
abbrev N__law_shares : List Str := ["left", "many", "found", "k"]
theorem sc__law_shares : FnScope N__law_shares ["left", "many"] (defScope s__law_shares) := ⟨rfl, rfl, rfl, by decide +kernel, rfl, by decide +kernel, by decide +kernel⟩
abbrev s__law_order : Stmt := topS 11
abbrev N__law_order : List Str := ["plan", "cell", "found", "thing", "k"]
theorem sc__law_order : FnScope N__law_order ["plan", "cell"] (defScope s__law_order) := ⟨rfl, rfl, rfl, by decide +kernel, rfl, by decide +kernel, by decide +kernel⟩
abbrev s__law_copy : Stmt := topS 12
abbrev N__law_copy : List Str := ["plan", "sizes", "shims", "demands", "a", "b", "c"]
theorem sc__law_copy : FnScope N__law_copy ["plan"] (defScope s__law_copy) := ⟨rfl, rfl, rfl, by decide +kernel, rfl, by decide +kernel, by decide +kernel⟩
abbrev s__law_spoilt : Stmt := topS 13
abbrev N__law_spoilt : List Str := ["order", "many", "cell", "spot", "things", "word", "found", "way", "kind", "k", "other"]
theorem sc__law_spoilt : FnScope N__law_spoilt ["order", "many", "cell"] (defScope s__law_spoilt) := ⟨rfl, rfl, rfl, by decide +kernel, rfl, by decide +kernel, by decide +kernel⟩
abbrev s__law_due : Stmt := topS 14
abbrev N__law_due : List Str := ["plan", "order", "many", "seen", "thing"]
theorem sc__law_due : FnScope N__law_due ["plan", "order"] (defScope s__law_due) := ⟨rfl, rfl, rfl, by decide +kernel, rfl, by decide +kernel, by decide +kernel⟩
abbrev s__law_plus : Stmt := topS 6
abbrev N__law_plus : List Str := ["q", "r"]
theorem sc__law_plus : FnScope N__law_plus ["q", "r"] (defScope s__law_plus) := ⟨rfl, rfl, rfl, by decide +kernel, rfl, by decide +kernel, by decide +kernel⟩
abbrev s__law_bounds : Stmt := topS 8
abbrev N__law_bounds : List Str := ["left", "low"]
theorem sc__law_bounds : FnScope N__law_bounds ["left"] (defScope s__law_bounds) := ⟨rfl, rfl, rfl, by decide +kernel, rfl, by decide +kernel, by decide +kernel⟩
abbrev s__law_plan : Stmt := topS 10
abbrev N__law_plan : List Str := ["script", "cell", "sizes", "shims", "demands", "k", "left", "a", "b"]
theorem sc__law_plan : FnScope N__law_plan ["script"] (defScope s__law_plan) := ⟨rfl, rfl, rfl, by decide +kernel, rfl, by decide +kernel, by decide +kernel⟩
abbrev s_law : Stmt := topS 15
abbrev N_law : List Str := ["script", "plan", "order", "handed", "found"]
theorem sc_law : FnScope N_law ["script"] (defScope s_law) := ⟨rfl, rfl, rfl, by decide +kernel, rfl, by decide +kernel, by decide +kernel⟩
structure Tx (K : PySem.W.Frag) (mg : Str → Option Value) where
  f_is_order : Addr
  d_is_order : FuncData
  F_is_order : Fun K "is_order" "is_order" s_is_order f_is_order d_is_order
  b_is_order : Binds K d_is_order ["plan", "order"] []
  g_is_order : mg "is_order" = some (.ref f_is_order)
  f__law_cell_at : Addr
  d__law_cell_at : FuncData
  F__law_cell_at : Fun K "_law_cell_at" "_law_cell_at" s__law_cell_at f__law_cell_at d__law_cell_at
  b__law_cell_at : Binds K d__law_cell_at ["script", "k"] []
  g__law_cell_at : mg "_law_cell_at" = some (.ref f__law_cell_at)
  f__law_mixed : Addr
  d__law_mixed : FuncData
  F__law_mixed : Fun K "_law_mixed" "_law_mixed" s__law_mixed f__law_mixed d__law_mixed
  b__law_mixed : Binds K d__law_mixed ["cell", "k"] []
  g__law_mixed : mg "_law_mixed" = some (.ref f__law_mixed)
  f__law_fraction : Addr
  d__law_fraction : FuncData
  F__law_fraction : Fun K "_law_fraction" "_law_fraction" s__law_fraction f__law_fraction d__law_fraction
  b__law_fraction : Binds K d__law_fraction ["top", "bottom"] []
  g__law_fraction : mg "_law_fraction" = some (.ref f__law_fraction)
  f__law_shares : Addr
  d__law_shares : FuncData
  F__law_shares : Fun K "_law_shares" "_law_shares" s__law_shares f__law_shares d__law_shares
  b__law_shares : Binds K d__law_shares ["left", "many"] []
  g__law_shares : mg "_law_shares" = some (.ref f__law_shares)
  f__law_order : Addr
  d__law_order : FuncData
  F__law_order : Fun K "_law_order" "_law_order" s__law_order f__law_order d__law_order
  b__law_order : Binds K d__law_order ["plan", "cell"] []
  g__law_order : mg "_law_order" = some (.ref f__law_order)
  f__law_copy : Addr
  d__law_copy : FuncData
  F__law_copy : Fun K "_law_copy" "_law_copy" s__law_copy f__law_copy d__law_copy
  b__law_copy : Binds K d__law_copy ["plan"] []
  g__law_copy : mg "_law_copy" = some (.ref f__law_copy)
  f__law_spoilt : Addr
  d__law_spoilt : FuncData
  F__law_spoilt : Fun K "_law_spoilt" "_law_spoilt" s__law_spoilt f__law_spoilt d__law_spoilt
  b__law_spoilt : Binds K d__law_spoilt ["order", "many", "cell"] []
  g__law_spoilt : mg "_law_spoilt" = some (.ref f__law_spoilt)
  f__law_due : Addr
  d__law_due : FuncData
  F__law_due : Fun K "_law_due" "_law_due" s__law_due f__law_due d__law_due
  b__law_due : Binds K d__law_due ["plan", "order"] []
  g__law_due : mg "_law_due" = some (.ref f__law_due)
  f__law_plus : Addr
  d__law_plus : FuncData
  F__law_plus : Fun K "_law_plus" "_law_plus" s__law_plus f__law_plus d__law_plus
  b__law_plus : Binds K d__law_plus ["q", "r"] []
  g__law_plus : mg "_law_plus" = some (.ref f__law_plus)
  f__law_bounds : Addr
  d__law_bounds : FuncData
  F__law_bounds : Fun K "_law_bounds" "_law_bounds" s__law_bounds f__law_bounds d__law_bounds
  b__law_bounds : Binds K d__law_bounds ["left"] []
  g__law_bounds : mg "_law_bounds" = some (.ref f__law_bounds)
  f__law_plan : Addr
  d__law_plan : FuncData
  F__law_plan : Fun K "_law_plan" "_law_plan" s__law_plan f__law_plan d__law_plan
  b__law_plan : Binds K d__law_plan ["script"] []
  g__law_plan : mg "_law_plan" = some (.ref f__law_plan)
  f_law : Addr
  d_law : FuncData
  F_law : Fun K "law" "law" s_law f_law d_law
  b_law : Binds K d_law ["script"] []
  g_law : mg "law" = some (.ref f_law)
  z_bool : mg "bool" = none
  z_int : mg "int" = none
  z_isinstance : mg "isinstance" = none
  z_len : mg "len" = none
  z_list : mg "list" = none
  z_max : mg "max" = none
  z_range : mg "range" = none
  z_tuple : mg "tuple" = none
section
variable {P : Program} {w : World} {K : PySem.W.Frag} {mg : Str → Option Value} {base : Heap}
theorem ok_is_order (T : Tx K mg) : FnOk P w K mg base CX0 1 T.f_is_order T.d_is_order ["plan", "order"] (spT K false (fun _ => none) 2 [] m_is_order) := by
  unfold m_is_order
  refine fnT (N := N_is_order) (ps := ["plan", "order"]) (k := 0) T.F_is_order sc_is_order (by decide) (by decide) fun cdv A outer s H E hr => ?_
  exact ⟨_, qss_cons (qs_set (i := 2) sc_is_order.nd (qe_op op_addA opAdd_v opAdd_nox (QE.fz (qe_lcC (own := [("k", 4)]) (vs := [4]) rfl rfl sc_is_order.nd  (qi_range1 T.z_range (qa_cons (QP.lift (qp_callB call_lenA opLen_v T.z_len bt_len (qpa_cons (qp_ix (qp_var 0) (qp_int)) (qpa_nil)))) (qa_nil))) (blkOk_by (N := N_is_order) (sc := defScope s_is_order) (by decide +kernel)) (fun _ _ _ _ _ => ⟨_, qg_name (i := 4) sc_is_order.nd⟩) (fun _ _ _ _ _ => ⟨_, qts_nil⟩) (fun _ _ _ _ _ => ⟨_, qe_tup (qa_cons (QP.lift (qp_str)) (qa_cons (qe_var 4) (qa_nil)))⟩) s H)) (QE.fz (qe_lcC (own := [("k", 4)]) (vs := [4]) rfl rfl sc_is_order.nd  (qi_range1 T.z_range (qa_cons (QP.lift (qp_callB call_lenA opLen_v T.z_len bt_len (qpa_cons (qp_ix (qp_var 0) (qp_int)) (qpa_nil)))) (qa_nil))) (blkOk_by (N := N_is_order) (sc := defScope s_is_order) (by decide +kernel)) (fun _ _ _ _ _ => ⟨_, qg_name (i := 4) sc_is_order.nd⟩) (fun _ _ _ _ _ => ⟨_, qts_nil⟩) (fun _ _ _ _ _ => ⟨_, qe_tup (qa_cons (QP.lift (qp_str)) (qa_cons (qe_var 4) (qa_nil)))⟩) s H)))) <|
    qss_cons (qs_if (qt_pcmp (op_neA hr.units) opNe_v (qp_callB call_lenA opLen_v T.z_len bt_len (qpa_cons (qp_var 1) (qpa_nil))) (qp_callB call_lenA opLen_v T.z_len bt_len (qpa_cons (qp_var 2) (qpa_nil))) (nomark _)) (qss_one (qs_ret (QP.lift (qp_bl)))) (qss_nil)) <|
    qss_cons (qs_for rfl PassesOwn.never (qi_list (qe_var 1)) (qg_name (i := 3) sc_is_order.nd) (qss_cons (qs_if (QW.qt (qw_or (qt_not (qt_val (QP.lift (qp_isi (n := "tuple") (qp_var 3) T.z_isinstance T.z_tuple bt_tuple)))) (qw_or (qt_pcmp (op_notInE hr.units) opNotInE_v (qp_var 3) (qp_var 2) rfl) (qw_or1 (qt_val (QP.lift (qp_isi (n := "bool") (qp_ix (qp_var 3) (qp_int)) T.z_isinstance T.z_bool bt_bool))))))) (qss_one (qs_ret (QP.lift (qp_bl)))) (qss_nil)) <|
    qss_one (qs_expr (qe_meth (i := 2) PySem.F.slot_list_remove PySem.F.type_list_remove (mt_removeD (u65 hr)) remove_v (ql_name 2) (qa_cons (qe_var 3) (qa_nil)) (.inr fun _ _ => lHere_nil))))) <|
    qss_one (qs_ret (QP.lift (qp_bl)))⟩
theorem ok__law_cell_at (T : Tx K mg) : FnOk P w K mg base CX0 1 T.f__law_cell_at T.d__law_cell_at ["script", "k"] (spT K false (fun _ => none) 2 [] m__law_cell_at) := by
  unfold m__law_cell_at
  refine fnT (N := N__law_cell_at) (ps := ["script", "k"]) (k := 0) T.F__law_cell_at sc__law_cell_at (by decide) (by decide) fun cdv A outer s H E hr => ?_
  exact ⟨_, qss_cons (qs_if (qt_pcmp op_ltA opLt_v (qp_var 1) (qp_callB call_lenA opLen_v T.z_len bt_len (qpa_cons (qp_var 0) (qpa_nil))) (nomark _)) (qss_one (qs_ret (QP.lift (qp_ix (qp_var 0) (qp_var 1))))) (qss_nil)) <|
    qss_one (qs_ret (QP.lift (qp_int)))⟩
theorem ok__law_mixed (T : Tx K mg) : FnOk P w K mg base CX0 1 T.f__law_mixed T.d__law_mixed ["cell", "k"] (spT K false (fun _ => none) 2 [] m__law_mixed_3) := by
  unfold m__law_mixed_3
  refine fnT (N := N__law_mixed) (ps := ["cell", "k"]) (k := 0) T.F__law_mixed sc__law_mixed (by decide) (by decide) fun cdv A outer s H E hr => ?_
  exact ⟨_, qss_cons (qs_if (qt_pcmp op_geA opGe_v (qp_var 0) (qp_op op_powA opPow_v (qp_int) (qp_int)) (nomark _)) (qss_one (qs_ret (qe_var 0))) (qss_nil)) <|
    qss_cons (qs_set (i := 2) sc__law_mixed.nd (QP.lift (qp_op op_modA opMod_v (qp_op op_addA opAdd_v (qp_op op_addA opAdd_v (qp_op op_addA opAdd_v (qp_op op_mulA opMulI_v (qp_var 0) (qp_int)) (qp_op op_mulA opMulI_v (qp_op op_mulA opMulI_v (qp_int) (qp_var 1)) (qp_var 1))) (qp_op op_mulA opMulI_v (qp_int) (qp_var 1))) (qp_int)) (qp_int)))) <|
    qss_cons (qs_set (i := 2) sc__law_mixed.nd (QP.lift (qp_op op_modA opMod_v (qp_op op_mulA opMulI_v (qp_var 2) (qp_var 2)) (qp_int)))) <|
    qss_one (qs_ret (QP.lift (qp_op op_addA opAdd_v (qp_op op_addA opAdd_v (qp_op op_mulA opMulI_v (qp_op op_mulA opMulI_v (qp_var 2) (qp_var 2)) (qp_var 2)) (qp_op op_mulA opMulI_v (qp_int) (qp_var 2))) (qp_var 1))))⟩
theorem ok__law_fraction (T : Tx K mg) : FnOk P w K mg base CX0 1 T.f__law_fraction T.d__law_fraction ["top", "bottom"] (spT K false (fun _ => none) 2 [] m__law_fraction_6) := by
  unfold m__law_fraction_6
  refine fnT (N := N__law_fraction) (ps := ["top", "bottom"]) (k := 0) T.F__law_fraction sc__law_fraction (by decide) (by decide) fun cdv A outer s H E hr => ?_
  exact ⟨_, qss_cons (qs_set (i := 2) sc__law_fraction.nd (QP.lift (qp_callB (call_max2A rfl) opMax2_v T.z_max bt_max (qpa_cons (qp_var 0) (qpa_cons (qp_op op_subA opSub_v (qp_int) (qp_var 0)) (qpa_nil)))))) <|
    qss_cons (qs_set (i := 3) sc__law_fraction.nd (qe_var 1)) <|
    qss_cons (qs_while PassesOwn.never (qt_pcmp op_gtA opGt_v (qp_var 2) (qp_int) (nomark _)) (qss_one (qs_par (i := 2) (j := 3) rfl sc__law_fraction.nd (qa_cons (QP.lift (qp_op op_modA opMod_v (qp_var 3) (qp_var 2))) (qa_cons (qe_var 2) (qa_nil)))))) <|
    qss_one (qs_ret (qe_tup (qa_cons (QP.lift (qp_op op_fdivA opFdiv_v (qp_var 0) (qp_var 3))) (qa_cons (QP.lift (qp_op op_fdivA opFdiv_v (qp_var 1) (qp_var 3))) (qa_nil)))))⟩
theorem ok__law_shares (T : Tx K mg) : FnOk P w K mg base CX0 1 T.f__law_shares T.d__law_shares ["left", "many"] (spT K false (fun _ => none) 2 [] m__law_shares) := by
  unfold m__law_shares
  refine fnT (N := N__law_shares) (ps := ["left", "many"]) (k := 0) T.F__law_shares sc__law_shares (by decide) (by decide) fun cdv A outer s H E hr => ?_
  exact ⟨_, qss_cons (qs_set (i := 2) sc__law_shares.nd (qe_lst (qa_nil))) <|
    qss_cons (qs_for rfl PassesOwn.never (qi_range1 T.z_range (qa_cons (qe_var 1) (qa_nil))) (qg_name (i := 3) sc__law_shares.nd) (qss_cons (qs_expr (qe_meth (i := 2) PySem.F.slot_list_append PySem.F.type_list_append mt_append append_v (ql_name 2) (qa_cons (qe_ix (qe_lst (qa_cons (qe_tup (qa_cons (QP.lift (qp_int)) (qa_cons (QP.lift (qp_int)) (qa_nil)))) (qa_cons (qe_tup (qa_cons (QP.lift (qp_int)) (qa_cons (QP.lift (qp_int)) (qa_nil)))) (qa_cons (qe_tup (qa_cons (QP.lift (qp_neg (qp_int))) (qa_cons (QP.lift (qp_int)) (qa_nil)))) (qa_cons (qe_tup (qa_cons (QP.lift (qp_int)) (qa_cons (QP.lift (qp_int)) (qa_nil)))) (qa_cons (qe_tup (qa_cons (QP.lift (qp_neg (qp_int))) (qa_cons (QP.lift (qp_int)) (qa_nil)))) (qa_nil))))))) (QP.lift (qp_op op_modA opMod_v (qp_var 0) (qp_int)))) (qa_nil)) (.inr fun _ _ => lHere_nil))) <|
    qss_one (qs_set (i := 0) sc__law_shares.nd (QP.lift (qp_op op_fdivA opFdiv_v (qp_var 0) (qp_int)))))) <|
    qss_one (qs_ret (qe_tup (qa_cons (qe_var 2) (qa_cons (qe_var 0) (qa_nil)))))⟩
theorem ok__law_order (T : Tx K mg) : FnOk P w K mg base CX0 1 T.f__law_order T.d__law_order ["plan", "cell"] (spT K false (fun _ => none) 2 [] m__law_order_2) := by
  unfold m__law_order_2
  refine fnT (N := N__law_order) (ps := ["plan", "cell"]) (k := 0) T.F__law_order sc__law_order (by decide) (by decide) fun cdv A outer s H E hr => ?_
  exact ⟨_, qss_cons (qs_set (i := 2) sc__law_order.nd (qe_lst (qa_nil))) <|
    qss_cons (qs_for rfl PassesOwn.never (qi_list (QE.fz (qe_op op_addA opAdd_v opAdd_nox (QE.fz (qe_lcC (own := [("k", 4)]) (vs := [4]) rfl rfl sc__law_order.nd  (qi_range1 T.z_range (qa_cons (QP.lift (qp_callB call_lenA opLen_v T.z_len bt_len (qpa_cons (qp_ix (qp_var 0) (qp_int)) (qpa_nil)))) (qa_nil))) (blkOk_by (N := N__law_order) (sc := defScope s__law_order) (by decide +kernel)) (fun _ _ _ _ _ => ⟨_, qg_name (i := 4) sc__law_order.nd⟩) (fun _ _ _ _ _ => ⟨_, qts_nil⟩) (fun _ _ _ _ _ => ⟨_, qe_tup (qa_cons (QP.lift (qp_str)) (qa_cons (qe_var 4) (qa_nil)))⟩) s H)) (QE.fz (qe_lcC (own := [("k", 4)]) (vs := [4]) rfl rfl sc__law_order.nd  (qi_range1 T.z_range (qa_cons (QP.lift (qp_callB call_lenA opLen_v T.z_len bt_len (qpa_cons (qp_ix (qp_var 0) (qp_int)) (qpa_nil)))) (qa_nil))) (blkOk_by (N := N__law_order) (sc := defScope s__law_order) (by decide +kernel)) (fun _ _ _ _ _ => ⟨_, qg_name (i := 4) sc__law_order.nd⟩) (fun _ _ _ _ _ => ⟨_, qts_nil⟩) (fun _ _ _ _ _ => ⟨_, qe_tup (qa_cons (QP.lift (qp_str)) (qa_cons (qe_var 4) (qa_nil)))⟩) s H))))) (qg_name (i := 3) sc__law_order.nd) (qss_cons (qs_expr (qe_meth (i := 2) PySem.F.slot_list_insert PySem.F.type_list_insert mt_insert insert_v (ql_name 2) (qa_cons (QP.lift (qp_op op_modA opMod_v (qp_var 1) (qp_op op_addA opAdd_v (qp_callB call_lenA opLen_v T.z_len bt_len (qpa_cons (qp_var 2) (qpa_nil))) (qp_int)))) (qa_cons (qe_var 3) (qa_nil))) (.inr fun _ _ => lHere_nil))) <|
    qss_one (qs_set (i := 1) sc__law_order.nd (QP.lift (qp_op op_fdivA opFdiv_v (qp_var 1) (qp_int)))))) <|
    qss_one (qs_ret (qe_var 2))⟩
theorem ok__law_copy (T : Tx K mg) : FnOk P w K mg base CX0 1 T.f__law_copy T.d__law_copy ["plan"] (spT K false (fun _ => none) 1 [] m__law_copy_2) := by
  unfold m__law_copy_2
  refine fnT (N := N__law_copy) (ps := ["plan"]) (k := 0) T.F__law_copy sc__law_copy (by decide) (by decide) fun cdv A outer s H E hr => ?_
  exact ⟨_, qss_cons (qs_asg (qe_var 0) (qg_tup rfl (qgs_cons (qg_name (i := 1) sc__law_copy.nd) (qgs_cons (qg_name (i := 2) sc__law_copy.nd) (qgs_cons (qg_name (i := 3) sc__law_copy.nd) (qgs_nil)))))) <|
    qss_one (qs_ret (qe_tup (qa_cons (QE.fz (qe_callTy call_listOf opListOf_v opListOf_nox T.z_list bt_list (qa_cons (qe_var 1) (qa_nil)))) (qa_cons (QE.fz (qe_callTy call_listOf opListOf_v opListOf_nox T.z_list bt_list (qa_cons (qe_var 2) (qa_nil)))) (qa_cons (QE.fz (qe_lcC (own := [("a", 4), ("b", 5), ("c", 6)]) (vs := [4, 5, 6]) rfl rfl sc__law_copy.nd  (qi_list (qe_var 3)) (blkOk_by (N := N__law_copy) (sc := defScope s__law_copy) (by decide +kernel)) (fun _ _ _ _ _ => ⟨_, qg_tup rfl (qgs_cons (qg_name (i := 4) sc__law_copy.nd) (qgs_cons (qg_name (i := 5) sc__law_copy.nd) (qgs_cons (qg_name (i := 6) sc__law_copy.nd) (qgs_nil))))⟩) (fun _ _ _ _ _ => ⟨_, qts_nil⟩) (fun _ _ _ _ _ => ⟨_, qe_tup (qa_cons (QE.fz (qe_callTy call_listOf opListOf_v opListOf_nox T.z_list bt_list (qa_cons (qe_var 4) (qa_nil)))) (qa_cons (QE.fz (qe_callTy call_listOf opListOf_v opListOf_nox T.z_list bt_list (qa_cons (qe_var 5) (qa_nil)))) (qa_cons (qe_var 6) (qa_nil))))⟩) s H)) (qa_nil))))))⟩
theorem ok__law_spoilt (T : Tx K mg) : FnOk P w K mg base CX0 1 T.f__law_spoilt T.d__law_spoilt ["order", "many", "cell"] (spT K false (fun _ => none) 3 [] m__law_spoilt_3) := by
  unfold m__law_spoilt_3
  refine fnT (N := N__law_spoilt) (ps := ["order", "many", "cell"]) (k := 0) T.F__law_spoilt sc__law_spoilt (by decide) (by decide) fun cdv A outer s H E hr => ?_
  exact ⟨_, qss_cons (qs_set (i := 3) sc__law_spoilt.nd (QP.lift (qp_op op_modA opMod_v (qp_op op_fdivA opFdiv_v (qp_var 2) (qp_int)) (qp_callB call_lenA opLen_v T.z_len bt_len (qpa_cons (qp_var 0) (qpa_nil)))))) <|
    qss_cons (qs_asg (QP.lift (qp_ix (qp_var 0) (qp_var 3))) (qg_tup rfl (qgs_cons (qg_name (i := 8) sc__law_spoilt.nd) (qgs_cons (qg_name (i := 9) sc__law_spoilt.nd) (qgs_nil))))) <|
    qss_cons (qs_set (i := 4) sc__law_spoilt.nd (QE.fz (qe_lst (qa_cons (qe_tup (qa_cons (qe_var 8) (qa_cons (qe_var 9) (qa_nil)))) (qa_cons (qe_tup (qa_cons (qe_var 8) (qa_cons (qe_var 9) (qa_nil)))) (qa_cons (qe_tup (qa_cons (qe_var 8) (qa_cons (QP.lift (qp_op op_addA opAdd_v (qp_var 9) (qp_int))) (qa_nil)))) (qa_cons (qe_tup (qa_cons (qe_var 8) (qa_cons (QP.lift (qp_op op_subA opSub_v (qp_neg (qp_int)) (qp_op op_modA opMod_v (qp_op op_fdivA opFdiv_v (qp_var 2) (qp_int)) (qp_int)))) (qa_nil)))) (qa_cons (qe_tup (qa_cons (qe_var 8) (qa_cons (QP.lift (qp_cmp (op_eqA hr.units) opEq_v (qp_var 9) (qp_int) (nomark _))) (qa_nil)))) (qa_cons (qe_tup (qa_cons (qe_var 8) (qa_cons (QP.lift (qp_cmp op_gtA opGt_v (qp_var 9) (qp_int) (nomark _))) (qa_nil)))) (qa_nil)))))))))) <|
    qss_cons (qs_set (i := 4) sc__law_spoilt.nd (QE.fz (qe_op op_addA opAdd_v opAdd_nox (qe_var 4) (QE.fz (qe_lst (qa_cons (qe_tup (qa_cons (QP.lift (qp_str)) (qa_cons (qe_var 9) (qa_nil)))) (qa_cons (QE.fz (qe_lst (qa_cons (qe_var 8) (qa_cons (qe_var 9) (qa_nil))))) (qa_cons (qe_var 8) (qa_cons (QP.lift (qp_non)) (qa_cons (qe_tup (qa_cons (qe_var 8) (qa_cons (qe_var 9) (qa_cons (qe_var 9) (qa_nil))))) (qa_cons (qe_tup (qa_cons (qe_var 8) (qa_cons (QP.lift (qp_op op_powA opPow_v (qp_int) (qp_int))) (qa_nil)))) (qa_nil)))))))))))) <|
    qss_cons (qs_set (i := 4) sc__law_spoilt.nd (QE.fz (qe_op op_addA opAdd_v opAdd_nox (qe_var 4) (QE.fz (qe_lst (qa_cons (qe_tup (qa_cons (qe_var 8) (qa_cons (QE.fz (qe_lst (qa_cons (qe_var 9) (qa_nil)))) (qa_nil)))) (qa_cons (qe_tup (qa_cons (qe_var 8) (qa_cons (QE.fz (qe_dispE)) (qa_nil)))) (qa_cons (qe_tup (qa_cons (QE.fz (qe_lst (qa_cons (qe_var 8) (qa_nil)))) (qa_cons (qe_var 9) (qa_nil)))) (qa_cons (qe_tup (qa_cons (QE.fz (qe_dispE)) (qa_cons (qe_var 9) (qa_nil)))) (qa_cons (qe_tup (qa_cons (qe_var 8) (qa_cons (QP.lift (qp_non)) (qa_nil)))) (qa_cons (qe_tup (qa_cons (qe_var 8) (qa_nil))) (qa_cons (qe_tup (qa_nil)) (qa_cons (QE.fz (qe_dispE)) (qa_nil)))))))))))))) <|
    qss_cons (qs_set (i := 5) sc__law_spoilt.nd (qe_ix (qe_lst (qa_cons (QP.lift (qp_str)) (qa_cons (QP.lift (qp_str)) (qa_nil)))) (QP.lift (qp_callTy call_int1A opInt1_v T.z_int bt_int (qpa_cons (qp_cmp (op_eqA hr.units) opEq_v (qp_var 8) (qp_str) (nomark _)) (qpa_nil)))))) <|
    qss_cons (qs_set (i := 4) sc__law_spoilt.nd (QE.fz (qe_op op_addA opAdd_v opAdd_nox (qe_var 4) (QE.fz (qe_lst (qa_cons (qe_tup (qa_cons (qe_var 5) (qa_cons (qe_var 9) (qa_nil)))) (qa_cons (qe_tup (qa_cons (qe_var 5) (qa_cons (QP.lift (qp_op op_addA opAdd_v (qp_var 9) (qp_int))) (qa_nil)))) (qa_cons (qe_tup (qa_cons (qe_var 5) (qa_cons (QP.lift (qp_op op_subA opSub_v (qp_callB call_lenA opLen_v T.z_len bt_len (qpa_cons (qp_var 0) (qpa_nil))) (qp_int))) (qa_nil)))) (qa_nil))))))))) <|
    qss_cons (qs_set (i := 4) sc__law_spoilt.nd (QE.fz (qe_op op_addA opAdd_v opAdd_nox (qe_var 4) (QE.fz (qe_lst (qa_cons (qe_tup (qa_cons (qe_var 9) (qa_cons (qe_var 8) (qa_nil)))) (qa_cons (qe_tup (qa_cons (QP.lift (qp_str)) (qa_cons (QP.lift (qp_op op_addA opAdd_v (qp_var 1) (qp_var 9))) (qa_nil)))) (qa_cons (qe_tup (qa_cons (QP.lift (qp_str)) (qa_cons (QP.lift (qp_op op_subA opSub_v (qp_var 9) (qp_var 1))) (qa_nil)))) (qa_nil))))))))) <|
    qss_cons (qs_set (i := 6) sc__law_spoilt.nd (qe_op op_addA opAdd_v opAdd_nox (QE.fz (qe_op op_addA opAdd_v opAdd_nox (QE.fz (qe_slL (qp_var 0) (qo_none) (qo_some (qp_var 3)))) (QE.fz (qe_lst (qa_cons (QP.lift (qp_ix (qp_var 4) (qp_op op_modA opMod_v (qp_var 2) (qp_int)))) (qa_nil)))))) (QE.fz (qe_slL (qp_var 0) (qo_some (qp_op op_addA opAdd_v (qp_var 3) (qp_int))) (qo_none))))) <|
    qss_cons (qs_set (i := 7) sc__law_spoilt.nd (QP.lift (qp_op op_modA opMod_v (qp_op op_fdivA opFdiv_v (qp_var 2) (qp_int)) (qp_int)))) <|
    qss_cons (qs_if (qt_pcmp (op_eqA hr.units) opEq_v (qp_var 7) (qp_int) (nomark _)) (qss_one (qs_expr (qe_meth (i := 6) PySem.F.slot_list_pop PySem.F.type_list_pop mt_popAt popAt_v (ql_name 6) (qa_cons (qe_var 3) (qa_nil)) (.inr fun _ _ => lHere_nil)))) (qss_nil)) <|
    qss_cons (qs_if (qt_pcmp (op_eqA hr.units) opEq_v (qp_var 7) (qp_int) (nomark _)) (qss_one (qs_expr (qe_meth (i := 6) PySem.F.slot_list_append PySem.F.type_list_append mt_append append_v (ql_name 6) (qa_cons (QP.lift (qp_ix (qp_var 0) (qp_var 3))) (qa_nil)) (.inr fun _ _ => lHere_nil)))) (qss_nil)) <|
    qss_cons (qs_if (qt_pcmp (op_eqA hr.units) opEq_v (qp_var 7) (qp_int) (nomark _)) (qss_cons (qs_set (i := 10) sc__law_spoilt.nd (QP.lift (qp_op op_modA opMod_v (qp_op op_fdivA opFdiv_v (qp_var 2) (qp_int)) (qp_callB call_lenA opLen_v T.z_len bt_len (qpa_cons (qp_var 0) (qpa_nil)))))) <|
    qss_cons (qs_set (i := 6) sc__law_spoilt.nd (qe_callTy call_listOf opListOf_v opListOf_nox T.z_list bt_list (qa_cons (qe_var 0) (qa_nil)))) <|
    qss_cons (qs_asg (qe_tup (qa_cons (qe_var 8) (qa_cons (QP.lift (qp_ix (qp_ix (qp_var 0) (qp_var 10)) (qp_int))) (qa_nil)))) (qg_item (ql_name 6) (qp_var 3))) <|
    qss_one (qs_asg (qe_tup (qa_cons (QP.lift (qp_ix (qp_ix (qp_var 0) (qp_var 10)) (qp_int))) (qa_cons (qe_var 9) (qa_nil)))) (qg_item (ql_name 6) (qp_var 10)))) (qss_nil)) <|
    qss_one (qs_ret (qe_var 6))⟩
theorem ok__law_due (T : Tx K mg) : FnOk P w K mg base CX0 1 T.f__law_due T.d__law_due ["plan", "order"] (spT K false (fun _ => none) 2 [] m__law_due_10) := by
  unfold m__law_due_10
  refine fnT (N := N__law_due) (ps := ["plan", "order"]) (k := 0) T.F__law_due sc__law_due (by decide) (by decide) fun cdv A outer s H E hr => ?_
  exact ⟨_, qss_cons (qs_set (i := 2) sc__law_due.nd (qe_disp (qd_cons (QP.lift (qp_callB call_lenA opLen_v T.z_len bt_len (qpa_cons (qp_ix (qp_var 0) (qp_int)) (qpa_nil)))) (qd_cons (QP.lift (qp_callB call_lenA opLen_v T.z_len bt_len (qpa_cons (qp_ix (qp_var 0) (qp_int)) (qpa_nil)))) (qd_nil))))) <|
    qss_cons (qs_set (i := 3) sc__law_due.nd (qe_lst (qa_nil))) <|
    qss_cons (qs_for rfl PassesOwn.never (qi_list (qe_var 1)) (qg_name (i := 4) sc__law_due.nd) (qss_cons (qs_if (QW.qt (qw_or (qt_not (qt_val (QP.lift (qp_isi (n := "tuple") (qp_var 4) T.z_isinstance T.z_tuple bt_tuple)))) (qw_or (qt_pcmp (op_neA hr.units) opNe_v (qp_callB call_lenA opLen_v T.z_len bt_len (qpa_cons (qp_var 4) (qpa_nil))) (qp_int) (nomark _)) (qw_or1 (qt_cmp (op_notInE hr.units) opNotInE_v opNotInE_nox (QP.lift (qp_ix (qp_var 4) (qp_int))) (QE.fz (qe_lst (qa_cons (QP.lift (qp_str)) (qa_cons (QP.lift (qp_str)) (qa_nil))))) rfl))))) (qss_one (qs_ret (QP.lift (qp_bl)))) (qss_nil)) <|
    qss_cons (qs_if (QW.qt (qw_or (qt_val (QP.lift (qp_isi (n := "bool") (qp_ix (qp_var 4) (qp_int)) T.z_isinstance T.z_bool bt_bool))) (qw_or (qt_not (qt_val (QP.lift (qp_isi (n := "int") (qp_ix (qp_var 4) (qp_int)) T.z_isinstance T.z_int bt_int)))) (qw_or1 (qt_pcmp (op_inA (u65 hr)) opInD_v (qp_var 4) (qp_var 3) rfl))))) (qss_one (qs_ret (QP.lift (qp_bl)))) (qss_nil)) <|
    qss_cons (qs_if (QW.qt (qw_or (qt_pcmp op_ltA opLt_v (qp_ix (qp_var 4) (qp_int)) (qp_int) (nomark _)) (qw_or1 (qt_pcmp op_geA opGe_v (qp_ix (qp_var 4) (qp_int)) (qp_key (u1 hr) (qp_var 2) (qp_ix (qp_var 4) (qp_int))) (nomark _))))) (qss_one (qs_ret (QP.lift (qp_bl)))) (qss_nil)) <|
    qss_one (qs_expr (qe_meth (i := 3) PySem.F.slot_list_append PySem.F.type_list_append mt_append append_v (ql_name 3) (qa_cons (qe_var 4) (qa_nil)) (.inr fun _ _ => lHere_nil))))) <|
    qss_one (qs_ret (QP.lift (qp_cmp (op_eqA hr.units) opEq_v (qp_callB call_lenA opLen_v T.z_len bt_len (qpa_cons (qp_var 3) (qpa_nil))) (qp_op op_addA opAdd_v (qp_key (u1 hr) (qp_var 2) (qp_str)) (qp_key (u1 hr) (qp_var 2) (qp_str))) (nomark _))))⟩
theorem ok__law_plus (T : Tx K mg) : FnOk P w K mg base CX0 2 T.f__law_plus T.d__law_plus ["q", "r"] (spT K false (fun _ => none) 2 [] m__law_plus_5) := by
  unfold m__law_plus_5
  refine fnT (N := N__law_plus) (ps := ["q", "r"]) (k := 1) T.F__law_plus sc__law_plus (by decide) (by decide) fun cdv A outer s H E hr => ?_
  exact ⟨_, qss_one (qs_ret (qe_call (ok__law_fraction T) hr T.g__law_fraction T.F__law_fraction.kp T.b__law_fraction pass0 (qb_cons (QP.lift (qp_op op_addA opAdd_v (qp_op op_mulA opMulI_v (qp_ix (qp_var 0) (qp_int)) (qp_ix (qp_var 1) (qp_int))) (qp_op op_mulA opMulI_v (qp_ix (qp_var 1) (qp_int)) (qp_ix (qp_var 0) (qp_int))))) (qb_cons (QP.lift (qp_op op_mulA opMulI_v (qp_ix (qp_var 0) (qp_int)) (qp_ix (qp_var 1) (qp_int)))) (qb_nil)))))⟩
theorem ok__law_bounds (T : Tx K mg) : FnOk P w K mg base CX0 3 T.f__law_bounds T.d__law_bounds ["left"] (spT K false (fun _ => none) 1 [] m__law_bounds_6) := by
  unfold m__law_bounds_6
  refine fnT (N := N__law_bounds) (ps := ["left"]) (k := 2) T.F__law_bounds sc__law_bounds (by decide) (by decide) fun cdv A outer s H E hr => ?_
  exact ⟨_, qss_cons (qs_set (i := 1) sc__law_bounds.nd (qe_call (ok__law_fraction T) (hr.mono (by decide)) T.g__law_fraction T.F__law_fraction.kp T.b__law_fraction pass0 (qb_cons (QP.lift (qp_op op_subA opSub_v (qp_op op_modA opMod_v (qp_var 0) (qp_int)) (qp_int))) (qb_cons (QP.lift (qp_op op_addA opAdd_v (qp_int) (qp_op op_modA opMod_v (qp_op op_fdivA opFdiv_v (qp_var 0) (qp_int)) (qp_int)))) (qb_nil))))) <|
    qss_one (qs_ret (qe_tup (qa_cons (qe_var 1) (qa_cons (qe_call (ok__law_plus T) hr T.g__law_plus T.F__law_plus.kp T.b__law_plus pass0 (qb_cons (qe_var 1) (qb_cons (qe_call (ok__law_fraction T) (hr.mono (by decide)) T.g__law_fraction T.F__law_fraction.kp T.b__law_fraction pass0 (qb_cons (QP.lift (qp_op op_modA opMod_v (qp_op op_fdivA opFdiv_v (qp_var 0) (qp_int)) (qp_int))) (qb_cons (QP.lift (qp_op op_addA opAdd_v (qp_int) (qp_op op_modA opMod_v (qp_op op_fdivA opFdiv_v (qp_var 0) (qp_int)) (qp_int)))) (qb_nil)))) (qb_nil)))) (qa_nil)))))⟩
theorem ok__law_plan (T : Tx K mg) : FnOk P w K mg base CX0 4 T.f__law_plan T.d__law_plan ["script"] (spT K false (fun _ => none) 1 [] m__law_plan_9) := by
  unfold m__law_plan_9
  refine fnT (N := N__law_plan) (ps := ["script"]) (k := 3) T.F__law_plan sc__law_plan (by decide) (by decide) fun cdv A outer s H E hr => ?_
  exact ⟨_, qss_cons (qs_set (i := 1) sc__law_plan.nd (qe_call (ok__law_cell_at T) (hr.mono (by decide)) T.g__law_cell_at T.F__law_cell_at.kp T.b__law_cell_at pass0 (qb_cons (qe_rd 0) (qb_cons (QP.lift (qp_int)) (qb_nil))))) <|
    qss_cons (qs_thenFz 2 (qs_setLcC (i := 2) (own := [("k", 5)]) (vs := [5]) rfl rfl sc__law_plan.nd rfl rfl (sw_true rfl rfl rfl (by decide +kernel)) (qi_range1 T.z_range (qa_cons (QP.lift (qp_op op_addA opAdd_v (qp_int) (qp_op op_modA opMod_v (qp_var 1) (qp_int)))) (qa_nil))) (blkOk_by (N := N__law_plan) (sc := defScope s__law_plan) (by decide +kernel)) (fun _ _ _ _ _ => ⟨_, qg_name (i := 5) sc__law_plan.nd⟩) (fun _ _ _ _ _ => ⟨_, qts_nil⟩) (fun _ _ _ _ _ => ⟨_, qe_call (ok__law_bounds T) hr T.g__law_bounds T.F__law_bounds.kp T.b__law_bounds pass0 (qb_cons (qe_call (ok__law_mixed T) (hr.mono (by decide)) T.g__law_mixed T.F__law_mixed.kp T.b__law_mixed pass0 (qb_cons (qe_call (ok__law_cell_at T) (hr.mono (by decide)) T.g__law_cell_at T.F__law_cell_at.kp T.b__law_cell_at pass0 (qb_cons (qe_rd 0) (qb_cons (QP.lift (qp_op op_addA opAdd_v (qp_int) (qp_var 5))) (qb_nil)))) (qb_cons (qe_var 5) (qb_nil)))) (qb_nil))⟩) s H)) <|
    qss_cons (qs_thenFz 3 (qs_setLcC (i := 3) (own := [("k", 5)]) (vs := [5]) rfl rfl sc__law_plan.nd rfl rfl (sw_true rfl rfl rfl (by decide +kernel)) (qi_range1 T.z_range (qa_cons (QP.lift (qp_op op_modA opMod_v (qp_op op_fdivA opFdiv_v (qp_var 1) (qp_int)) (qp_int))) (qa_nil))) (blkOk_by (N := N__law_plan) (sc := defScope s__law_plan) (by decide +kernel)) (fun _ _ _ _ _ => ⟨_, qg_name (i := 5) sc__law_plan.nd⟩) (fun _ _ _ _ _ => ⟨_, qts_nil⟩) (fun _ _ _ _ _ => ⟨_, qe_call (ok__law_bounds T) hr T.g__law_bounds T.F__law_bounds.kp T.b__law_bounds pass0 (qb_cons (qe_call (ok__law_mixed T) (hr.mono (by decide)) T.g__law_mixed T.F__law_mixed.kp T.b__law_mixed pass0 (qb_cons (qe_call (ok__law_cell_at T) (hr.mono (by decide)) T.g__law_cell_at T.F__law_cell_at.kp T.b__law_cell_at pass0 (qb_cons (qe_rd 0) (qb_cons (QP.lift (qp_op op_addA opAdd_v (qp_int) (qp_var 5))) (qb_nil)))) (qb_cons (QP.lift (qp_op op_addA opAdd_v (qp_int) (qp_var 5))) (qb_nil)))) (qb_nil))⟩) s H)) <|
    qss_cons (qs_set (i := 4) sc__law_plan.nd (qe_lst (qa_nil))) <|
    qss_cons (qs_for rfl PassesOwn.never (qi_range1 T.z_range (qa_cons (qe_op op_modA opMod_v opI2_nox (QP.lift (qp_op op_fdivA opFdiv_v (qp_var 1) (qp_int))) (qe_ix (qe_lst (qa_cons (QP.lift (qp_int)) (qa_cons (QP.lift (qp_int)) (qa_cons (QP.lift (qp_int)) (qa_nil))))) (QP.lift (qp_callB call_lenA opLen_v T.z_len bt_len (qpa_cons (qp_var 3) (qpa_nil)))))) (qa_nil))) (qg_name (i := 5) sc__law_plan.nd) (qss_cons (qs_set (i := 6) sc__law_plan.nd (qe_call (ok__law_mixed T) (hr.mono (by decide)) T.g__law_mixed T.F__law_mixed.kp T.b__law_mixed pass0 (qb_cons (qe_call (ok__law_cell_at T) (hr.mono (by decide)) T.g__law_cell_at T.F__law_cell_at.kp T.b__law_cell_at pass0 (qb_cons (qe_rd 0) (qb_cons (QP.lift (qp_op op_addA opAdd_v (qp_int) (qp_var 5))) (qb_nil)))) (qb_cons (QP.lift (qp_op op_addA opAdd_v (qp_int) (qp_var 5))) (qb_nil))))) <|
    qss_cons (qs_asg (qe_call (ok__law_shares T) (hr.mono (by decide)) T.g__law_shares T.F__law_shares.kp T.b__law_shares pass0 (qb_cons (qe_var 6) (qb_cons (QP.lift (qp_callB call_lenA opLen_v T.z_len bt_len (qpa_cons (qp_var 2) (qpa_nil)))) (qb_nil)))) (qg_tup rfl (qgs_cons (qg_name (i := 7) sc__law_plan.nd) (qgs_cons (qg_name (i := 6) sc__law_plan.nd) (qgs_nil))))) <|
    qss_cons (qs_asg (qe_call (ok__law_shares T) (hr.mono (by decide)) T.g__law_shares T.F__law_shares.kp T.b__law_shares pass0 (qb_cons (qe_var 6) (qb_cons (QP.lift (qp_callB call_lenA opLen_v T.z_len bt_len (qpa_cons (qp_var 3) (qpa_nil)))) (qb_nil)))) (qg_tup rfl (qgs_cons (qg_name (i := 8) sc__law_plan.nd) (qgs_cons (qg_name (i := 6) sc__law_plan.nd) (qgs_nil))))) <|
    qss_one (qs_expr (qe_meth (i := 4) PySem.F.slot_list_append PySem.F.type_list_append mt_append append_v (ql_name 4) (qa_cons (qe_tup (qa_cons (qe_var 7) (qa_cons (qe_var 8) (qa_cons (qe_call (ok__law_fraction T) (hr.mono (by decide)) T.g__law_fraction T.F__law_fraction.kp T.b__law_fraction pass0 (qb_cons (QP.lift (qp_op op_subA opSub_v (qp_op op_modA opMod_v (qp_var 6) (qp_int)) (qp_int))) (qb_cons (QP.lift (qp_op op_addA opAdd_v (qp_int) (qp_op op_modA opMod_v (qp_op op_fdivA opFdiv_v (qp_var 6) (qp_int)) (qp_int)))) (qb_nil)))) (qa_nil))))) (qa_nil)) (.inr fun _ _ => lHere_nil))))) <|
    qss_one (qs_ret (qe_tup (qa_cons (qe_var 2) (qa_cons (qe_var 3) (qa_cons (qe_var 4) (qa_nil))))))⟩
theorem ok_law (T : Tx K mg) : FnOk P w K mg base CX0 5 T.f_law T.d_law ["script"] (spT K false (fun _ => none) 1 [] m_law_69) := by
  unfold m_law_69
  refine fnT (N := N_law) (ps := ["script"]) (k := 4) T.F_law sc_law (by decide) (by decide) fun cdv A outer s H E hr => ?_
  exact ⟨_, qss_cons (qs_set (i := 1) sc_law.nd (qe_call (ok__law_plan T) hr T.g__law_plan T.F__law_plan.kp T.b__law_plan pass0 (qb_cons (qe_rd 0) (qb_nil)))) <|
    qss_cons (qs_set (i := 2) sc_law.nd (qe_call (ok__law_order T) (hr.mono (by decide)) T.g__law_order T.F__law_order.kp T.b__law_order pass0 (qb_cons (qe_var 1) (qb_cons (qe_call (ok__law_cell_at T) (hr.mono (by decide)) T.g__law_cell_at T.F__law_cell_at.kp T.b__law_cell_at pass0 (qb_cons (qe_rd 0) (qb_cons (QP.lift (qp_int)) (qb_nil)))) (qb_nil))))) <|
    qss_cons (qs_if (qt_cmp op_gtA opGt_v opI2_nox (qe_op op_modA opMod_v opI2_nox (qe_call (ok__law_cell_at T) (hr.mono (by decide)) T.g__law_cell_at T.F__law_cell_at.kp T.b__law_cell_at pass0 (qb_cons (qe_rd 0) (qb_cons (QP.lift (qp_int)) (qb_nil)))) (QP.lift (qp_int))) (QP.lift (qp_int)) (nomark _)) (qss_one (qs_set (i := 2) sc_law.nd (qe_call (ok__law_spoilt T) (hr.mono (by decide)) T.g__law_spoilt T.F__law_spoilt.kp T.b__law_spoilt pass0 (qb_cons (qe_var 2) (qb_cons (QP.lift (qp_callB call_lenA opLen_v T.z_len bt_len (qpa_cons (qp_ix (qp_var 1) (qp_int)) (qpa_nil)))) (qb_cons (qe_op op_fdivA opFdiv_v opI2_nox (qe_call (ok__law_cell_at T) (hr.mono (by decide)) T.g__law_cell_at T.F__law_cell_at.kp T.b__law_cell_at pass0 (qb_cons (qe_rd 0) (qb_cons (QP.lift (qp_int)) (qb_nil)))) (QP.lift (qp_int))) (qb_nil))))))) (qss_nil)) <|
    qss_cons (qs_set (i := 3) sc_law.nd (qe_tup (qa_cons (qe_call (ok__law_copy T) (hr.mono (by decide)) T.g__law_copy T.F__law_copy.kp T.b__law_copy pass0 (qb_cons (qe_var 1) (qb_nil))) (qa_cons (QE.fz (qe_callTy call_listOf opListOf_v opListOf_nox T.z_list bt_list (qa_cons (qe_var 2) (qa_nil)))) (qa_nil))))) <|
    qss_cons (qs_set (i := 4) sc_law.nd (qe_call (ok_is_order T) (hr.mono (by decide)) T.g_is_order T.F_is_order.kp T.b_is_order pass0 (qb_cons (QP.lift (qp_ix (qp_var 3) (qp_int))) (qb_cons (QP.lift (qp_ix (qp_var 3) (qp_int))) (qb_nil))))) <|
    qss_cons (qs_if (QW.qt (qw_or (qt_not (qt_val (QP.lift (qp_isi (n := "bool") (qp_var 4) T.z_isinstance T.z_bool bt_bool)))) (qw_or (qt_cmp (op_neA hr.units) opNe_v opNe_nox (qe_var 4) (qe_call (ok__law_due T) (hr.mono (by decide)) T.g__law_due T.F__law_due.kp T.b__law_due pass0 (qb_cons (qe_var 1) (qb_cons (qe_var 2) (qb_nil)))) (nomark _)) (qw_or1 (qt_cmp (op_neE2 hr.units) opNeE_v opNeE_nox (qe_var 3) (qe_tup (qa_cons (qe_var 1) (qa_cons (qe_var 2) (qa_nil)))) (nomark _)))))) (qss_one (qs_ret (QP.lift (qp_bl)))) (qss_nil)) <|
    qss_one (qs_ret (qe_and (qe_cmp (op_eqA hr.units) opEq_v opEq_nox (qe_call (ok_is_order T) (hr.mono (by decide)) T.g_is_order T.F_is_order.kp T.b_is_order pass0 (qb_cons (QP.lift (qp_ix (qp_var 3) (qp_int))) (qb_cons (QP.lift (qp_ix (qp_var 3) (qp_int))) (qb_nil)))) (qe_var 4) (nomark _)) (qe_and (qe_cmp (op_eqE2 hr.units) opEqE_v opEqE_nox (qe_var 3) (qe_tup (qa_cons (qe_var 1) (qa_cons (qe_var 2) (qa_nil)))) (nomark _)) (qe_one (qe_not (qe_call (ok_is_order T) (hr.mono (by decide)) T.g_is_order T.F_is_order.kp T.b_is_order pass0 (qb_cons (QP.lift (qp_ix (qp_var 3) (qp_int))) (qb_cons (QE.fz (qe_lst (qa_nil))) (qb_nil)))))))))⟩
end
theorem all_mk {l : PySem.W.OpenLaw} {w : World} {K : PySem.W.Frag} {h : Heap} {mg : Str → Option Value} {fa : Addr} (X : K.In h) (G : h.Ns mainGlobals mg) (hfa : mg "law" = some (.ref fa))
    {od0 an0 : Option Addr} {sl0 : Array (Option Value)} {oc0 kV0 dc0 pm0 cd0 ct0 : Value} {f0 : Addr} (a0 : PySem.W.nsIn K mainGlobals "is_order" = some (some (.ref f0))) (l0 : K.lookup f0 = some ⟨oc0, od0, .func (PySem.W.fnOf "is_order" "is_order" (defArgs s_is_order) (defBody s_is_order) (defScope s_is_order) .none kV0 dc0 pm0 an0 cd0 ct0), sl0⟩) (c0 : PySem.W.codeIn K cd0 "is_order" = true) (k0 : PySem.W.keepIn K (.ref f0) = true)
    {od1 an1 : Option Addr} {sl1 : Array (Option Value)} {oc1 kV1 dc1 pm1 cd1 ct1 : Value} {f1 : Addr} (a1 : PySem.W.nsIn K mainGlobals "_law_cell_at" = some (some (.ref f1))) (l1 : K.lookup f1 = some ⟨oc1, od1, .func (PySem.W.fnOf "_law_cell_at" "_law_cell_at" (defArgs s__law_cell_at) (defBody s__law_cell_at) (defScope s__law_cell_at) .none kV1 dc1 pm1 an1 cd1 ct1), sl1⟩) (c1 : PySem.W.codeIn K cd1 "_law_cell_at" = true) (k1 : PySem.W.keepIn K (.ref f1) = true)
    {od2 an2 : Option Addr} {sl2 : Array (Option Value)} {oc2 kV2 dc2 pm2 cd2 ct2 : Value} {f2 : Addr} (a2 : PySem.W.nsIn K mainGlobals "_law_mixed" = some (some (.ref f2))) (l2 : K.lookup f2 = some ⟨oc2, od2, .func (PySem.W.fnOf "_law_mixed" "_law_mixed" (defArgs s__law_mixed) (defBody s__law_mixed) (defScope s__law_mixed) .none kV2 dc2 pm2 an2 cd2 ct2), sl2⟩) (c2 : PySem.W.codeIn K cd2 "_law_mixed" = true) (k2 : PySem.W.keepIn K (.ref f2) = true)
    {od3 an3 : Option Addr} {sl3 : Array (Option Value)} {oc3 kV3 dc3 pm3 cd3 ct3 : Value} {f3 : Addr} (a3 : PySem.W.nsIn K mainGlobals "_law_fraction" = some (some (.ref f3))) (l3 : K.lookup f3 = some ⟨oc3, od3, .func (PySem.W.fnOf "_law_fraction" "_law_fraction" (defArgs s__law_fraction) (defBody s__law_fraction) (defScope s__law_fraction) .none kV3 dc3 pm3 an3 cd3 ct3), sl3⟩) (c3 : PySem.W.codeIn K cd3 "_law_fraction" = true) (k3 : PySem.W.keepIn K (.ref f3) = true)
    {od4 an4 : Option Addr} {sl4 : Array (Option Value)} {oc4 kV4 dc4 pm4 cd4 ct4 : Value} {f4 : Addr} (a4 : PySem.W.nsIn K mainGlobals "_law_shares" = some (some (.ref f4))) (l4 : K.lookup f4 = some ⟨oc4, od4, .func (PySem.W.fnOf "_law_shares" "_law_shares" (defArgs s__law_shares) (defBody s__law_shares) (defScope s__law_shares) .none kV4 dc4 pm4 an4 cd4 ct4), sl4⟩) (c4 : PySem.W.codeIn K cd4 "_law_shares" = true) (k4 : PySem.W.keepIn K (.ref f4) = true)
    {od5 an5 : Option Addr} {sl5 : Array (Option Value)} {oc5 kV5 dc5 pm5 cd5 ct5 : Value} {f5 : Addr} (a5 : PySem.W.nsIn K mainGlobals "_law_order" = some (some (.ref f5))) (l5 : K.lookup f5 = some ⟨oc5, od5, .func (PySem.W.fnOf "_law_order" "_law_order" (defArgs s__law_order) (defBody s__law_order) (defScope s__law_order) .none kV5 dc5 pm5 an5 cd5 ct5), sl5⟩) (c5 : PySem.W.codeIn K cd5 "_law_order" = true) (k5 : PySem.W.keepIn K (.ref f5) = true)
    {od6 an6 : Option Addr} {sl6 : Array (Option Value)} {oc6 kV6 dc6 pm6 cd6 ct6 : Value} {f6 : Addr} (a6 : PySem.W.nsIn K mainGlobals "_law_copy" = some (some (.ref f6))) (l6 : K.lookup f6 = some ⟨oc6, od6, .func (PySem.W.fnOf "_law_copy" "_law_copy" (defArgs s__law_copy) (defBody s__law_copy) (defScope s__law_copy) .none kV6 dc6 pm6 an6 cd6 ct6), sl6⟩) (c6 : PySem.W.codeIn K cd6 "_law_copy" = true) (k6 : PySem.W.keepIn K (.ref f6) = true)
    {od7 an7 : Option Addr} {sl7 : Array (Option Value)} {oc7 kV7 dc7 pm7 cd7 ct7 : Value} {f7 : Addr} (a7 : PySem.W.nsIn K mainGlobals "_law_spoilt" = some (some (.ref f7))) (l7 : K.lookup f7 = some ⟨oc7, od7, .func (PySem.W.fnOf "_law_spoilt" "_law_spoilt" (defArgs s__law_spoilt) (defBody s__law_spoilt) (defScope s__law_spoilt) .none kV7 dc7 pm7 an7 cd7 ct7), sl7⟩) (c7 : PySem.W.codeIn K cd7 "_law_spoilt" = true) (k7 : PySem.W.keepIn K (.ref f7) = true)
    {od8 an8 : Option Addr} {sl8 : Array (Option Value)} {oc8 kV8 dc8 pm8 cd8 ct8 : Value} {f8 : Addr} (a8 : PySem.W.nsIn K mainGlobals "_law_due" = some (some (.ref f8))) (l8 : K.lookup f8 = some ⟨oc8, od8, .func (PySem.W.fnOf "_law_due" "_law_due" (defArgs s__law_due) (defBody s__law_due) (defScope s__law_due) .none kV8 dc8 pm8 an8 cd8 ct8), sl8⟩) (c8 : PySem.W.codeIn K cd8 "_law_due" = true) (k8 : PySem.W.keepIn K (.ref f8) = true)
    {od9 an9 : Option Addr} {sl9 : Array (Option Value)} {oc9 kV9 dc9 pm9 cd9 ct9 : Value} {f9 : Addr} (a9 : PySem.W.nsIn K mainGlobals "_law_plus" = some (some (.ref f9))) (l9 : K.lookup f9 = some ⟨oc9, od9, .func (PySem.W.fnOf "_law_plus" "_law_plus" (defArgs s__law_plus) (defBody s__law_plus) (defScope s__law_plus) .none kV9 dc9 pm9 an9 cd9 ct9), sl9⟩) (c9 : PySem.W.codeIn K cd9 "_law_plus" = true) (k9 : PySem.W.keepIn K (.ref f9) = true)
    {od10 an10 : Option Addr} {sl10 : Array (Option Value)} {oc10 kV10 dc10 pm10 cd10 ct10 : Value} {f10 : Addr} (a10 : PySem.W.nsIn K mainGlobals "_law_bounds" = some (some (.ref f10))) (l10 : K.lookup f10 = some ⟨oc10, od10, .func (PySem.W.fnOf "_law_bounds" "_law_bounds" (defArgs s__law_bounds) (defBody s__law_bounds) (defScope s__law_bounds) .none kV10 dc10 pm10 an10 cd10 ct10), sl10⟩) (c10 : PySem.W.codeIn K cd10 "_law_bounds" = true) (k10 : PySem.W.keepIn K (.ref f10) = true)
    {od11 an11 : Option Addr} {sl11 : Array (Option Value)} {oc11 kV11 dc11 pm11 cd11 ct11 : Value} {f11 : Addr} (a11 : PySem.W.nsIn K mainGlobals "_law_plan" = some (some (.ref f11))) (l11 : K.lookup f11 = some ⟨oc11, od11, .func (PySem.W.fnOf "_law_plan" "_law_plan" (defArgs s__law_plan) (defBody s__law_plan) (defScope s__law_plan) .none kV11 dc11 pm11 an11 cd11 ct11), sl11⟩) (c11 : PySem.W.codeIn K cd11 "_law_plan" = true) (k11 : PySem.W.keepIn K (.ref f11) = true)
    {od12 an12 : Option Addr} {sl12 : Array (Option Value)} {oc12 kV12 dc12 pm12 cd12 ct12 : Value} {f12 : Addr} (a12 : PySem.W.nsIn K mainGlobals "law" = some (some (.ref f12))) (l12 : K.lookup f12 = some ⟨oc12, od12, .func (PySem.W.fnOf "law" "law" (defArgs s_law) (defBody s_law) (defScope s_law) .none kV12 dc12 pm12 an12 cd12 ct12), sl12⟩) (c12 : PySem.W.codeIn K cd12 "law" = true) (k12 : PySem.W.keepIn K (.ref f12) = true)
    (z0 : PySem.W.nsIn K mainGlobals "bool" = some none)
    (z1 : PySem.W.nsIn K mainGlobals "int" = some none)
    (z2 : PySem.W.nsIn K mainGlobals "isinstance" = some none)
    (z3 : PySem.W.nsIn K mainGlobals "len" = some none)
    (z4 : PySem.W.nsIn K mainGlobals "list" = some none)
    (z5 : PySem.W.nsIn K mainGlobals "max" = some none)
    (z6 : PySem.W.nsIn K mainGlobals "range" = some none)
    (z7 : PySem.W.nsIn K mainGlobals "tuple" = some none) :
    ∃ fd : FuncData, (∀ (s : Shared) (v : Value), BindsTo s fd ⟨[v], []⟩ [("script", v)]) ∧ ∀ base : Heap, K.In base → base.Ns mainGlobals mg → FnOk l.prog w K mg base CX0 5 fa fd ["script"] (spT K false (fun _ => none) 1 [] m_law_69) := by
  have e := hfa.symm.trans (PySem.W.mg_of X G a12)
  cases e
  have F0 := fun_mk (st := s_is_order) l0 c0 k0
  have b0 := F0.binds (ps := ["plan", "order"]) fun _ _ _ _ _ _ us hl => match us, hl with | [_, _], _ => rfl
  have F1 := fun_mk (st := s__law_cell_at) l1 c1 k1
  have b1 := F1.binds (ps := ["script", "k"]) fun _ _ _ _ _ _ us hl => match us, hl with | [_, _], _ => rfl
  have F2 := fun_mk (st := s__law_mixed) l2 c2 k2
  have b2 := F2.binds (ps := ["cell", "k"]) fun _ _ _ _ _ _ us hl => match us, hl with | [_, _], _ => rfl
  have F3 := fun_mk (st := s__law_fraction) l3 c3 k3
  have b3 := F3.binds (ps := ["top", "bottom"]) fun _ _ _ _ _ _ us hl => match us, hl with | [_, _], _ => rfl
  have F4 := fun_mk (st := s__law_shares) l4 c4 k4
  have b4 := F4.binds (ps := ["left", "many"]) fun _ _ _ _ _ _ us hl => match us, hl with | [_, _], _ => rfl
  have F5 := fun_mk (st := s__law_order) l5 c5 k5
  have b5 := F5.binds (ps := ["plan", "cell"]) fun _ _ _ _ _ _ us hl => match us, hl with | [_, _], _ => rfl
  have F6 := fun_mk (st := s__law_copy) l6 c6 k6
  have b6 := F6.binds (ps := ["plan"]) fun _ _ _ _ _ _ us hl => match us, hl with | [_], _ => rfl
  have F7 := fun_mk (st := s__law_spoilt) l7 c7 k7
  have b7 := F7.binds (ps := ["order", "many", "cell"]) fun _ _ _ _ _ _ us hl => match us, hl with | [_, _, _], _ => rfl
  have F8 := fun_mk (st := s__law_due) l8 c8 k8
  have b8 := F8.binds (ps := ["plan", "order"]) fun _ _ _ _ _ _ us hl => match us, hl with | [_, _], _ => rfl
  have F9 := fun_mk (st := s__law_plus) l9 c9 k9
  have b9 := F9.binds (ps := ["q", "r"]) fun _ _ _ _ _ _ us hl => match us, hl with | [_, _], _ => rfl
  have F10 := fun_mk (st := s__law_bounds) l10 c10 k10
  have b10 := F10.binds (ps := ["left"]) fun _ _ _ _ _ _ us hl => match us, hl with | [_], _ => rfl
  have F11 := fun_mk (st := s__law_plan) l11 c11 k11
  have b11 := F11.binds (ps := ["script"]) fun _ _ _ _ _ _ us hl => match us, hl with | [_], _ => rfl
  have F12 := fun_mk (st := s_law) l12 c12 k12
  have b12 := F12.binds (ps := ["script"]) fun _ _ _ _ _ _ us hl => match us, hl with | [_], _ => rfl
  let T : Tx K mg := {
    f_is_order := _, d_is_order := _, F_is_order := F0, b_is_order := b0, g_is_order := PySem.W.mg_of X G a0,
    f__law_cell_at := _, d__law_cell_at := _, F__law_cell_at := F1, b__law_cell_at := b1, g__law_cell_at := PySem.W.mg_of X G a1,
    f__law_mixed := _, d__law_mixed := _, F__law_mixed := F2, b__law_mixed := b2, g__law_mixed := PySem.W.mg_of X G a2,
    f__law_fraction := _, d__law_fraction := _, F__law_fraction := F3, b__law_fraction := b3, g__law_fraction := PySem.W.mg_of X G a3,
    f__law_shares := _, d__law_shares := _, F__law_shares := F4, b__law_shares := b4, g__law_shares := PySem.W.mg_of X G a4,
    f__law_order := _, d__law_order := _, F__law_order := F5, b__law_order := b5, g__law_order := PySem.W.mg_of X G a5,
    f__law_copy := _, d__law_copy := _, F__law_copy := F6, b__law_copy := b6, g__law_copy := PySem.W.mg_of X G a6,
    f__law_spoilt := _, d__law_spoilt := _, F__law_spoilt := F7, b__law_spoilt := b7, g__law_spoilt := PySem.W.mg_of X G a7,
    f__law_due := _, d__law_due := _, F__law_due := F8, b__law_due := b8, g__law_due := PySem.W.mg_of X G a8,
    f__law_plus := _, d__law_plus := _, F__law_plus := F9, b__law_plus := b9, g__law_plus := PySem.W.mg_of X G a9,
    f__law_bounds := _, d__law_bounds := _, F__law_bounds := F10, b__law_bounds := b10, g__law_bounds := PySem.W.mg_of X G a10,
    f__law_plan := _, d__law_plan := _, F__law_plan := F11, b__law_plan := b11, g__law_plan := PySem.W.mg_of X G a11,
    f_law := _, d_law := _, F_law := F12, b_law := b12, g_law := PySem.W.mg_of X G a12,
    z_bool := PySem.W.mg_none_of X G z0,
    z_int := PySem.W.mg_none_of X G z1,
    z_isinstance := PySem.W.mg_none_of X G z2,
    z_len := PySem.W.mg_none_of X G z3,
    z_list := PySem.W.mg_none_of X G z4,
    z_max := PySem.W.mg_none_of X G z5,
    z_range := PySem.W.mg_none_of X G z6,
    z_tuple := PySem.W.mg_none_of X G z7 }
  exact ⟨PySem.W.fnOf "law" "law" (defArgs s_law) (defBody s_law) (defScope s_law) .none kV12 dc12 pm12 an12 cd12 ct12, fun s v => .of_eq rfl, fun base _ _ => ok_law T⟩
end Sr
namespace Sr
open PySem PySem.Spec PyProof.Rows L2 L3
@[simp] theorem e_modOk {i j : Int} : modOk i j = decide (j ≠ 0) := (rfl)
theorem div_loop {mt : MT} {mb : MS} (ht : ∀ a b : Int, mt [some (.d (.int a)), some (.d (.int b))] = .ok (!decide (b = 0), [some (.d (.int a)), some (.d (.int b))]))
    (hb : ∀ a b : Int, b ≠ 0 → mb [some (.d (.int a)), some (.d (.int b))] = .ok (.next [some (.d (.int b)), some (.d (.int (a.fmod b)))])) :
    ∀ (n : Nat) (a b : Int), b.natAbs ≤ n → ∃ g : Int, mWhile mt mb [some (.d (.int a)), some (.d (.int b))] = .ok (.next [some (.d (.int g)), some (.d (.int 0))]) ∧ g.natAbs = Int.gcd a b := by
  intro n
  induction n with
  | zero =>
    intro a b h
    have : b = 0 := by omega
    subst this
    exact ⟨a, by rw [mWhile_eq, ht]; simp, by simp⟩
  | succ n ih =>
    intro a b h
    by_cases z : b = 0
    · subst z
      exact ⟨a, by rw [mWhile_eq, ht]; simp, by simp⟩
    · have hm := fmod_abs a b z
      obtain ⟨g, e, eg⟩ := ih b (a.fmod b) (by omega)
      refine ⟨g, ?_, by rw [eg, gcd_fmod]⟩
      rw [mWhile_eq, ht]
      simp [z, hb, e]
end Sr
namespace Sr
open PySem PySem.Spec PyProof.Rows L2 L3
@[simp] theorem e_powOk {i j : Int} : powOk i j = decide (0 ≤ j ∧ j ≤ 1000000 ∧ i.natAbs < 2 ^ 64) := (rfl)
@[simp] theorem mulOk_rS {i j : Int} (h : j.natAbs < 2 ^ 64) : mulOk i j = true := mulOk_r h
@[simp] theorem mulOk_lS {i j : Int} (h : i.natAbs < 2 ^ 64) : mulOk i j = true := mulOk_l h
@[simp] theorem divOk_S {i j : Int} (h0 : j ≠ 0) (h : j.natAbs < 2 ^ 64) : divOk i j = true := divOk_ib h0 (by
  have : ib j ≤ 64 := ib_le.mpr h
  omega)
@[simp] theorem e_ixN0 {m : Nat} (h : 0 < m) : ixN m 0 = some 0 := e_ixN (n := 0) h
@[simp] theorem e_ixN1 {m : Nat} (h : 1 < m) : ixN m 1 = some 1 := e_ixN (n := 1) h
@[simp] theorem e_ixN2 {m : Nat} (h : 2 < m) : ixN m 2 = some 2 := e_ixN (n := 2) h
@[simp] theorem e_ixN3 {m : Nat} (h : 3 < m) : ixN m 3 = some 3 := e_ixN (n := 3) h
theorem range3 : rangeItems 0 3 = [.d (.int 0), .d (.int 1), .d (.int 2)] := rfl
@[simp] theorem kit_tt : kitB "tuple" "tuple" = some true := by decide
@[simp] theorem kit_ii : kitB "int" "int" = some true := by decide
@[simp] theorem kit_ib : kitB "int" "bool" = some false := by decide
@[simp] theorem kit_bb : kitB "bool" "bool" = some true := by decide
@[simp] theorem kit_bi : kitB "bool" "int" = some true := by decide
@[simp] theorem kit_ll : kitB "list" "list" = some true := by decide
@[simp] theorem kit_lt : kitB "list" "tuple" = some false := by decide
@[simp] theorem kit_tl : kitB "tuple" "list" = some false := by decide
@[simp] theorem opEq_d {x y : PyData} (h1 : pl x) (h2 : pl y) : opEq (.d x) (.d y) = .ok (.v (.d (.bool (decide (x = y))))) := opEq_pl (by simp) (by simp) h1 h2
@[simp] theorem opNe_d {x y : PyData} (h1 : pl x) (h2 : pl y) : opNe (.d x) (.d y) = .ok (.v (.d (.bool (!decide (x = y))))) := opNe_pl (by simp) (by simp) h1 h2
@[simp] theorem pl_nil : pl (.list []) := by simp [pl, plk, plkAll]
@[simp] theorem pl_int {i : Int} : pl (.int i) := by simp [pl, plk]
@[simp] theorem pl_frS {q : Rat} : pl (fr q) := pl_fr
@[simp] theorem pl_frsS {q : List Rat} : pl (frs q) := pl_frs
theorem pick {l : List T} {v : Int} {α : Type} {f : T → R α} {P : α → Prop} {E : Str → Prop} (h0 : 0 ≤ v) (h1 : v < l.length) (k : ∀ x ∈ l, Then (f x) P E) : Then ((ofO (atI l v)).bind f) P E := by
  obtain ⟨n, rfl⟩ : ∃ n : Nat, v = n := ⟨v.toNat, by omega⟩
  have hn : n < l.length := by omega
  rw [e_atIn, List.getElem?_eq_getElem hn]
  exact k _ (List.getElem_mem hn)
theorem idx2 {a b v : Int} {α : Type} {f : T → R α} {P : α → Prop} {E : Str → Prop} (h0 : 0 ≤ v) (h1 : v < 2) (k : ∀ z : Int, z = a ∨ z = b → Then (f (.d (.int z))) P E) :
    Then ((ofO (atI [T.d (.int a), T.d (.int b)] v)).bind f) P E := by
  have : v = 0 ∨ v = 1 := by omega
  rcases this with rfl | rfl
  · exact k a (.inl rfl)
  · exact k b (.inr rfl)
theorem idx3 {a b c v : Int} {α : Type} {f : T → R α} {P : α → Prop} {E : Str → Prop} (h0 : 0 ≤ v) (h1 : v < 3) (k : ∀ z : Int, z = a ∨ z = b ∨ z = c → Then (f (.d (.int z))) P E) :
    Then ((ofO (atI [T.d (.int a), T.d (.int b), T.d (.int c)] v)).bind f) P E := by
  have : v = 0 ∨ v = 1 ∨ v = 2 := by omega
  rcases this with rfl | rfl | rfl
  · exact k a (.inl rfl)
  · exact k b (.inr (.inl rfl))
  · exact k c (.inr (.inr rfl))
theorem idx4 {a b c d v : Int} {α : Type} {f : T → R α} {P : α → Prop} {E : Str → Prop} (h0 : 0 ≤ v) (h1 : v < 4) (k : ∀ z : Int, z = a ∨ z = b ∨ z = c ∨ z = d → Then (f (.d (.int z))) P E) :
    Then ((ofO (atI [T.d (.int a), T.d (.int b), T.d (.int c), T.d (.int d)] v)).bind f) P E := by
  have : v = 0 ∨ v = 1 ∨ v = 2 ∨ v = 3 := by omega
  rcases this with rfl | rfl | rfl | rfl
  · exact k a (.inl rfl)
  · exact k b (.inr (.inl rfl))
  · exact k c (.inr (.inr (.inl rfl)))
  · exact k d (.inr (.inr (.inr rfl)))
def deckT (cells : List Int) (b n : Int) : T := .ol [.ol (cells.map fun c => .d (.int c)), .d (.int b), .d (.int n)]
def Deck (d : T) : Prop := ∃ cells b n, d = deckT cells b n ∧ cells ≠ []
theorem fmod_nat {n : Int} {m : Nat} (h : 0 < m) : ∃ k : Nat, n.fmod (m : Int) = (k : Int) ∧ k < m := by
  have h1 := Int.fmod_nonneg_of_pos n (b := (m : Int)) (by omega)
  have h2 := Int.fmod_lt_of_pos n (b := (m : Int)) (by omega)
  exact ⟨(n.fmod (m : Int)).toNat, by omega, by omega⟩
def Drawn (many : Int) (r : T × List T) : Prop := ∃ v d', r = (.d (.int v), [d']) ∧ 0 ≤ v ∧ v < many ∧ Deck d'
theorem draw_spec {d : T} {many : Int} {E : Str → Prop} (hd : Deck d) (hm : 0 < many) (hb : many.natAbs < 2 ^ 64) : Then (m__law_draw [d, .d (.int many)]) (Drawn many) E := by
  obtain ⟨cells, b, n, rfl, hc⟩ := hd
  have hl : 0 < cells.length := List.length_pos_iff.mpr hc
  obtain ⟨k, hk, hk2⟩ := fmod_nat (n := n) hl
  have h1 : (cells.map fun c => T.d (.int c))[k]? = some (.d (.int cells[k])) := by
    rw [List.getElem?_map, List.getElem?_eq_getElem hk2]; rfl
  have h2 : (cells.length : Int) ≠ 0 := by omega
  have hf : ∀ x : Int, 0 ≤ x.fmod many ∧ x.fmod many < many := fun x => ⟨Int.fmod_nonneg_of_pos x hm, Int.fmod_lt_of_pos x hm⟩
  have hm0 : many ≠ 0 := by omega
  have hs : ∀ x : Int, ((x.fmod 1000000033).natAbs < 2 ^ 64) := fun x => by
    have := Int.fmod_nonneg_of_pos x (b := 1000000033) (by omega)
    have := Int.fmod_lt_of_pos x (b := 1000000033) (by omega)
    omega
  unfold m__law_draw deckT
  by_cases hz : b = 0
  · subst hz
    simp [h2, hc, hk, e_atIn, h1, hm0, hb, e_ixN hk2]
    refine ⟨_, _, rfl, (hf _).1, (hf _).2, cells.set k (cells[k].fdiv many), 0, n + 1, ?_, ?_⟩
    · unfold deckT
      simp [List.map_set]
    · simpa using hc
  · simp [h2, hc, hk, e_atIn, h1, hm0, hz, hs]
    exact ⟨_, _, rfl, (hf _).1, (hf _).2, cells, b, n + 1, rfl, hc⟩
theorem draw_step {d : T} {many : Int} {α : Type} {f : T × List T → R α} {P : α → Prop} {E : Str → Prop} (hd : Deck d) (hm : 0 < many) (hb : many.natAbs < 2 ^ 64)
    (k : ∀ v d', 0 ≤ v → v < many → v.natAbs < 2 ^ 64 → Deck d' → Then (f (.d (.int v), [d'])) P E) : Then ((m__law_draw [d, .d (.int many)]).nx.bind f) P E := by
  refine then_bindI (then_nx (draw_spec hd hm hb)) ?_
  rintro _ ⟨v, d', rfl, h0, h1, hd'⟩
  exact k v d' h0 h1 (by omega) hd'
end Sr
namespace Sr
open PySem PySem.Spec PyProof.Rows L2 L3
theorem eq_of_then {α : Type} {r : R α} {a : α} (h : Then r (fun x => x = a) (fun _ => False)) : r = .ok a := by
  cases r with
  | ok x => rw [then_ok] at h; rw [h]
  | exc c => exact h.elim
  | bad => exact h.elim
end Sr
namespace L4
open PySem PySem.Spec PyProof.Rows L2 L3
abbrev Env := L3.Env
def Rf {X α : Type} (r : R X) (t : R α) (Rel : α → X → Prop) : Prop := match t with
  | .bad => True
  | .exc c => r = .exc c
  | .ok a => ∃ x, r = .ok x ∧ Rel a x
theorem Rf.bind {X Y α β : Type} {r : R X} {t : R α} {Rel : α → X → Prop} {k : X → R Y} {k' : α → R β} {Rel' : β → Y → Prop} (h : Rf r t Rel) (hk : ∀ a x, Rel a x → Rf (k x) (k' a) Rel') : Rf (r.bind k) (t.bind k') Rel' := by
  cases t with
  | bad => exact trivial
  | exc c =>
    have : r = .exc c := h
    subst this
    exact rfl
  | ok a =>
    obtain ⟨x, e, hr⟩ := h
    subst e
    exact hk a x hr
theorem Rf.then {X α : Type} {r : R X} {t : R α} {Rel : α → X → Prop} {P : α → Prop} {E : Str → Prop} (h : Rf r t Rel) (k : Then t P E) : Then r (fun x => ∃ a, Rel a x ∧ P a) E := by
  cases t with
  | bad => exact k.elim
  | exc c =>
    have : r = .exc c := h
    subst this
    exact k
  | ok a =>
    obtain ⟨x, e, hr⟩ := h
    subst e
    exact ⟨a, hr, k⟩
theorem Rf.mono {X α : Type} {r : R X} {t : R α} {Rel Rel' : α → X → Prop} (h : Rf r t Rel) (k : ∀ a x, Rel a x → Rel' a x) : Rf r t Rel' := by
  cases t with
  | bad => exact trivial
  | exc c => exact h
  | ok a => obtain ⟨x, e, hr⟩ := h; exact ⟨x, e, k _ _ hr⟩
theorem Rf.nx {X α : Type} {r : R X} {t : R α} {Rel : α → X → Prop} (h : Rf r t Rel) : Rf r.nx t.nx Rel := by
  cases t with
  | bad => exact trivial
  | exc c => exact trivial
  | ok a => obtain ⟨x, e, hr⟩ := h; exact ⟨x, by rw [e]; rfl, hr⟩
theorem Rf.of_then {X α : Type} {r : R X} {t : R α} {Rel : α → X → Prop} {P : α → Prop} (h : Rf r t Rel) (k : Then t P (fun _ => True)) : Rf r t (fun a x => Rel a x ∧ P a) := by
  cases t with
  | bad => exact trivial
  | exc c => exact h
  | ok a => obtain ⟨x, e, hr⟩ := h; exact ⟨x, e, hr, k⟩
abbrev Pt := List (Option T)
def Mt : Pt → Env → Prop
  | [], [] => True
  | none :: p, _ :: ρ => Mt p ρ
  | some t :: p, o :: ρ => o = some t ∧ Mt p ρ
  | _, _ => False
theorem Mt.len : ∀ {p : Pt} {ρ : Env}, Mt p ρ → p.length = ρ.length
  | [], [], _ => rfl
  | none :: p, _ :: ρ, h => by
    have := Mt.len (p := p) (ρ := ρ) h
    simp [this]
  | some t :: p, o :: ρ, h => by
    have := Mt.len (p := p) (ρ := ρ) h.2
    simp [this]
  | [], _ :: _, h => h.elim
  | none :: _, [], h => h.elim
  | some _ :: _, [], h => h.elim
theorem Mt.get : ∀ {p : Pt} {ρ : Env} {i : Nat} {t : T}, Mt p ρ → p[i]? = some (some t) → ρ[i]? = some (some t)
  | none :: p, _ :: ρ, 0, t, h, e => by simp at e
  | none :: p, _ :: ρ, i + 1, t, h, e => by
    have : Mt p ρ := h
    simpa using this.get (i := i) (by simpa using e)
  | some u :: p, o :: ρ, 0, t, h, e => by
    have h1 : o = some u := h.1
    simp at e
    simp [h1, e]
  | some u :: p, o :: ρ, i + 1, t, h, e => by
    have : Mt p ρ := h.2
    simpa using this.get (i := i) (by simpa using e)
  | [], [], i, t, h, e => by simp at e
  | [], _ :: _, _, _, h, _ => h.elim
  | none :: _, [], _, _, h, _ => h.elim
  | some _ :: _, [], _, _, h, _ => h.elim
theorem Mt.set : ∀ {p : Pt} {ρ : Env} {i : Nat} {t : T}, Mt p ρ → Mt (p.set i (some t)) (ρ.set i (some t))
  | none :: p, o :: ρ, 0, t, h => ⟨rfl, h⟩
  | none :: p, o :: ρ, i + 1, t, h => (show Mt p ρ from h).set (i := i)
  | some u :: p, o :: ρ, 0, t, h => ⟨rfl, h.2⟩
  | some u :: p, o :: ρ, i + 1, t, h => ⟨h.1, h.2.set (i := i)⟩
  | [], [], i, t, h => trivial
  | [], _ :: _, _, _, h => h.elim
  | none :: _, [], _, _, h => h.elim
  | some _ :: _, [], _, _, h => h.elim
theorem Mt.unset : ∀ {p : Pt} {ρ : Env} {i : Nat} {x : Option T}, Mt p ρ → Mt (p.set i none) (ρ.set i x)
  | none :: p, o :: ρ, 0, t, h => h
  | none :: p, o :: ρ, i + 1, t, h => (show Mt p ρ from h).unset (i := i)
  | some u :: p, o :: ρ, 0, t, h => h.2
  | some u :: p, o :: ρ, i + 1, t, h => ⟨h.1, h.2.unset (i := i)⟩
  | [], [], i, t, h => trivial
  | [], _ :: _, _, _, h => h.elim
  | none :: _, [], _, _, h => h.elim
  | some _ :: _, [], _, _, h => h.elim
def Wk : Pt → Pt → Prop
  | [], [] => True
  | _ :: p, none :: q => Wk p q
  | o :: p, some t :: q => o = some t ∧ Wk p q
  | _, _ => False
theorem Wk.mt : ∀ {p q : Pt} {ρ : Env}, Wk p q → Mt p ρ → Mt q ρ
  | [], [], _, _, h => h
  | o :: p, none :: q, x :: ρ, w, h => by
    cases o with
    | none => exact Wk.mt (q := q) w h
    | some t => exact Wk.mt (q := q) w h.2
  | o :: p, some t :: q, x :: ρ, w, h => by
    obtain ⟨e, w⟩ := w
    subst e
    exact ⟨h.1, Wk.mt w h.2⟩
  | none :: p, none :: q, [], w, h => h.elim
  | some _ :: p, none :: q, [], w, h => h.elim
  | none :: p, some _ :: q, [], w, h => h.elim
  | some _ :: p, some _ :: q, [], w, h => h.elim
  | [], _ :: _, _, w, _ => by cases ‹Option T› <;> exact w.elim
  | _ :: _, [], _, w, _ => by exact w.elim
theorem Mt.wipe {p : Pt} {ρ : Env} (h : Mt p ρ) : ∀ {vs : List Nat}, Mt (wipeE p vs) (wipeE ρ vs)
  | [] => h
  | v :: vs => (h.wipe (vs := vs)).unset
def J {Y α : Type} (p : Pt) (G : Env → R Y) (t : R α) (Rel : α → Y → Prop) : Prop := ∀ ρ, Mt p ρ → Rf (G ρ) t Rel
section
variable {Y α β γ : Type}
def B (m : MEx) (K : T → Env → R Y) : Env → R Y := fun ρ => (m ρ).bind fun x => K x.1 x.2
def Bp (m : MP) (K : T → Env → R Y) : Env → R Y := fun ρ => (ofO (m ρ)).bind fun x => K x ρ
def Ba (m : MA) (K : List T → Env → R Y) : Env → R Y := fun ρ => (m ρ).bind fun x => K x.1 x.2
def Bpa (m : MPA) (K : List T → Env → R Y) : Env → R Y := fun ρ => (ofO (m ρ)).bind fun x => K x ρ
def Bb (m : MB) (K : List (Option T) → Env → R Y) : Env → R Y := fun ρ => (m ρ).bind fun x => K x.1 x.2
def Bt (m : MT) (K : Bool → Env → R Y) : Env → R Y := fun ρ => (m ρ).bind fun x => K x.1 x.2
def Bi (m : MI) (K : List T → Env → R Y) : Env → R Y := fun ρ => (m ρ).bind fun x => K x.1 x.2
def Bo (r : R RV) (K : T → Env → R Y) : Env → R Y := fun ρ => r.bind fun z => K z.toT ρ
def Bv (r : R RV) (K : T → Env → R Y) : Env → R Y := fun ρ => (ofO (okV r)).bind fun v => K v ρ
def Bg (g : MG) (v : T) (K : Env → R Y) : Env → R Y := fun ρ => (ofO (g v ρ)).bind K
def Bgs (g : MGs) (v : List T) (K : Env → R Y) : Env → R Y := fun ρ => (ofO (g v ρ)).bind K
structure SK (Y : Type) where
  nx : Env → R Y
  rt : T → Env → R Y
  bk : Env → R Y
  ct : Env → R Y
def SK.ap (κ : SK Y) : Out → R Y
  | .next ρ => κ.nx ρ
  | .ret t ρ => κ.rt t ρ
  | .brk ρ => κ.bk ρ
  | .cont ρ => κ.ct ρ
def Bs (s : MS) (κ : SK Y) : Env → R Y := fun ρ => (s ρ).bind κ.ap
def iteG (b : Bool) (G1 G2 : Env → R Y) : Env → R Y := fun ρ => if b = true then G1 ρ else G2 ρ
variable {p : Pt} {t t2 : R α} {Rel : α → Y → Prop} {K : T → Env → R Y} {i : Nat}
theorem J.eq {G G' : Env → R Y} (e : G = G') (h : J p G' t Rel) : J p G t Rel := by rw [e]; exact h
theorem J.wk {q : Pt} {G : Env → R Y} (w : Wk p q) (h : J q G t Rel) : J p G t Rel := fun ρ m => h ρ (w.mt m)
theorem x_d {v : PyData} (e : p[i]? = some (some (.d v))) (h : J p (K (.d v)) t Rel) : J p (B (mVar i) K) t Rel := fun ρ m => by
  show Rf ((mVar i ρ).bind _) t Rel
  rw [e_mVar, m.get e]
  exact h ρ m
theorem x_fz {u : T} {v : PyData} (e : p[i]? = some (some u)) (f : u.fz = some v) (h : J (p.set i (some (.d v))) (K (.d v)) t Rel) : J p (B (mVar i) K) t Rel := fun ρ m => by
  show Rf ((mVar i ρ).bind _) t Rel
  rw [e_mVar, m.get e]
  have hs := h _ (m.set (i := i) (t := .d v))
  cases u with
  | d x =>
    simp at f
    subst f
    have : ρ.set i (some (T.d x)) = ρ := by
      have hg := m.get e
      obtain ⟨hi, hx⟩ := List.getElem?_eq_some_iff.mp hg
      rw [← hx]; simp
    rw [this] at hs
    exact hs
  | ol ts => rw [e_varKo, f]; exact hs
  | ot ts => rw [e_varKt, f]; exact hs
  | od ks xs =>
    show Rf ((varK2 i ρ (T.fz (.od ks xs))).bind _) t Rel
    rw [f]; exact hs
  | fd _ _ _ => simp [T.fz] at f
  | fk _ _ _ => simp [T.fz] at f
  | dt _ _ _ => simp [T.fz] at f
  | no _ => simp [T.fz] at f
  | hl => simp [T.fz] at f
  | rd _ => simp [T.fz] at f
  | ex _ => simp [T.fz] at f
  | ob _ _ _ => simp [T.fz] at f
theorem x_rd {ds : List PyData} (e : p[i]? = some (some (.rd ds))) (h : J p (K (.rd ds)) t Rel) : J p (B (mRd i) K) t Rel := fun ρ m => by
  show Rf ((mRd i ρ).bind _) t Rel
  rw [e_mRd, m.get e]
  exact h _ m
def onlyD (K : T → Env → R Y) : T → Env → R Y := fun v => match v with
  | .d x => K (.d x)
  | _ => fun _ => .bad
theorem x_lift {m : MP} (h : J p (Bp m (onlyD K)) t Rel) : J p (B (mLift m) K) t Rel := fun ρ hm => by
  have := h ρ hm
  show Rf ((mLift m ρ).bind _) t Rel
  unfold Bp at this
  rw [e_lift]
  cases e : m ρ with
  | none => rw [e] at this; exact this
  | some u =>
    rw [e] at this
    cases u <;> exact this
theorem x_onlyD {x : PyData} (h : J p (K (.d x)) t Rel) : J p (onlyD K (.d x)) t Rel := h
theorem x_bin {op : T → T → R RV} {a b : MEx} (h : J p (B a fun x => B b fun y => Bo (op x y) K) t Rel) : J p (B (mBin op a b) K) t Rel := fun ρ m => by
  have := h ρ m
  simpa [B, Bo, mBin] using this
theorem x_tup {a : MA} (h : J p (Ba a fun xs => K (mkTup xs)) t Rel) : J p (B (mTup a) K) t Rel := fun ρ m => by
  have := h ρ m
  simpa [B, Ba, mTup] using this
theorem x_lst {a : MA} (h : J p (Ba a fun xs => K (.ol xs)) t Rel) : J p (B (mLst a) K) t Rel := fun ρ m => by
  have := h ρ m
  simpa [B, Ba, mLst] using this
def frz (K : T → Env → R Y) : T → Env → R Y := fun v => match v.fz with
  | some x => K (.d x)
  | none => fun _ => .bad
theorem x_mfz {a : MEx} (h : J p (B a (frz K)) t Rel) : J p (B (mFz a) K) t Rel := fun ρ m => by
  have := h ρ m
  show Rf ((mFz a ρ).bind _) t Rel
  have e : (mFz a ρ).bind (fun x => K x.1 x.2) = (a ρ).bind fun x => frz K x.1 x.2 := by
    unfold mFz
    rw [bind_assocS]
    congr 1
    funext x
    unfold frz
    cases x.1.fz <;> rfl
  rw [e]
  exact this
theorem x_frz {u : T} {v : PyData} (f : u.fz = some v) (h : J p (K (.d v)) t Rel) : J p (frz K u) t Rel := by
  unfold frz
  rw [f]
  exact h
theorem x_callB {op : List T → R RV} {a : MA} (h : J p (Ba a fun xs => Bo (op xs) K) t Rel) : J p (B (mCallB op a) K) t Rel := fun ρ m => by
  have := h ρ m
  simpa [B, Ba, Bo, mCallB] using this
theorem a_nil {K : List T → Env → R Y} (h : J p (K []) t Rel) : J p (Ba mNil K) t Rel := h
theorem a_cons {K : List T → Env → R Y} {a : MEx} {r : MA} (h : J p (B a fun x => Ba r fun xs => K (x :: xs)) t Rel) : J p (Ba (mCons a r) K) t Rel := fun ρ m => by
  have := h ρ m
  simpa [B, Ba, mCons] using this
theorem z_nil {K : List T → Env → R Y} (h : J p (K []) t Rel) : J p (Bpa pNil K) t Rel := h
theorem z_cons {K : List T → Env → R Y} {a : MP} {r : MPA} (h : J p (Bp a fun x => Bpa r fun xs => K (x :: xs)) t Rel) : J p (Bpa (pCons a r) K) t Rel := fun ρ m => by
  have := h ρ m
  simp only [Bp, Bpa] at this ⊢
  have e : pCons a r ρ = (a ρ).bind fun x => (r ρ).bind fun y => some (x :: y) := rfl
  rw [e]
  cases e1 : a ρ with
  | none => rw [e1] at this; exact this
  | some x =>
    rw [e1] at this
    cases e2 : r ρ with
    | none => simp [e2] at this ⊢; exact this
    | some y => simp [e2] at this ⊢; exact this
theorem p_var {u : T} (e : p[i]? = some (some u)) (h : J p (K u) t Rel) : J p (Bp (pVar i) K) t Rel := fun ρ m => by
  show Rf ((ofO (pVar i ρ)).bind _) t Rel
  rw [e_pVar, m.get e]
  exact h ρ m
theorem p_c {x : PyData} (h : J p (K (.d x)) t Rel) : J p (Bp (pC x) K) t Rel := h
theorem p_bin {op : T → T → R RV} {a b : MP} (h : J p (Bp a fun x => Bp b fun y => Bv (op x y) K) t Rel) : J p (Bp (pBin op a b) K) t Rel := fun ρ m => by
  have := h ρ m
  simp only [Bp, Bv] at this ⊢
  rw [e_pBin]
  cases e1 : a ρ with
  | none => rw [e1] at this; exact this
  | some x =>
    cases e2 : b ρ with
    | none => simp [e1, e2] at this ⊢; exact this
    | some y => simp [e1, e2] at this ⊢; exact this
theorem p_un {op : T → R RV} {a : MP} (h : J p (Bp a fun x => Bv (op x) K) t Rel) : J p (Bp (pUn op a) K) t Rel := fun ρ m => by
  have := h ρ m
  simp only [Bp, Bv] at this ⊢
  rw [e_pUn]
  cases e1 : a ρ with
  | none => rw [e1] at this; exact this
  | some x => simp [e1] at this ⊢; exact this
theorem p_callB {op : List T → R RV} {a : MPA} (h : J p (Bpa a fun xs => Bv (op xs) K) t Rel) : J p (Bp (pCallB op a) K) t Rel := fun ρ m => by
  have := h ρ m
  simp only [Bp, Bpa, Bv] at this ⊢
  rw [e_pCallB]
  cases e1 : a ρ with
  | none => rw [e1] at this; exact this
  | some x => simp [e1] at this ⊢; exact this
theorem o_ok {r : R RV} {z : RV} (e : r = .ok z) (h : J p (K z.toT) t Rel) : J p (Bo r K) t Rel := by subst e; exact h
theorem v_ok {r : R RV} {u : T} (e : r = .ok (.v u)) (h : J p (K u) t Rel) : J p (Bv r K) t Rel := by subst e; exact h
structure Ro (r : R RV) (t0 : R β) (Z : β → RV) : Prop where
  nox : ∀ c, t0 ≠ .exc c
  rf : Rf r t0 fun a z => z = Z a
theorem o_r {r : R RV} {t0 : R β} {t1 : β → R α} {Z : β → RV} (e : Ro r t0 Z) (h : ∀ a, J p (K (Z a).toT) (t1 a) Rel) : J p (Bo r K) (t0.bind t1) Rel := fun ρ m => e.rf.bind fun a z ez => by subst ez; exact h a ρ m
theorem v_r {r : R RV} {t0 : R β} {t1 : β → R α} {Z : β → T} (e : Ro r t0 fun a => .v (Z a)) (h : ∀ a, J p (K (Z a)) (t1 a) Rel) : J p (Bv r K) (t0.bind t1) Rel := fun ρ m => by
  have e2 : Rf (ofO (okV r)) t0 fun a v => v = Z a := by
    obtain ⟨nox, e⟩ := e
    cases t0 with
    | bad => exact trivial
    | exc c => exact (nox c rfl).elim
    | ok a =>
      obtain ⟨z, e1, e2⟩ := e
      subst e1
      subst e2
      exact ⟨_, rfl, rfl⟩
  exact e2.bind fun a z ez => by subst ez; exact h a ρ m
variable {KB : Bool → Env → R Y}
def onB (KB : Bool → Env → R Y) : T → Env → R Y := fun v => match v with
  | .d (.bool b) => KB b
  | _ => fun _ => .bad
theorem t_test {a : MEx} (h : J p (B a (onB KB)) t Rel) : J p (Bt (mTest a) KB) t Rel := fun ρ m => by
  have := h ρ m
  simp only [B, Bt] at this ⊢
  rw [e_mTest, bind_assocS]
  have e : (fun x : T × Env => (testK x).bind fun y => KB y.1 y.2) = fun x => onB KB x.1 x.2 := by
    funext x
    obtain ⟨v, ρ'⟩ := x
    cases v with
    | d d => cases d <;> rfl
    | _ => rfl
  rw [e]
  exact this
theorem t_onB {b : Bool} (h : J p (KB b) t Rel) : J p (onB KB (.d (.bool b))) t Rel := h
theorem g_ite {b : Bool} {c : Prop} [Decidable c] {G1 G2 : Env → R Y} (e : b = decide c) (h1 : c → J p G1 t Rel) (h2 : ¬ c → J p G2 t2 Rel) : J p (iteG b G1 G2) (if c then t else t2) Rel := by
  subst e
  unfold iteG
  by_cases hc : c
  · simp [hc]; exact h1 hc
  · simp [hc]; exact h2 hc
abbrev kV : T → Env → R (T × Env) := fun v ρ => .ok (v, ρ)
variable {KE : Env → R Y}
theorem g_name {v : T} (h : J (p.set i (some v)) KE t Rel) : J p (Bg (mgName i) v KE) t Rel := fun ρ m => h _ m.set
theorem g_tup {n : Nat} {r : MGs} {v : T} {vs : List T} (e : v.parts = some vs) (l : vs.length = n) (h : J p (Bgs r vs KE) t Rel) : J p (Bg (mgTup n r) v KE) t Rel := fun ρ m => by
  have := h ρ m
  simp only [Bg, Bgs] at this ⊢
  rw [e_mgTup, e, e_gTupK, if_pos l]
  exact this
theorem g_nil (h : J p KE t Rel) : J p (Bgs mgNil [] KE) t Rel := h
theorem g_cons {g : MG} {r : MGs} {v : T} {vs : List T} (h : J p (Bg g v (Bgs r vs KE)) t Rel) : J p (Bgs (mgCons g r) (v :: vs) KE) t Rel := fun ρ m => by
  have := h ρ m
  simp only [Bg, Bgs] at this ⊢
  rw [e_mgCons]
  cases e : g v ρ with
  | none => rw [e] at this; exact this
  | some x => rw [e] at this; simp; exact this
variable {κ : SK Y}
theorem s_next (h : J p κ.nx t Rel) : J p (Bs mNext κ) t Rel := h
theorem s_seq {a b : MS} (h : J p (Bs a ⟨Bs b κ, κ.rt, κ.bk, κ.ct⟩) t Rel) : J p (Bs (mSeq a b) κ) t Rel := fun ρ m => by
  have := h ρ m
  simp only [Bs] at this ⊢
  rw [e_mSeq, bind_assocS]
  have e : (fun x : Out => (seqK b x).bind κ.ap) = (⟨fun ρ => (b ρ).bind κ.ap, κ.rt, κ.bk, κ.ct⟩ : SK Y).ap := by
    funext x
    cases x <;> rfl
  rw [e]
  exact this
theorem s_ret {a : MEx} (h : J p (B a κ.rt) t Rel) : J p (Bs (mRet a) κ) t Rel := fun ρ m => by
  have := h ρ m
  simpa [Bs, B, mRet, SK.ap] using this
theorem s_drop {a : MEx} (h : J p (B a fun _ => κ.nx) t Rel) : J p (Bs (mDrop a) κ) t Rel := fun ρ m => by
  have := h ρ m
  simpa [Bs, B, mDrop, SK.ap] using this
theorem s_asg {a : MEx} {g : MG} (h : J p (B a fun v => Bg g v κ.nx) t Rel) : J p (Bs (mAsg a g) κ) t Rel := fun ρ m => by
  have := h ρ m
  simpa [Bs, B, Bg, mAsg, SK.ap] using this
theorem s_if {a b : MS} {c : MT} (h : J p (Bt c fun x => iteG x (Bs a κ) (Bs b κ)) t Rel) : J p (Bs (mIfS c a b) κ) t Rel := fun ρ m => by
  have := h ρ m
  simp only [Bt, Bs] at this ⊢
  rw [e_mIfS, bind_assocS]
  have e : (fun x : Bool × Env => (ifK a b x).bind κ.ap) = fun x => iteG x.1 (Bs a κ) (Bs b κ) x.2 := by
    funext x
    obtain ⟨v, ρ'⟩ := x
    cases v <;> rfl
  rw [e]
  exact this
inductive Fl (σ ρ : Type) where
  | nx (s : σ) | rt (r : ρ) | bk (s : σ)
abbrev kO : SK Out := ⟨fun ρ => .ok (.next ρ), fun v ρ => .ok (.ret v ρ), fun ρ => .ok (.brk ρ), fun ρ => .ok (.cont ρ)⟩
theorem kO_ap {s : MS} {ρ : Env} : Bs s kO ρ = s ρ := by
  unfold Bs
  cases s ρ with
  | ok o => cases o <;> rfl
  | _ => rfl
def endN (q : β → Pt) : β → Out → Prop := fun a o => ∃ ρ, o = .next ρ ∧ Mt (q a) ρ
def endC (q : β → Pt) : β → Out → Prop := fun a o => ∃ ρ, (o = .next ρ ∨ o = .cont ρ) ∧ Mt (q a) ρ
def Fl.on {σ ρ A : Type} (f : Fl σ ρ) (k : σ → A) (kr : ρ → A) : A := match f with
  | .nx s => k s
  | .rt r => kr r
  | .bk s => k s
theorem e_cN {q : β → Pt} {a : β} (w : Wk p (q a)) : J p kO.nx (.ok a) (endC q) := fun ρ m => ⟨_, rfl, ρ, .inl rfl, w.mt m⟩
end
section
variable {Y α β γ σ A : Type}
def tFold (f : σ → A → R σ) : List A → σ → R σ
  | [], s => .ok s
  | x :: xs, s => (f s x).bind (tFold f xs)
def tLoop (f : σ → A → R (Fl σ γ)) : List A → σ → R (Fl σ γ)
  | [], s => .ok (.nx s)
  | x :: xs, s => (f s x).bind fun r => match r with
    | .nx s => tLoop f xs s
    | .bk s => .ok (.nx s)
    | .rt r => .ok (.rt r)
def Blp (g : MG) (b : MS) (items : List T) (κ : SK Y) : Env → R Y := fun ρ => (mLoop g b items ρ).bind κ.ap
variable {p : Pt} {t : R α} {Rel : α → Y → Prop} {κ : SK Y}
theorem s_for {mi : MI} {g : MG} {b : MS} (h : J p (Bi mi fun items => Blp g b items κ) t Rel) : J p (Bs (mFor mi g b) κ) t Rel := fun ρ m => by
  have := h ρ m
  simpa [Bs, Bi, Blp, mFor] using this
theorem loop_rf {g : MG} {b : MS} {F : A → T} {q : σ → Pt} {f : σ → A → R σ} (hb : ∀ s x, J (q s) (Bg g (F x) (Bs b kO)) (f s x) (endC q)) : ∀ (xs : List A) (s : σ) (ρ : Env), Mt (q s) ρ → Rf (mLoop g b (xs.map F) ρ) (tFold f xs s) (endN q)
  | [], s, ρ, m => ⟨_, rfl, ρ, rfl, m⟩
  | x :: xs, s, ρ, m => by
    have h := hb s x ρ m
    have e : mLoop g b ((x :: xs).map F) ρ = (Bg g (F x) (Bs b kO) ρ).bind (loopK2 g b (xs.map F)) := by
      rw [List.map_cons, e_loopC]
      unfold Bg
      rw [bind_assocS]
      congr 1
      funext ρ1
      rw [kO_ap]
      rfl
    rw [e]
    refine h.bind fun s' o ho => ?_
    obtain ⟨ρ', e1, e2⟩ := ho
    rcases e1 with e1 | e1 <;> (subst e1; exact loop_rf hb xs s' ρ' e2)
theorem l_for {g : MG} {b : MS} {F : A → T} {xs : List A} {q : σ → Pt} {f : σ → A → R σ} {s0 : σ} {t1 : σ → R α} (w : Wk p (q s0)) (hb : ∀ s x, J (q s) (Bg g (F x) (Bs b kO)) (f s x) (endC q)) (h : ∀ s, J (q s) κ.nx (t1 s) Rel) : J p (Blp g b (xs.map F) κ) ((tFold f xs s0).bind t1) Rel := fun ρ m =>
  (loop_rf hb xs s0 ρ (w.mt m)).bind fun s o ⟨ρ', e1, e2⟩ => by subst e1; exact h s ρ' e2
def tWhileN (c : σ → R Bool) (f : σ → R (Fl σ γ)) : Nat → σ → R (Fl σ γ)
  | 0, _ => .bad
  | n + 1, s => (c s).bind fun b => if b = true then (f s).bind fun r => match r with
    | .nx s => tWhileN c f n s
    | .bk s => .ok (.nx s)
    | .rt r => .ok (.rt r) else .ok (.nx s)
open Classical in
noncomputable def tWhile (c : σ → R Bool) (f : σ → R (Fl σ γ)) : σ → R (Fl σ γ) := fun s => if h : ∃ n, tWhileN c f n s ≠ .bad then tWhileN c f (Classical.choose h) s else .bad
def tLc (f : σ → A → R (Option β × σ)) : List A → List β → σ → R (List β × σ)
  | [], acc, s => .ok (acc, s)
  | x :: xs, acc, s => (f s x).bind fun r => tLc f xs (acc ++ r.1.toList) r.2
def tMap (f : A → R β) : List A → R (List β)
  | [] => .ok []
  | x :: xs => (f x).bind fun y => (tMap f xs).bind fun ys => .ok (y :: ys)
def tFm (f : A → R (Option β)) : List A → R (List β)
  | [] => .ok []
  | x :: xs => (f x).bind fun y => (tFm f xs).bind fun ys => .ok (y.toList ++ ys)
def Bel (g : MG) (mt : MT) (me : MEx) (vs : List Nat) (x : T) : Env → R (Option T × Env) := fun ρ => (ofO (g x (wipeE ρ vs))).bind fun ρ1 => (mt ρ1).bind fun r => if r.1 = true then (me r.2).bind fun y => .ok (some y.1, y.2) else .ok (none, r.2)
def endE (G : β → T) (q : σ → Pt) (vs : List Nat) : Option β × σ → Option T × Env → Prop := fun a x => x.1 = a.1.map G ∧ Mt (wipeE (q a.2) vs) (wipeE x.2 vs)
theorem lc_rf {g : MG} {mt : MT} {me : MEx} {vs : List Nat} {F : A → T} {G : β → T} {q : σ → Pt} {f : σ → A → R (Option β × σ)} (hb : ∀ s x ρ, Mt (wipeE (q s) vs) (wipeE ρ vs) → Rf (Bel g mt me vs (F x) ρ) (f s x) (endE G q vs)) :
    ∀ (xs : List A) (acc : List β) (s : σ) (ρ : Env), xs.length + acc.length ≤ sLine → Mt (wipeE (q s) vs) (wipeE ρ vs) → Rf (mLcLoop g mt me vs (xs.map F) (acc.map G) ρ) (tLc f xs acc s) (fun a z => z.1 = a.1.map G ∧ Mt (wipeE (q a.2) vs) (wipeE z.2 vs))
  | [], acc, s, ρ, hl, m => ⟨_, rfl, rfl, m⟩
  | x :: xs, acc, s, ρ, hl, m => by
    have h := hb s x ρ m
    have e : mLcLoop g mt me vs ((x :: xs).map F) (acc.map G) ρ = (Bel g mt me vs (F x) ρ).bind fun z => mLcLoop g mt me vs (xs.map F) (acc.map G ++ z.1.toList) z.2 := by
      rw [List.map_cons, e_lcC]
      unfold Bel
      rw [bind_assocS]
      congr 1
      funext ρ1
      rw [e_lcL1, bind_assocS]
      congr 1
      funext r
      obtain ⟨b, ρ2⟩ := r
      cases b with
      | false => simp
      | true =>
        have hs : decide ((acc.map G).length < sLine) = true := decide_eq_true (by simp at hl ⊢; omega)
        rw [e_lcL2, if_pos rfl, hs, guard_t]
        simp only [if_true, bind_assocS, bind_okS]
        congr 1
    rw [e]
    refine h.bind fun a z hz => ?_
    obtain ⟨e1, e2⟩ := hz
    have e3 : acc.map G ++ z.1.toList = (acc ++ a.1.toList).map G := by
      rw [e1]
      cases a.1 <;> simp
    rw [e3]
    exact lc_rf hb xs _ _ _ (by
      have : a.1.toList.length ≤ 1 := by cases a.1 <;> simp
      simp at hl ⊢; omega) e2
def Blc (g : MG) (mt : MT) (me : MEx) (vs : List Nat) (items : List T) (K : T → Env → R Y) : Env → R Y := fun ρ => (mLcLoop g mt me vs items [] ρ).bind fun z => K (.ol z.1) (wipeE z.2 vs)
variable {p : Pt} {t : R α} {Rel : α → Y → Prop} {K : T → Env → R Y}
theorem x_lc {mi : MI} {g : MG} {mt : MT} {me : MEx} {vs : List Nat} (h : J p (Bi mi fun items => Blc g mt me vs items K) t Rel) : J p (B (mLc mi g mt me vs) K) t Rel := fun ρ m => by
  have := h ρ m
  simpa [B, Bi, Blc, mLc] using this
abbrev kS : T → Env → R (Option T × Env) := fun v ρ => .ok (some v, ρ)
abbrev kN : Env → R (Option T × Env) := fun ρ => .ok (none, ρ)
theorem bel_eq {g : MG} {mt : MT} {me : MEx} {vs : List Nat} {x : T} {ρ : Env} : Bel g mt me vs x ρ = Bg g x (Bt mt fun b => iteG b (B me kS) kN) (wipeE ρ vs) := by
  unfold Bel Bg Bt
  congr 1
def endL (G : β → T) (q : σ → Pt) : Option β × σ → Option T × Env → Prop := fun a x => x.1 = a.1.map G ∧ Mt (q a.2) x.2
theorem lc_rf2 {g : MG} {mt : MT} {me : MEx} {vs : List Nat} {F : A → T} {G : β → T} {q : σ → Pt} {f : σ → A → R (Option β × σ)} (hq : ∀ s, wipeE (q s) vs = q s) (hb : ∀ s x, J (q s) (Bg g (F x) (Bt mt fun b => iteG b (B me kS) kN)) (f s x) (endL G q)) {xs : List A} {s : σ} {ρ : Env} (hl : xs.length ≤ sLine) (m : Mt (q s) ρ) :
    Rf (mLcLoop g mt me vs (xs.map F) [] ρ) (tLc f xs [] s) (fun a z => z.1 = a.1.map G ∧ Mt (q a.2) (wipeE z.2 vs)) := by
  have := lc_rf (g := g) (mt := mt) (me := me) (vs := vs) (F := F) (G := G) (q := q) (f := f) (fun s x ρ m => by
    rw [bel_eq]
    rw [hq] at m
    exact (hb s x _ m).mono fun a z ⟨e1, e2⟩ => ⟨e1, e2.wipe⟩) xs [] s ρ (by simpa using hl) m.wipe
  refine this.mono fun a z ⟨e1, e2⟩ => ⟨e1, by rwa [hq] at e2⟩
def lenOk {α : Type} (xs : List α) : Bool := decide (xs.length ≤ sLine)
def tLcG (f : σ → A → R (Option β × σ)) (xs : List A) (s : σ) : R (List β × σ) := guard (lenOk xs) (tLc f xs [] s)
theorem l_lc {g : MG} {mt : MT} {me : MEx} {vs : List Nat} {F : A → T} {G : β → T} {q : σ → Pt} {f : σ → A → R (Option β × σ)} {xs : List A} {s0 : σ} {t1 : List β × σ → R α} (w : Wk p (q s0)) (hq : ∀ s, wipeE (q s) vs = q s) (hb : ∀ s x, J (q s) (Bg g (F x) (Bt mt fun b => iteG b (B me kS) kN)) (f s x) (endL G q)) (h : ∀ r, J (q r.2) (K (.ol (r.1.map G))) (t1 r) Rel) :
    J p (Blc g mt me vs (xs.map F) K) ((tLcG f xs s0).bind t1) Rel := fun ρ m => by
  unfold tLcG Blc
  cases hl : lenOk xs with
  | false => exact trivial
  | true =>
    rw [guard_t]
    refine (lc_rf2 hq hb (of_decide_eq_true hl) (w.mt m)).bind fun a z ⟨e1, e2⟩ => ?_
    rw [e1]
    exact h a _ e2
theorem tLc_map {f : A → R β} : ∀ {xs : List A} {acc : List β} {s : σ}, tLc (fun s x => (f x).bind fun y => .ok (some y, s)) xs acc s = (tMap f xs).bind fun ys => .ok (acc ++ ys, s)
  | [], acc, s => by simp [tLc, tMap]
  | x :: xs, acc, s => by
    simp only [tLc, tMap, bind_assocS, bind_okS]
    congr 1
    funext y
    rw [tLc_map]
    congr 1
    funext ys
    simp
def tMapG (f : A → R β) (xs : List A) : R (List β) := guard (lenOk xs) (tMap f xs)
def tFmG (f : A → R (Option β)) (xs : List A) : R (List β) := guard (lenOk xs) (tFm f xs)
def endM (G : β → T) (q : Pt) : β → Option T × Env → Prop := fun a x => x.1 = some (G a) ∧ Mt q x.2
theorem l_map {g : MG} {me : MEx} {vs : List Nat} {F : A → T} {G : β → T} {q : Pt} {f : A → R β} {xs : List A} {t1 : List β → R α} (w : Wk p q) (hq : wipeE q vs = q) (hb : ∀ x, J q (Bg g (F x) (B me kS)) (f x) (endM G q)) (h : ∀ r, J q (K (.ol (r.map G))) (t1 r) Rel) :
    J p (Blc g mtYes me vs (xs.map F) K) ((tMapG f xs).bind t1) Rel := by
  have h2 := l_lc (p := p) (g := g) (mt := mtYes) (me := me) (vs := vs) (F := F) (G := G) (K := K) (Rel := Rel) (q := fun _ : Unit => q) (f := fun s x => (f x).bind fun y => .ok (some y, s)) (xs := xs) (s0 := ()) (t1 := fun r => t1 r.1) w (fun _ => hq) (fun s x ρ m => by
    have := hb x ρ m
    have e : Bg g (F x) (Bt mtYes fun b => iteG b (B me kS) kN) ρ = Bg g (F x) (B me kS) ρ := by
      unfold Bg Bt iteG mtYes
      congr 1
    rw [e]
    have h3 := this.bind (k := fun z => .ok z) (k' := fun y => .ok (some y, s)) (Rel' := endL G fun _ : Unit => q) (fun a z ⟨e1, e2⟩ => ⟨_, rfl, e1, e2⟩)
    have e4 : (Bg g (F x) (B me kS) ρ).bind (fun z => R.ok z) = Bg g (F x) (B me kS) ρ := by
      cases Bg g (F x) (B me kS) ρ <;> rfl
    rwa [e4] at h3) (fun r => h r.1)
  have e : (tMapG f xs).bind t1 = (tLcG (fun s x => (f x).bind fun y => .ok (some y, s)) xs ()).bind fun r => t1 r.1 := by
    unfold tMapG tLcG
    rw [tLc_map]
    cases lenOk xs <;> simp
  rw [e]
  exact h2
theorem e_m {G : β → T} {q : Pt} {v : T} {a : β} (e : v = G a) (w : Wk p q) : J p (kS v) (.ok a) (endM G q) := fun ρ m => ⟨_, rfl, by rw [e], w.mt m⟩
variable {KI : List T → Env → R Y}
def onItems (o : Option (List T)) (KI : List T → Env → R Y) : Env → R Y := fun ρ => (ofO o).bind fun ts => KI ts ρ
theorem i_list {m : MEx} (h : J p (B m fun v => onItems (items? v) KI) t Rel) : J p (Bi (miL m) KI) t Rel := fun ρ hm => by
  have := h ρ hm
  simpa [B, Bi, onItems, miL] using this
theorem i_on {o : Option (List T)} {ts : List T} (e : o = some ts) (h : J p (KI ts) t Rel) : J p (onItems o KI) t Rel := by subst e; exact h
def rgI (lo hi : Int) : List Int := (List.range (hi - lo).toNat).map fun i => lo + (i : Nat)
theorem rgI_items {lo hi : Int} : rangeItems lo hi = (rgI lo hi).map fun i => T.d (.int i) := by simp [rgI, rangeItems, Function.comp_def]
@[irreducible] def tRange (lo hi : Int) : R (List Int) := guard (small62 lo && small62 hi) (.ok (rgI lo hi))
def onR1 (KI : List T → Env → R Y) : List T → Env → R Y := fun ts => match ts with
  | [.d (.int j)] => fun ρ => guard (small62 j) (KI (rangeItems 0 j) ρ)
  | _ => fun _ => .bad
theorem i_range1 {m : MA} (h : J p (Ba m (onR1 KI)) t Rel) : J p (Bi (miR1 m) KI) t Rel := fun ρ hm => by
  have := h ρ hm
  simp only [Ba, Bi] at this ⊢
  rw [e_miR1, bind_assocS]
  have e : (fun x : List T × Env => (rg1 x).bind fun y => KI y.1 y.2) = fun x => onR1 KI x.1 x.2 := by
    funext x
    obtain ⟨v, ρ'⟩ := x
    unfold rg1 onR1
    dsimp only
    split
    · unfold L3.guard
      try dsimp only
      split <;> rfl
    · rename_i h
      first
        | rfl
        | (split
           · exact (h _ rfl).elim
           · rfl)
  rw [e]
  exact this
theorem i_r1 {j : Int} {t1 : List Int → R α} (h : ∀ xs, J p (KI (xs.map fun i => T.d (.int i))) (t1 xs) Rel) : J p (onR1 KI [.d (.int j)]) ((tRange 0 j).bind t1) Rel := fun ρ m => by
  unfold onR1 tRange
  dsimp only
  have e0 : small62 0 = true := by decide
  rw [e0, Bool.true_and, rgI_items]
  cases small62 j with
  | false => exact trivial
  | true => exact h _ ρ m
def enumL {α : Type} (xs : List α) : List (Int × α) := xs.zipIdx.map fun z => ((z.2 : Int), z.1)
end
section
variable {Y α β : Type} {p : Pt} {t : R α} {Rel : α → Y → Prop} {K : T → Env → R Y} {KO : List (Option T) → Env → R Y}
def Bcall (rz : Bool) (n : Nat) (fm : List T → R (T × List T)) (ks : List (Option Nat)) (os : List (Option T)) (K : T → Env → R Y) : Env → R Y := fun ρ => (ofO (fillIo ks os ρ)).bind fun s => (if decide (s.1.length = n) then (if rz = true then fm s.1 else (fm s.1).nx) else .bad).bind fun z => (ofO (putIo (ks.filterMap id) z.2 s.2)).bind fun ρ' => K z.1 ρ'
theorem x_call {rz : Bool} {n : Nat} {fm : List T → R (T × List T)} {ks : List (Option Nat)} {mb : MB} (h : J p (Bb mb fun os => Bcall rz n fm ks os K) t Rel) : J p (B (mCallF rz false n fm ks mb) K) t Rel := fun ρ m => by
  have := h ρ m
  simpa [B, Bb, Bcall, mCallF] using this
theorem b_nil (h : J p (KO []) t Rel) : J p (Bb mbNil KO) t Rel := h
theorem b_cons {a : MEx} {r : MB} (h : J p (B a fun x => Bb r fun os => KO (some x :: os)) t Rel) : J p (Bb (mbCons a r) KO) t Rel := fun ρ m => by
  have := h ρ m
  simpa [B, Bb, mbCons] using this
theorem Mt.fill : ∀ {ks : List (Option Nat)} {os : List (Option T)} {p p1 : Pt} {ts : List T} {ρ : Env}, Mt p ρ → fillIo ks os p = some (ts, p1) → ∃ ρ1, fillIo ks os ρ = some (ts, ρ1) ∧ Mt p1 ρ1
  | [], [], p, p1, ts, ρ, m, e => by
    simp at e
    obtain ⟨rfl, rfl⟩ := e
    exact ⟨ρ, rfl, m⟩
  | none :: ks, some u :: os, p, p1, ts, ρ, m, e => by
    rw [e_fill1] at e
    obtain ⟨r, e1, e2⟩ := Option.map_eq_some_iff.mp e
    obtain ⟨ρ1, e3, e4⟩ := m.fill (ks := ks) (os := os) (p1 := r.2) (ts := r.1) e1
    cases e2
    exact ⟨ρ1, by rw [e_fill1, e3]; rfl, e4⟩
  | some i :: ks, none :: os, p, p1, ts, ρ, m, e => by
    rw [e_fill2] at e
    cases e0 : p[i]? with
    | none => rw [e0] at e; cases e
    | some o =>
      cases o with
      | none => rw [e0] at e; cases e
      | some u =>
        rw [e0, e_fillK] at e
        obtain ⟨r, e1, e2⟩ := Option.map_eq_some_iff.mp e
        obtain ⟨ρ1, e3, e4⟩ := (m.unset (i := i) (x := none)).fill (ks := ks) (os := os) (p1 := r.2) (ts := r.1) e1
        cases e2
        exact ⟨ρ1, by rw [e_fill2, m.get e0, e_fillK, e3]; rfl, e4⟩
  | [], _ :: _, p, p1, ts, ρ, m, e => by cases ‹Option T› <;> cases e
  | none :: _, [], p, p1, ts, ρ, m, e => by cases e
  | none :: _, none :: _, p, p1, ts, ρ, m, e => by cases e
  | some _ :: _, [], p, p1, ts, ρ, m, e => by cases e
  | some _ :: _, some _ :: _, p, p1, ts, ρ, m, e => by cases e
theorem Mt.put : ∀ {is : List Nat} {os : List T} {p p1 : Pt} {ρ : Env}, Mt p ρ → putIo is os p = some p1 → ∃ ρ1, putIo is os ρ = some ρ1 ∧ Mt p1 ρ1
  | [], [], p, p1, ρ, m, e => by cases e; exact ⟨ρ, rfl, m⟩
  | i :: is, u :: os, p, p1, ρ, m, e => by
    rw [e_put1] at e
    obtain ⟨ρ1, e1, e2⟩ := (m.set (i := i) (t := u)).put e
    exact ⟨ρ1, by rw [e_put1]; exact e1, e2⟩
  | [], _ :: _, _, _, _, _, e => by cases e
  | _ :: _, [], _, _, _, _, e => by cases e
theorem Mt.outs : ∀ {io : List Nat} {p : Pt} {ρ : Env} {os : List T}, Mt p ρ → L3.outs io p = .ok os → L3.outs io ρ = .ok os
  | [], p, ρ, os, m, e => e
  | i :: io, p, ρ, os, m, e => by
    rw [e_outs1] at e ⊢
    cases e0 : p[i]? with
    | none => rw [e0] at e; cases e
    | some o =>
      cases o with
      | none => rw [e0] at e; cases e
      | some u =>
        rw [e0, e_outK] at e
        rw [m.get e0, e_outK]
        cases e1 : L3.outs io p with
        | ok os' => rw [m.outs e1]; rw [e1] at e; exact e
        | exc _ => rw [e1] at e; cases e
        | bad => rw [e1] at e; cases e
def Fn (fm : List T → R (T × List T)) (ts : List T) (t0 : R β) (F : β → T) (G : β → List T) : Prop := Rf (fm ts) t0 fun a z => z = (F a, G a)
theorem c_end {n : Nat} {fm : List T → R (T × List T)} {ks : List (Option Nat)} {os : List (Option T)} {ts : List T} {p1 : Pt} {p2 : β → Pt} {t0 : R β} {t1 : β → R α} {F : β → T} {G : β → List T} (hf : fillIo ks os p = some (ts, p1)) (hr : Fn fm ts t0 F G) (hn : ts.length = n) (hp : ∀ a, putIo (ks.filterMap id) (G a) p1 = some (p2 a)) (h : ∀ a, J (p2 a) (K (F a)) (t1 a) Rel) :
    J p (Bcall false n fm ks os K) (t0.nx.bind t1) Rel := fun ρ m => by
  obtain ⟨ρ1, e1, m1⟩ := m.fill hf
  unfold Bcall
  rw [e1]
  simp only [ofO_some, bind_okS, hn, decide_true, if_true]
  refine hr.nx.bind fun a z e => ?_
  subst e
  obtain ⟨ρ2, e2, m2⟩ := m1.put (hp a)
  rw [e2]
  exact h a _ m2
theorem fn_drop {fm : List T → R (T × List T)} {ts : List T} {t0 : R β} {F : β → T} {G : β → List T} (h : Fn fm ts t0 F G) : Fn (dropIo fm) ts t0 F fun _ => [] := by
  unfold Fn at h ⊢
  rw [e_dropIo]
  have := h.bind (k := dropIoK) (k' := fun a => .ok a) (Rel' := fun a z => z = (F a, [])) (fun a z e => by subst e; exact ⟨_, rfl, rfl⟩)
  have e : t0.bind (fun a => R.ok a) = t0 := by cases t0 <;> rfl
  rwa [e] at this
abbrev kF (io : List Nat) : SK (T × List T) := ⟨fun ρ => (outs io ρ).bind fun os => .ok (.d .none, os), fun v ρ => (outs io ρ).bind fun os => .ok (v, os), fun _ => .bad, fun _ => .bad⟩
theorem fn_j {io : List Nat} {k : Nat} {b : MS} {ts : List T} {t0 : R β} {F : β → T} {G : β → List T} {p : Pt} (e : p = ts.map some ++ List.replicate k none) (h : J p (Bs b (kF io)) t0 fun a z => z = (F a, G a)) : Fn (mFn io k b) ts t0 F G := by
  subst e
  have hm : ∀ (xs : Env), Mt xs xs := by
    intro xs
    induction xs with
    | nil => exact trivial
    | cons o xs ih => cases o with
      | none => exact ih
      | some t => exact ⟨rfl, ih⟩
  have := h _ (hm _)
  unfold Fn
  rw [e_mFn]
  have e : (b (ts.map some ++ List.replicate k none)).bind (fnK io) = Bs b (kF io) (ts.map some ++ List.replicate k none) := by
    unfold Bs
    congr 1
    funext o
    cases o <;> rfl
  rw [e]
  exact this
theorem f_ret {io : List Nat} {v : T} {os : List T} {a : β} {F : β → T} {G : β → List T} (e : outs io p = .ok os) (e1 : v = F a) (e2 : os = G a) : J p ((kF io).rt v) (.ok a) fun a z => z = (F a, G a) := fun ρ m => by
  refine ⟨(v, os), ?_, by rw [e1, e2]⟩
  show (outs io ρ).bind _ = _
  rw [m.outs e]
  rfl
end
section
variable {α β : Type}
abbrev dE (e : α → PyData) : α → T := fun x => .d (e x)
abbrev oL (f : α → T) : List α → T := fun xs => .ol (xs.map f)
abbrev eI : Int → PyData := .int
abbrev eS : Str → PyData := .str
abbrev eN : Unit → PyData := fun _ => .none
abbrev eL (e : α → PyData) : List α → PyData := fun xs => .list (xs.map e)
abbrev eO (e : α → PyData) : Option α → PyData := fun o => match o with | some a => e a | none => .none
abbrev eT2 {γ : Type} (e : α → PyData) (f : γ → PyData) : α × γ → PyData := fun x => .tuple [e x.1, f x.2]
abbrev eT3 {γ δ : Type} (e : α → PyData) (f : γ → PyData) (g : δ → PyData) : α × γ × δ → PyData := fun x => .tuple [e x.1, f x.2.1, g x.2.2]
theorem dmap {e : α → PyData} {xs : List α} : (xs.map e).map T.d = xs.map (dE e) := by simp [Function.comp_def]
theorem dmapI {e : α → PyData} {xs : List α} : items? (.d (.list (xs.map e))) = some (xs.map (dE e)) := congrArg some dmap
theorem fz_d {x : PyData} : T.fz (.d x) = some x := e_fzD
theorem fz_ol {f : α → T} {e : α → PyData} {xs : List α} (h : ∀ x, T.fz (f x) = some (e x)) : T.fz (.ol (xs.map f)) = some (.list (xs.map e)) := by
  have : T.fzAll (xs.map f) = some (xs.map e) := by
    induction xs with
    | nil => simp [T.fzAll]
    | cons x xs ih => simp [h, ih]
  rw [e_fzOl, this]
  rfl
theorem lst_d {xs : List PyData} : T.lst? (.d (.list xs)) = some xs := rfl
def tOp (b : Bool) (x : β) : R β := guard b (.ok x)
theorem ro_guard {b : Bool} {x : β} {Z : β → RV} {r : R RV} (e : r = guard b (.ok (Z x))) : Ro r (tOp b x) Z := by
  subst e
  unfold tOp
  cases b with
  | false => exact ⟨(fun c z => nomatch z), trivial⟩
  | true => exact ⟨(fun c z => nomatch z), ⟨_, rfl, rfl⟩⟩
def tMul (a b : Int) : R Int := tOp (mulOk a b) (a * b)
def tFdiv (a b : Int) : R Int := tOp (divOk a b) (a.fdiv b)
def tMod (a b : Int) : R Int := tOp (decide (b ≠ 0)) (a.fmod b)
def tPow (a b : Int) : R Int := tOp (powOk a b) (a ^ b.toNat)
theorem ro_mul {a b : Int} : Ro (opMulI (.d (.int a)) (.d (.int b))) (tMul a b) fun x => .v (.d (.int x)) := ro_guard rfl
theorem ro_fdiv {a b : Int} : Ro (opFdiv (.d (.int a)) (.d (.int b))) (tFdiv a b) fun x => .v (.d (.int x)) := ro_guard rfl
theorem ro_mod {a b : Int} : Ro (opMod (.d (.int a)) (.d (.int b))) (tMod a b) fun x => .v (.d (.int x)) := ro_guard rfl
theorem ro_pow {a b : Int} : Ro (opPow (.d (.int a)) (.d (.int b))) (tPow a b) fun x => .v (.d (.int x)) := ro_guard rfl
def tGet (o : Option β) : R β := ofO o
theorem ro_ofO {o : Option β} {Z : β → RV} {r : R RV} (e : r = (ofO o).bind fun x => .ok (Z x)) : Ro r (tGet o) Z := by
  subst e
  unfold tGet
  cases o with
  | none => exact ⟨(fun c z => nomatch z), trivial⟩
  | some x => exact ⟨(fun c z => nomatch z), ⟨_, rfl, rfl⟩⟩
theorem atI_map {f : α → β} {xs : List α} {i : Int} : atI (xs.map f) i = (atI xs i).map f := by
  unfold atI
  rw [List.length_map]
  cases ixN xs.length i with
  | none => rfl
  | some k => simp
def tIdx (xs : List β) (i : Int) : R β := tGet (atI xs i)
theorem ro_idxR {e : β → PyData} {xs : List β} {i : Int} : Ro (opIdx (.rd (xs.map e)) (.d (.int i))) (tIdx xs i) fun x => .v (.d (e x)) := ro_ofO (by
  show (ofO (atI (xs.map e) i)).bind _ = _
  rw [atI_map]
  cases atI xs i <;> rfl)
theorem ro_idxO {f : β → T} {xs : List β} {i : Int} : Ro (opIdx (.ol (xs.map f)) (.d (.int i))) (tIdx xs i) fun x => .v (f x) := ro_ofO (by
  show (ofO (atI (xs.map f) i)).bind _ = _
  rw [atI_map]
  cases atI xs i <;> rfl)
def tCat (xs ys : List β) : R (List β) := tOp (decide (xs.length + ys.length ≤ sLine)) (xs ++ ys)
theorem ro_cat {u v : T} {e : β → PyData} {xs ys : List β} (hu : u.lst? = some (xs.map e)) (hv : v.lst? = some (ys.map e)) : Ro (opAdd u v) (tCat xs ys) fun zs => .nl (zs.map e) := ro_guard (by
  have : opAdd u v = match u.lst?, v.lst? with
    | some xs, some ys => guard (decide (xs.length + ys.length ≤ sLine)) (.ok (.nl (xs ++ ys)))
    | _, _ => .bad := by
    unfold opAdd
    split <;> first | rfl | (simp [T.lst?] at hu)
  rw [this, hu, hv]
  simp)
def tLen (xs : List β) : Int := xs.length
theorem len_l {e : β → PyData} {xs : List β} : opLen [.d (.list (xs.map e))] = .ok (.v (.d (.int (tLen xs)))) := by simp [tLen]
theorem len_r {e : β → PyData} {xs : List β} : opLen [.rd (xs.map e)] = .ok (.v (.d (.int (tLen xs)))) := by simp [tLen]
theorem len_o {f : β → T} {xs : List β} : opLen [.ol (xs.map f)] = .ok (.v (.d (.int (tLen xs)))) := by simp [tLen]
theorem list_of {u : T} {ds : List PyData} (e : u.seq? = some ds) : opListOf [u] = .ok (.nl ds) := by rw [e_listOf, e]; rfl
def tCut (xs : List β) (lo hi : Option Int) : List β := cutG xs lo hi
theorem o_okN {Y : Type} {p : Pt} {Rel : α → Y → Prop} {K : T → Env → R Y} {e : β → PyData} {xs : List β} {r : R RV} {t : R α} (h0 : r = .ok (.nl (xs.map e))) (h : J p (K (.ol (xs.map (dE e)))) t Rel) : J p (Bo r K) t Rel := by
  refine o_ok h0 ?_
  rw [RV.toT, dmap]
  exact h
theorem o_rN {Y : Type} {p : Pt} {Rel : α → Y → Prop} {K : T → Env → R Y} {e : β → PyData} {r : R RV} {t0 : R (List β)} {t1 : List β → R α} (h0 : Ro r t0 fun zs => .nl (zs.map e)) (h : ∀ zs, J p (K (.ol (zs.map (dE e)))) (t1 zs) Rel) : J p (Bo r K) (t0.bind t1) Rel := by
  refine o_r h0 fun zs => ?_
  rw [RV.toT, dmap]
  exact h zs
structure Nice (e : α → PyData) (k : Nat) : Prop where
  inj : ∀ a b, e a = e b → a = b
  plk : ∀ a n, plk (n + k) (e a) = true
theorem nice_N : Nice eN 0 := ⟨fun a b h => rfl, fun a n => by simp [L3.plk]⟩
theorem nice_Q : Nice fr 1 := ⟨fun a b h => fr_inj h, fun a n => plk_fr⟩
theorem map_inj {e : α → PyData} (h : ∀ a b, e a = e b → a = b) : ∀ {xs ys : List α}, xs.map e = ys.map e → xs = ys
  | [], [], _ => rfl
  | x :: xs, y :: ys, z => by
    simp only [List.map_cons, List.cons.injEq] at z
    rw [h _ _ z.1, map_inj h z.2]
  | [], _ :: _, z => by simp at z
  | _ :: _, [], z => by simp at z
theorem Nice.list {e : α → PyData} {k : Nat} (h : Nice e k) : Nice (eL e) (k + 1) := ⟨fun a b z => map_inj h.inj (by injection z), fun a n => by
  show L3.plk ((n + k) + 1) _ = true
  simp only [L3.plk]
  exact plkAll_map fun x _ => h.plk x n⟩
theorem Nice.up {e : α → PyData} {k m : Nat} (h : Nice e k) (l : k ≤ m) : Nice e m := ⟨h.inj, fun a n => by
  have := h.plk a (n + (m - k))
  rwa [show n + (m - k) + k = n + m by omega] at this⟩
theorem Nice.t2 {γ : Type} {e : α → PyData} {f : γ → PyData} {k : Nat} (h : Nice e k) (h2 : Nice f k) : Nice (eT2 e f) (k + 1) := ⟨fun a b z => by
  have z : [e a.1, f a.2] = [e b.1, f b.2] := by injection z
  simp only [List.cons.injEq, and_true] at z
  exact Prod.ext (h.inj _ _ z.1) (h2.inj _ _ z.2), fun a n => by
  show L3.plk ((n + k) + 1) _ = true
  simp [L3.plk, L3.plkAll, h.plk, h2.plk]⟩
theorem Nice.t3 {γ δ : Type} {e : α → PyData} {f : γ → PyData} {g : δ → PyData} {k : Nat} (h : Nice e k) (h2 : Nice f k) (h3 : Nice g k) : Nice (eT3 e f g) (k + 1) := ⟨fun a b z => by
  have z : [e a.1, f a.2.1, g a.2.2] = [e b.1, f b.2.1, g b.2.2] := by injection z
  simp only [List.cons.injEq, and_true] at z
  exact Prod.ext (h.inj _ _ z.1) (Prod.ext (h2.inj _ _ z.2.1) (h3.inj _ _ z.2.2)), fun a n => by
  show L3.plk ((n + k) + 1) _ = true
  simp [L3.plk, L3.plkAll, h.plk, h2.plk, h3.plk]⟩
theorem Nice.pl {e : α → PyData} {k : Nat} (h : Nice e k) (l : k ≤ 60) (a : α) : pl (e a) := by
  have := h.plk a (60 - k)
  rwa [show 60 - k + k = 60 by omega] at this
end
section
variable {Y α β : Type} {p : Pt} {t : R α} {Rel : α → Y → Prop} {K : T → Env → R Y} {i : Nat}
def onMeth (i : Nat) (op : List T → List T → Option (T × List T)) (K : T → Env → R Y) : List T → Env → R Y := fun us ρ => (methK i [] op (us, ρ)).bind fun z => K z.1 z.2
def tApp (xs : List β) (x : β) : R (List β) := tOp (decide (xs.length < sLine)) (xs ++ [x])
theorem m_append {f : β → T} {xs : List β} {x : β} {u : T} {t1 : List β → R α} (e : p[i]? = some (some (.ol (xs.map f)))) (eu : u = f x) (h : ∀ zs, J (p.set i (some (.ol (zs.map f)))) (K (.d .none)) (t1 zs) Rel) :
    J p (onMeth i opAppend K [u]) ((tApp xs x).bind t1) Rel := fun ρ m => by
  have hg := m.get e
  have e2 : lstAt [] ρ[i]? = some (xs.map f) := by rw [hg]; rfl
  show Rf ((methK i [] _ ([u], ρ)).bind _) _ _
  rw [e_methK, e2]
  simp only [ofO_some, bind_okS, e_append, List.length_map]
  unfold tApp tOp
  cases hl : decide (xs.length < sLine) with
  | false => exact trivial
  | true =>
    have e3 : putAt i [] (xs.map f ++ [u]) ρ = some (ρ.set i (some (.ol ((xs ++ [x]).map f)))) := by
      rw [e_putAt, hg, e_putK]
      subst eu
      simp [T.put?]
    simp only [if_true, ofO_some, bind_okS, e3, e_methK4, guard_t]
    exact h _ _ m.set
theorem x_meth {op : List T → List T → Option (T × List T)} {f : β → T} {xs : List β} {ma : MA} (e : p[i]? = some (some (.ol (xs.map f)))) (h : J p (Ba ma (onMeth i op K)) t Rel) : J p (B (mMeth i lHere op ma) K) t Rel := fun ρ m => by
  have := h ρ m
  simp only [B, Ba, onMeth] at this ⊢
  rw [e_mMeth, e_lHere]
  have e2 : lstAt [] ρ[i]? = some (xs.map f) := by rw [m.get e]; rfl
  simp only [ofO_some, bind_okS, e2, bind_assocS]
  exact this
def tSet (xs : List β) (j : Int) (x : β) : R (List β) := (ofO (ixN xs.length j)).bind fun k => .ok (xs.set k x)
end
section
variable {Y α β : Type} {p : Pt} {t : R α} {Rel : α → Y → Prop} {K : T → Env → R Y} {i : Nat}
theorem wk_nil : Wk [] [] := trivial
theorem wk_none {o : Option T} {p q : Pt} (h : Wk p q) : Wk (o :: p) (none :: q) := by cases o <;> exact h
theorem wk_some {u : T} {p q : Pt} (h : Wk p q) : Wk (some u :: p) (some u :: q) := ⟨rfl, h⟩
def onLst (K : T → Env → R Y) : List T → Env → R Y := fun us => K (.ol us)
theorem x_lstO {a : MA} (h : J p (Ba a (onLst K)) t Rel) : J p (B (mLst a) K) t Rel := x_lst h
theorem l_lst {f : β → T} {us : List T} (xs : List β) (e : us = xs.map f) (h : J p (K (.ol (xs.map f))) t Rel) : J p (onLst K us) t Rel := by subst e; exact h
def onTup (K : T → Env → R Y) : List T → Env → R Y := fun us => K (mkTup us)
theorem x_tupO {a : MA} (h : J p (Ba a (onTup K)) t Rel) : J p (B (mTup a) K) t Rel := x_tup h
theorem l_tup {us : List T} (u : T) (e : mkTup us = u) (h : J p (K u) t Rel) : J p (onTup K us) t Rel := by subst e; exact h
end
section
def rAdd (q r : Rat) : R Rat := tOp (decide (Ok2 q r)) (q + r)
def rSub (q r : Rat) : R Rat := tOp (decide (Ok2 q r)) (q - r)
def rMul (q r : Rat) : R Rat := tOp (decide (Ok2 q r)) (q * r)
def rLt (q r : Rat) : R Bool := tOp (decide (hq q + hq r ≤ 400000)) (decide (q < r))
def rMkP (t b : Int) : R Rat := tOp (decide (0 < b ∧ ib b ≤ 9000)) (Rat.divInt t b)
theorem fn_of {β : Type} {b : Bool} {a : β} {m : List T → R (T × List T)} {ts : List T} {F : β → T} (h : b = true → m ts = .ok (F a, [])) : Fn m ts (tOp b a) F fun _ => [] := by
  unfold Fn tOp
  cases b with
  | false => exact trivial
  | true => exact ⟨_, h rfl, rfl⟩
end
section
variable {Y α β : Type} {p : Pt} {t : R α} {Rel : α → Y → Prop} {K : T → Env → R Y} {i : Nat}
end
section
variable {α β : Type}
end
section
variable {α β : Type}
end
section
variable {Y α β : Type} {p : Pt} {t : R α} {Rel : α → Y → Prop} {κ : SK Y} {i : Nat} {K : T → Env → R Y} {KI : List T → Env → R Y}
theorem s_thenFz {s : MS} (h : J p (Bs s ⟨fun ρ => (fzSlot i ρ).bind κ.nx, κ.rt, κ.bk, κ.ct⟩) t Rel) : J p (Bs (mThenFz i s) κ) t Rel := fun ρ m => by
  have := h ρ m
  simp only [Bs] at this ⊢
  unfold mThenFz
  rw [bind_assocS]
  have e : (fun o => (fzNext i o).bind κ.ap) = (⟨fun ρ => (fzSlot i ρ).bind κ.nx, κ.rt, κ.bk, κ.ct⟩ : SK Y).ap := by
    funext o
    cases o with
    | next ρ => unfold fzNext; rw [bind_assocS]; rfl
    | _ => rfl
  rw [e]
  exact this
theorem n_fz {u : T} {v : PyData} {KE : Env → R Y} (e : p[i]? = some (some u)) (f : u.fz = some v) (h : J (p.set i (some (.d v))) KE t Rel) : J p (fun ρ => (fzSlot i ρ).bind KE) t Rel := fun ρ m => by
  have e1 : fzSlot i ρ = .ok (ρ.set i (some (.d v))) := by
    unfold fzSlot
    rw [m.get e]
    dsimp only
    rw [f]
  show Rf ((fzSlot i ρ).bind KE) t Rel
  rw [e1]
  exact h _ m.set
def dnI (i j : Int) : List Int := (List.range (i - j).toNat).map fun k => i + (k : Nat) * (-1)
@[irreducible] def tDown (i j : Int) : R (List Int) := tOp (small62 i && small62 j) (dnI i j)
end
section
variable {Y α β : Type} {p : Pt} {t : R α} {Rel : α → Y → Prop} {K : T → Env → R Y} {i : Nat}
@[irreducible] def tIns (xs : List β) (j : Int) (x : β) : R (List β) := tOp (decide (xs.length < sLine ∧ 0 ≤ j ∧ j < 2 ^ 63)) (xs.take j.toNat ++ [x] ++ xs.drop j.toNat)
theorem m_insert {f : β → T} {xs : List β} {x : β} {j : Int} {u : T} {t1 : List β → R α} (e : p[i]? = some (some (.ol (xs.map f)))) (eu : u = f x) (h : ∀ zs, J (p.set i (some (.ol (zs.map f)))) (K (.d .none)) (t1 zs) Rel) :
    J p (onMeth i opInsert K [.d (.int j), u]) ((tIns xs j x).bind t1) Rel := fun ρ m => by
  have hg := m.get e
  have e2 : lstAt [] ρ[i]? = some (xs.map f) := by rw [hg]; rfl
  show Rf ((methK i [] _ ([.d (.int j), u], ρ)).bind _) _ _
  rw [e_methK, e2]
  simp only [ofO_some, bind_okS, e_insert, List.length_map]
  unfold tIns tOp
  cases hl : decide (xs.length < sLine ∧ 0 ≤ j ∧ j < 2 ^ 63) with
  | false => exact trivial
  | true =>
    have e3 : putAt i [] ((xs.map f).take j.toNat ++ [u] ++ (xs.map f).drop j.toNat) ρ = some (ρ.set i (some (.ol ((xs.take j.toNat ++ [x] ++ xs.drop j.toNat).map f)))) := by
      rw [e_putAt, hg, e_putK]
      subst eu
      simp [T.put?, List.map_take, List.map_drop]
    simp only [if_true, ofO_some, bind_okS, e3, e_methK4, guard_t]
    exact h _ _ m.set
end
section
variable {Y α : Type} {p : Pt} {t : R α} {Rel : α → Y → Prop} {κ : SK Y} {G : Env → R Y} {v : T}
theorem n_seq {r : T → Env → R Y} {b c : Env → R Y} (h : J p G t Rel) : J p (⟨G, r, b, c⟩ : SK Y).nx t Rel := h
theorem r_seq (h : J p (κ.rt v) t Rel) : J p ((⟨G, κ.rt, κ.bk, κ.ct⟩ : SK Y).rt v) t Rel := h
end
section
variable {Y α β : Type} {p : Pt} {t : R α} {Rel : α → Y → Prop} {K : T → Env → R Y} {i : Nat}
end
@[simp] theorem tOp_t {β : Type} {x : β} : tOp true x = .ok x := (rfl)
end L4
namespace Sr
open PySem PySem.Spec PyProof.Rows L2 L3 L4
end Sr
namespace L4
open PySem PySem.Spec PyProof.Rows L2 L3
section
variable {X Y α β γ δ : Type} {p : Pt} {t t2 : R α} {Rel : α → Y → Prop} {K : T → Env → R Y} {i : Nat} {κ : SK Y}
inductive Fzp : Pt → Pt → Prop
  | nil : Fzp [] []
  | none {o : Option T} {a b : Pt} : Fzp a b → Fzp (o :: a) (none :: b)
  | some {u : T} {x : PyData} {a b : Pt} : u.fz = some x → Fzp a b → Fzp (some u :: a) (some (.d x) :: b)
theorem Fzp.mt : ∀ {a b : Pt} {ρ : Env}, Fzp a b → Mt a ρ → Mt b (fzEnv ρ)
  | _, _, [], .nil, _ => trivial
  | _, _, o :: ρ, .none (o := Option.none) h, m => h.mt (ρ := ρ) m
  | _, _, o :: ρ, .none (o := Option.some _) h, m => h.mt (ρ := ρ) m.2
  | _, _, o :: ρ, .some (u := u) (x := x) e h, m => by
    refine ⟨?_, h.mt (ρ := ρ) m.2⟩
    show fzO o = _
    rw [m.1]
    show (u.fz).map T.d = _
    rw [e]; rfl
  | _, _, [], .none (o := Option.none) h, m => m.elim
  | _, _, [], .none (o := Option.some _) h, m => m.elim
  | _, _, [], .some e h, m => m.elim
  | _, _, _ :: _, .nil, m => m.elim
theorem calm_fr (q : Rat) : calm (fr q) = true := rfl
instance decW : DecidableEq (List Rat × List Rat × Rat) := inferInstance
instance decWW : DecidableEq (List (List Rat × List Rat × Rat) × List (List Rat × List Rat × Rat)) := inferInstance
instance decRule : DecidableEq (List (List (List Rat × List Rat × Rat) × List (List Rat × List Rat × Rat)) × List (List Rat × List Rat × Rat)) := inferInstance
theorem Nice.opt {e : β → PyData} {k : Nat} (h : Nice e k) (hn : ∀ a, e a ≠ .none) : Nice (eO e) k := ⟨fun a b z => by
  cases a with
  | none => cases b with
    | none => rfl
    | some b => exact (hn b z.symm).elim
  | some a => cases b with
    | none => exact (hn a z).elim
    | some b => rw [h.inj _ _ z], fun a n => by
  cases a with
  | none => exact (nice_N.up (Nat.zero_le k)).plk () n
  | some a => exact h.plk a n⟩
end
end L4
namespace Sr
open PySem PySem.Spec PyProof.Rows L2 L3 L4
theorem den_pos2 (q r : Rat) : 0 < (q.den : Int) * r.den := by
  have := q.den_pos
  have := r.den_pos
  exact Int.mul_pos (by omega) (by omega)
end Sr
namespace Sr
open PySem PySem.Spec PyProof.Rows L2 L3 L4
end Sr
namespace Sx
abbrev Dc (α : Type) := List (Nat × α)
section
variable {α : Type}
def keys (d : Dc α) : List Nat := d.map Prod.fst
def dget : Dc α → Nat → Option α
  | [], _ => none
  | (j, v) :: r, k => if j = k then some v else dget r k
def dput : Dc α → Nat → α → Dc α
  | [], k, v => [(k, v)]
  | (j, w) :: r, k, v => if j = k then (j, v) :: r else (j, w) :: dput r k v
def ddel : Dc α → Nat → Dc α
  | [], _ => []
  | (j, w) :: r, k => if j = k then r else (j, w) :: ddel r k
theorem keys_cons {x : Nat × α} {d : Dc α} : keys (x :: d) = x.1 :: keys d := rfl
theorem keys_app {d e : Dc α} : keys (d ++ e) = keys d ++ keys e := List.map_append
theorem keys_map {β : Type} {d : Dc α} {f : Nat × α → β} : keys (d.map fun x => (x.1, f x)) = keys d := by simp [keys]
theorem get_none {d : Dc α} {k : Nat} : dget d k = none ↔ k ∉ keys d := by
  induction d with
  | nil => simp [dget, keys]
  | cons x d ih =>
    obtain ⟨j, v⟩ := x
    rw [dget, keys_cons]
    by_cases h : j = k
    · simp [h]
    · simp [h, ih, Ne.symm h]
theorem get_mem {d : Dc α} {k : Nat} {v : α} (h : dget d k = some v) : (k, v) ∈ d := by
  induction d with
  | nil => simp [dget] at h
  | cons x d ih =>
    obtain ⟨j, w⟩ := x
    rw [dget] at h
    by_cases e : j = k
    · rw [if_pos e] at h; cases h; subst e; exact List.mem_cons_self
    · rw [if_neg e] at h; exact List.mem_cons_of_mem _ (ih h)
theorem mem_get {d : Dc α} (nd : (keys d).Nodup) {k : Nat} {v : α} (h : (k, v) ∈ d) : dget d k = some v := by
  induction d with
  | nil => simp at h
  | cons x d ih =>
    obtain ⟨j, w⟩ := x
    rw [keys_cons, List.nodup_cons] at nd
    rw [dget]
    rcases List.mem_cons.mp h with e | e
    · cases e; simp
    · have : j ≠ k := fun z => nd.1 (by rw [z]; exact List.mem_map.mpr ⟨_, e, rfl⟩)
      rw [if_neg this]
      exact ih nd.2 e
theorem mem_keys {d : Dc α} {k : Nat} : k ∈ keys d ↔ ∃ v, dget d k = some v := by
  cases h : dget d k with
  | none => simp [get_none.mp h]
  | some v => simp; exact List.mem_map.mpr ⟨_, get_mem h, rfl⟩
theorem keys_put {d : Dc α} {k : Nat} {v : α} : (k ∈ keys d → keys (dput d k v) = keys d) ∧ (k ∉ keys d → dput d k v = d ++ [(k, v)]) := by
  induction d with
  | nil => simp [dput, keys]
  | cons x d ih =>
    obtain ⟨j, w⟩ := x
    rw [dput, keys_cons]
    by_cases e : j = k
    · subst e; simp [keys_cons]
    · rw [if_neg e]
      refine ⟨fun h => ?_, fun h => ?_⟩
      · rcases List.mem_cons.mp h with z | z
        · exact (e z.symm).elim
        · rw [keys_cons, ih.1 z]
      · rw [ih.2 fun z => h (List.mem_cons_of_mem _ z)]; rfl
theorem mem_put {d : Dc α} {k j : Nat} {v : α} : j ∈ keys (dput d k v) ↔ j ∈ keys d ∨ j = k := by
  by_cases h : k ∈ keys d
  · rw [keys_put.1 h]
    exact ⟨.inl, fun z => z.elim id fun e => e ▸ h⟩
  · rw [keys_put.2 h, keys_app]; simp [keys]
theorem put_nodup {d : Dc α} {k : Nat} {v : α} (nd : (keys d).Nodup) : (keys (dput d k v)).Nodup := by
  by_cases h : k ∈ keys d
  · rw [keys_put.1 h]; exact nd
  · rw [keys_put.2 h, keys_app, List.nodup_append]
    exact ⟨nd, by simp [keys], fun a ha b hb e => by simp [keys] at hb; subst hb; subst e; exact h ha⟩
theorem put_all {d : Dc α} {k : Nat} {v : α} {P : Nat × α → Prop} (h : ∀ x ∈ d, P x) (hv : P (k, v)) : ∀ x ∈ dput d k v, P x := by
  induction d with
  | nil => intro x hx; simp [dput] at hx; subst hx; exact hv
  | cons y d ih =>
    obtain ⟨j, w⟩ := y
    intro x hx
    rw [dput] at hx
    by_cases e : j = k
    · rw [if_pos e] at hx
      rcases List.mem_cons.mp hx with z | z
      · subst z; rw [e]; exact hv
      · exact h x (List.mem_cons_of_mem _ z)
    · rw [if_neg e] at hx
      rcases List.mem_cons.mp hx with z | z
      · subst z; exact h _ List.mem_cons_self
      · exact ih (fun x hx => h x (List.mem_cons_of_mem _ hx)) x z
theorem del_sub {d : Dc α} {k : Nat} : (ddel d k).Sublist d := by
  induction d with
  | nil => exact .refl _
  | cons y d ih =>
    obtain ⟨j, w⟩ := y
    rw [ddel]
    split
    · exact List.sublist_cons_self _ _
    · exact ih.cons₂ _
theorem del_nodup {d : Dc α} {k : Nat} (nd : (keys d).Nodup) : (keys (ddel d k)).Nodup := nd.sublist (del_sub.map _)
theorem mem_del {d : Dc α} (nd : (keys d).Nodup) {k j : Nat} : j ∈ keys (ddel d k) ↔ j ∈ keys d ∧ j ≠ k := by
  induction d with
  | nil => simp [ddel, keys]
  | cons y d ih =>
    obtain ⟨i, w⟩ := y
    rw [keys_cons, List.nodup_cons] at nd
    rw [ddel]
    by_cases e : i = k
    · rw [if_pos e]
      subst e
      rw [keys_cons]
      refine ⟨fun h => ⟨List.mem_cons_of_mem _ h, fun z => nd.1 (z ▸ h)⟩, fun h => ?_⟩
      rcases List.mem_cons.mp h.1 with z | z
      · exact (h.2 z).elim
      · exact z
    · rw [if_neg e, keys_cons, keys_cons, List.mem_cons, List.mem_cons, ih nd.2]
      refine ⟨fun h => h.elim (fun z => ⟨.inl z, fun y => e (z.symm.trans y)⟩) fun z => ⟨.inr z.1, z.2⟩, fun h => h.1.elim .inl fun z => .inr ⟨z, h.2⟩⟩
theorem get_del {d : Dc α} (nd : (keys d).Nodup) {k j : Nat} : dget (ddel d k) j = if j = k then none else dget d j := by
  induction d with
  | nil => simp [ddel, dget]
  | cons y d ih =>
    obtain ⟨i, w⟩ := y
    rw [keys_cons, List.nodup_cons] at nd
    rw [ddel]
    by_cases e : i = k
    · rw [if_pos e]
      subst e
      by_cases h : j = i
      · subst h; rw [if_pos rfl]; exact get_none.mpr nd.1
      · rw [if_neg h, dget, if_neg (Ne.symm h)]
    · rw [if_neg e, dget, dget, ih nd.2]
      by_cases h : j = k
      · subst h; simp [e]
      · simp [h]
theorem get_app {d e : Dc α} {k : Nat} : dget (d ++ e) k = (dget d k).or (dget e k) := by
  induction d with
  | nil => simp [dget]
  | cons y d ih =>
    obtain ⟨i, w⟩ := y
    rw [List.cons_append, dget, dget, ih]
    by_cases h : i = k
    · simp [h]
    · simp [h]
theorem get_map {β : Type} {d : Dc α} {f : Nat × α → β} {k : Nat} : dget (d.map fun x => (x.1, f x)) k = (dget d k).map fun v => f (k, v) := by
  induction d with
  | nil => rfl
  | cons y d ih =>
    obtain ⟨i, w⟩ := y
    rw [List.map_cons, dget, dget, ih]
    by_cases h : i = k
    · simp [h]
    · simp [h]
end
abbrev Rw := Dc Rat
def rowv (r : Rw) (k : Nat) : Rat := (dget r k).getD 0
def dotD : Rw → (Nat → Rat) → Rat
  | [], _ => 0
  | (j, v) :: r, z => v * z j + dotD r z
theorem rowv_cons {j k : Nat} {v : Rat} {r : Rw} : rowv ((j, v) :: r) k = if j = k then v else rowv r k := by
  unfold rowv
  rw [dget]
  by_cases h : j = k
  · simp [h]
  · simp [h]
theorem rowv_no {r : Rw} {k : Nat} (h : k ∉ keys r) : rowv r k = 0 := by
  unfold rowv; rw [get_none.mpr h]; rfl
theorem rowv_mem {r : Rw} (nd : (keys r).Nodup) {k : Nat} {v : Rat} (h : (k, v) ∈ r) : rowv r k = v := by
  unfold rowv; rw [mem_get nd h]; rfl
theorem dotD_put {r : Rw} {k : Nat} {v : Rat} {z : Nat → Rat} : dotD (dput r k v) z = dotD r z + (v - rowv r k) * z k := by
  induction r with
  | nil => simp [dput, dotD, rowv, dget]; grind
  | cons y r ih =>
    obtain ⟨j, w⟩ := y
    rw [dput, rowv_cons]
    by_cases h : j = k
    · rw [if_pos h, if_pos h, dotD, dotD, h]; grind
    · rw [if_neg h, if_neg h, dotD, dotD, ih]; grind
theorem dotD_del {r : Rw} {k : Nat} {z : Nat → Rat} : dotD (ddel r k) z = dotD r z - rowv r k * z k := by
  induction r with
  | nil => simp [ddel, dotD, rowv, dget]; grind
  | cons y r ih =>
    obtain ⟨j, w⟩ := y
    rw [ddel, rowv_cons]
    by_cases h : j = k
    · rw [if_pos h, if_pos h, dotD, h]; grind
    · rw [if_neg h, if_neg h, dotD, dotD, ih]; grind
theorem dotD_congr {r : Rw} {z z' : Nat → Rat} (h : ∀ j ∈ keys r, z j = z' j) : dotD r z = dotD r z' := by
  induction r with
  | nil => rfl
  | cons y r ih =>
    obtain ⟨j, w⟩ := y
    rw [dotD, dotD, h j List.mem_cons_self, ih fun i hi => h i (List.mem_cons_of_mem _ hi)]
def updZ (z : Nat → Rat) (k : Nat) (v : Rat) : Nat → Rat := fun j => if j = k then v else z j
theorem dotD_upd {r : Rw} (nd : (keys r).Nodup) {z : Nat → Rat} {k : Nat} {v : Rat} : dotD r (updZ z k v) = dotD r z + rowv r k * (v - z k) := by
  induction r with
  | nil => simp [dotD, rowv, dget]; grind
  | cons y r ih =>
    obtain ⟨j, w⟩ := y
    rw [keys_cons, List.nodup_cons] at nd
    rw [dotD, dotD, rowv_cons]
    by_cases h : j = k
    · have e : rowv r k = 0 := rowv_no (h ▸ nd.1)
      rw [ih nd.2, if_pos h, e]
      have : updZ z k v j = v := by simp [updZ, h]
      rw [this, h]; grind
    · have : updZ z k v j = z j := by simp [updZ, h]
      rw [ih nd.2, if_neg h, this]; grind
def putOn (one other : Rw) (share : Rat) : Rw := other.foldl (fun one x => if rowv one x.1 + share * x.2 = 0 then ddel one x.1 else dput one x.1 (rowv one x.1 + share * x.2)) one
theorem dotD_putOn {share : Rat} {z : Nat → Rat} : ∀ {other one : Rw}, dotD (putOn one other share) z = dotD one z + share * dotD other z
  | [], one => by simp [putOn, dotD]; grind
  | (k, v) :: other, one => by
    have e : putOn one ((k, v) :: other) share = putOn (if rowv one k + share * v = 0 then ddel one k else dput one k (rowv one k + share * v)) other share := rfl
    rw [e, dotD_putOn, dotD]
    split
    · rename_i h
      rw [dotD_del]
      have : rowv one k = -(share * v) := by grind
      rw [this]; grind
    · rw [dotD_put]; grind
structure RowK (P : Nat → Prop) (r : Rw) : Prop where
  nd : (keys r).Nodup
  ks : ∀ j ∈ keys r, P j
  nz : ∀ x ∈ r, x.2 ≠ 0
theorem RowK.imp {P Q : Nat → Prop} {r : Rw} (h : RowK P r) (k : ∀ j, P j → Q j) : RowK Q r := ⟨h.nd, fun j hj => k j (h.ks j hj), h.nz⟩
theorem RowK.del {P : Nat → Prop} {r : Rw} {k : Nat} (h : RowK P r) : RowK (fun j => P j ∧ j ≠ k) (ddel r k) := ⟨del_nodup h.nd, fun j hj => by
  have := (mem_del h.nd).mp hj
  exact ⟨h.ks j this.1, this.2⟩, fun x hx => h.nz x (del_sub.subset hx)⟩
theorem RowK.putOn {P : Nat → Prop} {share : Rat} : ∀ {other one : Rw}, RowK P one → (∀ j ∈ keys other, P j) → RowK P (Sx.putOn one other share)
  | [], one, h, _ => h
  | (k, v) :: other, one, h, ho => by
    have e : Sx.putOn one ((k, v) :: other) share = Sx.putOn (if rowv one k + share * v = 0 then ddel one k else dput one k (rowv one k + share * v)) other share := rfl
    rw [e]
    refine RowK.putOn ?_ fun j hj => ho j (List.mem_cons_of_mem _ hj)
    split
    · exact h.del.imp fun j hj => hj.1
    · rename_i hnz
      refine ⟨put_nodup h.nd, fun j hj => ?_, put_all h.nz hnz⟩
      rcases mem_put.mp hj with z | z
      · exact h.ks j z
      · subst z; exact ho _ List.mem_cons_self
theorem dotD_map {r : Rw} {c : Rat} {z : Nat → Rat} : dotD (r.map fun x => (x.1, 0 - x.2 / c)) z = -(dotD r z / c) := by
  induction r with
  | nil => simp [dotD]; grind
  | cons y r ih =>
    obtain ⟨j, w⟩ := y
    rw [List.map_cons, dotD, dotD, ih]
    grind
end Sx
namespace Sx
structure St where
  ws : List Rat
  sums : Dc Rw
def St.w (s : St) (j : Nat) : Rat := s.ws.getD j 0
def St.row (s : St) (p : Nat) : Rw := (dget s.sums p).getD []
def Yof (s : St) (z : Nat → Rat) (j : Nat) : Rat := match dget s.sums j with
  | some r => s.w j + dotD r z
  | none => z j
def wsAll (q : Nat) (step : Rat) (rest : Dc Rw) (ws : List Rat) : List Rat := rest.foldl (fun ws x => if rowv x.2 q ≠ 0 then ws.set x.1 (ws.getD x.1 0 + rowv x.2 q * step) else ws) ws
def thereOf (p : Nat) (many : Rat) (here : Rw) : Rw := (p, 1 / many) :: here.map fun x => (x.1, 0 - x.2 / many)
def rowN (q : Nat) (there : Rw) (r : Rw) : Rw := if rowv r q ≠ 0 then putOn (ddel r q) there (rowv r q) else ddel r q
def exch (s : St) (p q : Nat) : St :=
  let here := s.row p
  let many := rowv here q
  let step := (0 - s.w p) / many
  let there := thereOf p many (ddel here q)
  let rest := ddel s.sums p
  let ws1 := (s.ws.set p 0).set q ((s.ws.set p 0).getD q 0 + step)
  ⟨wsAll q step rest ws1, rest.map (fun x => (x.1, rowN q there x.2)) ++ [(q, there)]⟩
theorem wsAll_len {q : Nat} {step : Rat} : ∀ {rest : Dc Rw} {ws : List Rat}, (wsAll q step rest ws).length = ws.length
  | [], ws => rfl
  | (k, r) :: rest, ws => by
    have e : wsAll q step ((k, r) :: rest) ws = wsAll q step rest (if rowv r q ≠ 0 then ws.set k (ws.getD k 0 + rowv r q * step) else ws) := rfl
    rw [e, wsAll_len]
    split <;> simp
theorem set_getD {ws : List Rat} {k j : Nat} {v : Rat} (h : k < ws.length) : (ws.set k v).getD j 0 = if j = k then v else ws.getD j 0 := by
  rw [List.getD_eq_getElem?_getD, List.getD_eq_getElem?_getD]
  by_cases e : j = k
  · subst e; simp [h]
  · rw [List.getElem?_set_ne (Ne.symm e), if_neg e]
theorem wsAll_get {q : Nat} {step : Rat} : ∀ {rest : Dc Rw} {ws : List Rat}, (keys rest).Nodup → (∀ k ∈ keys rest, k < ws.length) → ∀ j, (wsAll q step rest ws).getD j 0 = match dget rest j with | some r => ws.getD j 0 + rowv r q * step | none => ws.getD j 0
  | [], ws, _, _, j => rfl
  | (k, r) :: rest, ws, nd, lt, j => by
    rw [keys_cons, List.nodup_cons] at nd
    have e : wsAll q step ((k, r) :: rest) ws = wsAll q step rest (if rowv r q ≠ 0 then ws.set k (ws.getD k 0 + rowv r q * step) else ws) := rfl
    have hk : k < ws.length := lt k List.mem_cons_self
    have e2 : ∀ i, (if rowv r q ≠ 0 then ws.set k (ws.getD k 0 + rowv r q * step) else ws).getD i 0 = if i = k then ws.getD k 0 + rowv r q * step else ws.getD i 0 := fun i => by
      split
      · exact set_getD hk
      · rename_i h
        have h0 : rowv r q = 0 := by simpa using h
        rw [h0]
        by_cases z : i = k
        · subst z; rw [if_pos rfl]; grind
        · rw [if_neg z]
    have el : (if rowv r q ≠ 0 then ws.set k (ws.getD k 0 + rowv r q * step) else ws).length = ws.length := by split <;> simp
    rw [e, wsAll_get nd.2 (fun i hi => by rw [el]; exact lt i (List.mem_cons_of_mem _ hi)) j, dget]
    by_cases z : k = j
    · subst z
      rw [if_pos rfl, get_none.mpr nd.1]
      dsimp only
      rw [e2, if_pos rfl]
    · rw [if_neg z]
      cases dget rest j with
      | none => dsimp only; rw [e2, if_neg (Ne.symm z)]
      | some r' => dsimp only; rw [e2, if_neg (Ne.symm z)]
structure Shape (n : Nat) (s : St) : Prop where
  len : s.ws.length = n
  nd : (keys s.sums).Nodup
  lt : ∀ k ∈ keys s.sums, k < n
  rk : ∀ k r, dget s.sums k = some r → RowK (fun j => j < n ∧ j ∉ keys s.sums) r
  zero : ∀ j, j ∉ keys s.sums → s.w j = 0
section
variable {n p q : Nat} {s : St} {here : Rw} (S : Shape n s) (hp : dget s.sums p = some here) (hq : rowv here q ≠ 0)
include S hp hq
theorem q_key : q ∈ keys here := Classical.byContradiction fun h => hq (rowv_no h)
theorem q_free : q < n ∧ q ∉ keys s.sums := (S.rk p here hp).ks q (q_key S hp hq)
theorem p_key : p ∈ keys s.sums := mem_keys.mpr ⟨_, hp⟩
theorem pq_ne : p ≠ q := fun e => (q_free S hp hq).2 (e ▸ p_key S hp hq)
theorem row_p : s.row p = here := by unfold St.row; rw [hp]; rfl
theorem there_k : RowK (fun j => j < n ∧ (j = p ∨ j ∉ keys s.sums ∧ j ≠ q)) (thereOf p (rowv here q) (ddel here q)) := by
  have r := S.rk p here hp
  have rd := r.del (k := q)
  have hpn : p < n := S.lt p (p_key S hp hq)
  refine ⟨?_, fun j hj => ?_, fun x hx => ?_⟩
  · unfold thereOf
    rw [keys_cons, List.nodup_cons, keys_map]
    exact ⟨fun h => (rd.ks p h).1.2 (p_key S hp hq), rd.nd⟩
  · unfold thereOf at hj
    rw [keys_cons, keys_map] at hj
    rcases List.mem_cons.mp hj with e | e
    · subst e; exact ⟨hpn, .inl rfl⟩
    · have := rd.ks j e; exact ⟨this.1.1, .inr ⟨this.1.2, this.2⟩⟩
  · unfold thereOf at hx
    rcases List.mem_cons.mp hx with e | e
    · subst e
      show 1 / rowv here q ≠ 0
      intro z
      have : 1 / rowv here q * rowv here q = 1 := by rw [Rat.div_mul_cancel hq]
      rw [z] at this
      grind
    · obtain ⟨y, hy, e⟩ := List.mem_map.mp e
      subst e
      have h1 := rd.nz y hy
      show 0 - y.2 / rowv here q ≠ 0
      intro z
      have h2 : y.2 / rowv here q = 0 := by grind
      have h3 : y.2 / rowv here q * rowv here q = y.2 := by rw [Rat.div_mul_cancel hq]
      rw [h2] at h3
      exact h1 (by rw [← h3]; grind)
theorem exch_keys : keys (exch s p q).sums = keys (ddel s.sums p) ++ [q] := by
  unfold exch
  dsimp only
  rw [keys_app, keys_map]
  rfl
theorem exch_mem {j : Nat} : j ∈ keys (exch s p q).sums ↔ (j ∈ keys s.sums ∧ j ≠ p) ∨ j = q := by
  rw [exch_keys S hp hq, List.mem_append, mem_del S.nd]
  simp
theorem exch_get {j : Nat} : dget (exch s p q).sums j = if j = q then some (thereOf p (rowv here q) (ddel here q)) else if j = p then none else (dget s.sums j).map (rowN q (thereOf p (rowv here q) (ddel here q))) := by
  unfold exch
  dsimp only
  rw [row_p S hp hq, get_app, get_map, get_del S.nd]
  have h1 := q_free S hp hq
  by_cases e : j = q
  · subst e
    have : dget s.sums j = none := get_none.mpr h1.2
    rw [if_pos rfl, this]
    by_cases e2 : j = p
    · rw [if_pos e2]; simp [dget]
    · rw [if_neg e2]; simp [dget]
  · rw [if_neg e]
    have h2 : dget [(q, thereOf p (rowv here q) (ddel here q))] j = none := by simp [dget, Ne.symm e]
    rw [h2]
    by_cases e2 : j = p
    · rw [if_pos e2, if_pos e2]; rfl
    · rw [if_neg e2, if_neg e2]
      cases dget s.sums j <;> rfl
theorem exch_w {j : Nat} : (exch s p q).w j = if j = p then 0 else if j = q then (0 - s.w p) / rowv here q else match dget s.sums j with | some r => s.w j + rowv r q * ((0 - s.w p) / rowv here q) | none => s.w j := by
  have h1 := q_free S hp hq
  have h2 := pq_ne S hp hq
  have hpn : p < n := S.lt p (p_key S hp hq)
  unfold St.w exch
  dsimp only
  rw [row_p S hp hq]
  have l0 : q < (s.ws.set p 0).length := by rw [List.length_set, S.len]; exact h1.1
  rw [wsAll_get (del_nodup S.nd) (fun k hk => by rw [List.length_set, List.length_set, S.len]; exact S.lt k ((mem_del S.nd).mp hk).1), get_del S.nd, set_getD l0, set_getD (by rw [S.len]; exact hpn), set_getD (by rw [S.len]; exact hpn)]
  rw [if_neg (Ne.symm h2)]
  have hz : s.ws.getD q 0 = 0 := S.zero q h1.2
  rw [hz]
  by_cases e : j = p
  · subst e
    simp [h2]
  · rw [if_neg e, if_neg e]
    by_cases e2 : j = q
    · subst e2
      have : dget s.sums j = none := get_none.mpr h1.2
      rw [if_pos rfl, if_neg e, if_pos rfl, this]
      show 0 + (0 - s.w p) / rowv here j = (0 - s.w p) / rowv here j
      grind
    · simp only [if_neg e2, if_neg e]
      rfl
theorem exch_shape : Shape n (exch s p q) := by
  have h1 := q_free S hp hq
  have hpn : p < n := S.lt p (p_key S hp hq)
  have tk := there_k S hp hq
  refine ⟨?_, ?_, fun k hk => ?_, fun k r hr => ?_, fun j hj => ?_⟩
  · unfold exch
    dsimp only
    rw [wsAll_len, List.length_set, List.length_set, S.len]
  · rw [exch_keys S hp hq, List.nodup_append]
    refine ⟨del_nodup S.nd, by simp, fun a ha b hb e => ?_⟩
    simp at hb
    subst hb; subst e
    exact h1.2 ((mem_del S.nd).mp ha).1
  · rcases (exch_mem S hp hq).mp hk with z | z
    · exact S.lt k z.1
    · subst z; exact h1.1
  · have goal : ∀ j, (j < n ∧ (j = p ∨ j ∉ keys s.sums ∧ j ≠ q)) → j < n ∧ j ∉ keys (exch s p q).sums := fun j hj => ⟨hj.1, fun z => by
      rcases (exch_mem S hp hq).mp z with y | y
      · rcases hj.2 with x | x
        · exact y.2 x
        · exact x.1 y.1
      · rcases hj.2 with x | x
        · exact pq_ne S hp hq (x.symm.trans y)
        · exact x.2 y⟩
    rw [exch_get S hp hq] at hr
    split at hr
    · cases hr
      exact tk.imp goal
    · split at hr
      · cases hr
      · obtain ⟨r0, e1, e2⟩ := Option.map_eq_some_iff.mp hr
        subst e2
        have rr := S.rk k r0 e1
        unfold rowN
        have rd : RowK (fun j => j < n ∧ (j = p ∨ j ∉ keys s.sums ∧ j ≠ q)) (ddel r0 q) := (rr.del (k := q)).imp fun j hj => ⟨hj.1.1, .inr ⟨hj.1.2, hj.2⟩⟩
        split
        · exact (rd.putOn tk.ks).imp goal
        · exact rd.imp goal
  · rw [exch_w S hp hq]
    have h2 : j ≠ q := fun e => hj ((exch_mem S hp hq).mpr (.inr e))
    by_cases e : j = p
    · rw [if_pos e]
    · rw [if_neg e, if_neg h2]
      have h3 : j ∉ keys s.sums := fun z => hj ((exch_mem S hp hq).mpr (.inl ⟨z, e⟩))
      rw [get_none.mpr h3]
      exact S.zero j h3
theorem exch_Y {z : Nat → Rat} : ∀ j, Yof (exch s p q) z j = Yof s (updZ z q ((0 - s.w p) / rowv here q + (z p - dotD (ddel here q) z) / rowv here q)) j := by
  intro j
  have h1 := q_free S hp hq
  have h2 := pq_ne S hp hq
  have r := S.rk p here hp
  unfold Yof
  rw [exch_get S hp hq, exch_w S hp hq]
  generalize hm : rowv here q = m at hq ⊢
  have hdot : dotD (thereOf p m (ddel here q)) z = z p / m - dotD (ddel here q) z / m := by
    unfold thereOf
    rw [dotD, dotD_map]
    grind
  by_cases e : j = q
  · subst e
    rw [if_pos rfl, if_neg (Ne.symm h2), if_pos rfl, get_none.mpr h1.2]
    dsimp only
    rw [hdot]
    have : updZ z j ((0 - s.w p) / m + (z p - dotD (ddel here j) z) / m) j = (0 - s.w p) / m + (z p - dotD (ddel here j) z) / m := by simp [updZ]
    rw [this]
    grind
  · rw [if_neg e]
    by_cases e2 : j = p
    · subst e2
      rw [if_pos rfl, hp]
      dsimp only
      rw [dotD_upd r.nd, hm, dotD_del, hm]
      grind
    · rw [if_neg e2, if_neg e2, if_neg e]
      cases hj : dget s.sums j with
      | none =>
        show z j = _
        simp [updZ, e]
      | some r0 =>
        have rr := S.rk j r0 hj
        show s.w j + rowv r0 q * ((0 - s.w p) / m) + dotD (rowN q (thereOf p m (ddel here q)) r0) z = s.w j + dotD r0 _
        rw [dotD_upd rr.nd]
        have hr : dotD (rowN q (thereOf p m (ddel here q)) r0) z = dotD r0 z - rowv r0 q * z q + rowv r0 q * (z p / m - dotD (ddel here q) z / m) := by
          unfold rowN
          split
          · rw [dotD_putOn, dotD_del, hdot]
          · rename_i h0
            have h0 : rowv r0 q = 0 := by simpa using h0
            rw [dotD_del, h0]; grind
        rw [hr]
        grind
end
end Sx
namespace Sx
def dotF : List Rat → Nat → (Nat → Rat) → Rat
  | [], _, _ => 0
  | x :: b, i, Y => x * Y i + dotF b (i + 1) Y
theorem dotF_congr {Y Y' : Nat → Rat} : ∀ {b : List Rat} {i : Nat}, (∀ j, i ≤ j → j < i + b.length → Y j = Y' j) → dotF b i Y = dotF b i Y'
  | [], i, _ => rfl
  | x :: b, i, h => by
    rw [dotF, dotF, h i (Nat.le_refl _) (by simp), dotF_congr fun j h1 h2 => h j (by omega) (by simp; omega)]
def Space (rows : List (List Rat × Rat)) (f : Nat) (Y : Nat → Rat) : Prop := ∀ k (h : k < rows.length), Y (f + k) = dotF rows[k].1 0 Y + rows[k].2
structure Inv (rows : List (List Rat × Rat)) (f : Nat) (s : St) : Prop where
  sh : Shape (f + rows.length) s
  a : ∀ Y, Space rows f Y → ∀ j, Yof s Y j = Y j
  b : ∀ z, Space rows f (Yof s z)
  cnt : s.sums.length = rows.length
section
variable {rows : List (List Rat × Rat)} {f : Nat} {s : St}
theorem Inv.pt (I : Inv rows f s) : Space rows f s.w := by
  have e : Yof s (fun _ => 0) = s.w := by
    funext j
    unfold Yof
    cases h : dget s.sums j with
    | none => exact (I.sh.zero j (get_none.mp h)).symm
    | some r =>
      have : dotD r (fun _ => 0) = 0 := by
        clear h
        induction r with
        | nil => rfl
        | cons y r ih => rw [dotD, ih]; grind
      dsimp only
      rw [this]; grind
  rw [← e]
  exact I.b _
theorem del_len {α : Type} {d : Dc α} {k : Nat} (h : k ∈ keys d) : (ddel d k).length + 1 = d.length := by
  induction d with
  | nil => simp [keys] at h
  | cons y d ih =>
    obtain ⟨j, w⟩ := y
    rw [ddel]
    by_cases e : j = k
    · rw [if_pos e]; rfl
    · rw [if_neg e, List.length_cons, List.length_cons, ih]
      rcases List.mem_cons.mp h with z | z
      · exact (e z.symm).elim
      · exact z
theorem Inv.exch (I : Inv rows f s) {p q : Nat} {here : Rw} (hp : dget s.sums p = some here) (hq : rowv here q ≠ 0) : Inv rows f (exch s p q) := by
  have S := I.sh
  refine ⟨exch_shape S hp hq, fun Y hY j => ?_, fun z => ?_, ?_⟩
  · rw [exch_Y S hp hq]
    have hy := I.a Y hY p
    unfold Yof at hy
    rw [hp] at hy
    dsimp only at hy
    have hd := dotD_del (r := here) (k := q) (z := Y)
    have e : updZ Y q ((0 - s.w p) / rowv here q + (Y p - dotD (ddel here q) Y) / rowv here q) = Y := by
      funext i
      unfold updZ
      split
      · rename_i h
        subst h
        generalize rowv here i = m at *
        have : (0 - s.w p) / m + (Y p - dotD (ddel here i) Y) / m = Y i := by
          rw [hd]
          grind
        exact this
      · rfl
    rw [e]
    exact I.a Y hY j
  · have e : Yof (Sx.exch s p q) z = Yof s (updZ z q ((0 - s.w p) / rowv here q + (z p - dotD (ddel here q) z) / rowv here q)) := funext (exch_Y S hp hq)
    rw [e]
    exact I.b _
  · have e : (keys (Sx.exch s p q).sums).length = (ddel s.sums p).length + 1 := by
      rw [exch_keys S hp hq, List.length_append]
      simp [keys]
    have e2 : (keys (Sx.exch s p q).sums).length = (Sx.exch s p q).sums.length := by simp [keys]
    rw [← e2, e, del_len (p_key S hp hq), I.cnt]
end
def rowOf : List Rat → Nat → Rw
  | [], _ => []
  | x :: b, i => if x ≠ 0 then (i, x) :: rowOf b (i + 1) else rowOf b (i + 1)
def sums0 : List (List Rat × Rat) → Nat → Dc Rw
  | [], _ => []
  | r :: rs, k => (k, rowOf r.1 0) :: sums0 rs (k + 1)
def st0 (rows : List (List Rat × Rat)) (f : Nat) : St := ⟨List.replicate f 0 ++ rows.map Prod.snd, sums0 rows f⟩
structure Low (f : Nat) (s : St) (p : Nat) : Prop where
  mem : p ∈ keys s.sums
  ge : f ≤ p
  neg : s.w p < 0
  least : ∀ p' ∈ keys s.sums, f ≤ p' → s.w p' < 0 → p ≤ p'
structure Giv (f : Nat) (here : Rw) (q : Nat) : Prop where
  mem : q ∈ keys here
  ok : q < f ∨ 0 < rowv here q
  least : ∀ q' ∈ keys here, (q' < f ∨ 0 < rowv here q') → q ≤ q'
structure Step (f : Nat) (s s' : St) (p q : Nat) : Prop where
  low : Low f s p
  giv : Giv f (s.row p) q
  eq : s' = exch s p q
section
variable {rows : List (List Rat × Rat)} {f : Nat}
theorem row_get {s : St} {p : Nat} (h : p ∈ keys s.sums) : dget s.sums p = some (s.row p) := by
  obtain ⟨r, hr⟩ := mem_keys.mp h
  unfold St.row
  rw [hr]; rfl
theorem Giv.ne {s : St} {n p q : Nat} (S : Shape n s) (hp : p ∈ keys s.sums) (g : Giv f (s.row p) q) : rowv (s.row p) q ≠ 0 := by
  have r := S.rk p _ (row_get hp)
  obtain ⟨v, hv⟩ := mem_keys.mp g.mem
  unfold rowv
  rw [hv]
  exact r.nz _ (get_mem hv)
theorem Step.inv {s s' : St} {p q : Nat} (I : Inv rows f s) (h : Step f s s' p q) : Inv rows f s' := by
  rw [h.eq]
  exact I.exch (row_get h.low.mem) (h.giv.ne I.sh h.low.mem)
theorem Step.mem {s s' : St} {p q : Nat} (I : Inv rows f s) (h : Step f s s' p q) {j : Nat} : j ∈ keys s'.sums ↔ (j ∈ keys s.sums ∧ j ≠ p) ∨ j = q := by
  rw [h.eq]
  exact exch_mem I.sh (row_get h.low.mem) (h.giv.ne I.sh h.low.mem)
structure Walk (rows : List (List Rat × Rat)) (f n : Nat) (st : Nat → St) (p q : Nat → Nat) : Prop where
  inv : Inv rows f (st 0)
  step : ∀ i, i < n → Step f (st i) (st (i + 1)) (p i) (q i)
variable {n : Nat} {st : Nat → St} {p q : Nat → Nat}
theorem Walk.invs (W : Walk rows f n st p q) : ∀ i, i ≤ n → Inv rows f (st i)
  | 0, _ => W.inv
  | i + 1, h => (W.step i (by omega)).inv (W.invs i (by omega))
theorem Walk.stays (W : Walk rows f n st p q) {j a : Nat} : ∀ {b : Nat}, a ≤ b → b ≤ n → (∀ i, a ≤ i → i < b → p i ≠ j) → j ∈ keys (st a).sums → j ∈ keys (st b).sums
  | 0, h, _, _, m => by have : a = 0 := by omega
                        subst this; exact m
  | b + 1, h, hb, hp, m => by
    by_cases e : a = b + 1
    · subst e; exact m
    · have := W.stays (b := b) (by omega) (by omega) (fun i h1 h2 => hp i h1 (by omega)) m
      exact ((W.step b (by omega)).mem (W.invs b (by omega))).mpr (.inl ⟨this, fun z => hp b (by omega) (by omega) z.symm⟩)
theorem Walk.out (W : Walk rows f n st p q) {j a : Nat} : ∀ {b : Nat}, a ≤ b → b ≤ n → (∀ i, a ≤ i → i < b → q i ≠ j) → j ∉ keys (st a).sums → j ∉ keys (st b).sums
  | 0, h, _, _, m => by have : a = 0 := by omega
                        subst this; exact m
  | b + 1, h, hb, hq, m => by
    by_cases e : a = b + 1
    · subst e; exact m
    · have := W.out (b := b) (by omega) (by omega) (fun i h1 h2 => hq i h1 (by omega)) m
      intro z
      rcases ((W.step b (by omega)).mem (W.invs b (by omega))).mp z with y | y
      · exact this y.1
      · exact hq b (by omega) (by omega) y.symm
end
end Sx
namespace Sx
theorem nodup_sub_len {α : Type} [BEq α] [LawfulBEq α] : ∀ {l m : List α}, l.Nodup → (∀ x ∈ l, x ∈ m) → l.length ≤ m.length
  | [], m, _, _ => Nat.zero_le _
  | x :: l, m, nd, h => by
    rw [List.nodup_cons] at nd
    have hx := h x List.mem_cons_self
    have := nodup_sub_len (l := l) (m := m.erase x) nd.2 fun y hy => by
      have hne : y ≠ x := fun e => nd.1 (e ▸ hy)
      exact (List.mem_erase_of_ne hne).mpr (h y (List.mem_cons_of_mem _ hy))
    rw [List.length_erase_of_mem hx] at this
    have : 0 < m.length := List.length_pos_of_mem hx
    rw [List.length_cons]
    omega
section
variable {rows : List (List Rat × Rat)} {f n : Nat} {st : Nat → St} {p q : Nat → Nat}
end
section
variable {rows : List (List Rat × Rat)} {f : Nat} {s : St}
theorem Inv.choice (I : Inv rows f s) (h : ∀ p ∈ keys s.sums, f ≤ p → ¬ s.w p < 0) : ∀ k (hk : k < rows.length), 0 ≤ dotF rows[k].1 0 s.w + rows[k].2 := fun k hk => by
  rw [← I.pt k hk]
  by_cases m : f + k ∈ keys s.sums
  · have := h _ m (by omega); grind
  · rw [I.sh.zero _ m]; exact Rat.le_refl
theorem dotF_set {v : Rat} {Y : Nat → Rat} : ∀ {l : List Rat} {i k : Nat}, i < l.length → dotF (l.set i v) k Y = dotF l k Y + (v - l.getD i 0) * Y (k + i)
  | x :: l, 0, k, _ => by simp [dotF]; grind
  | x :: l, i + 1, k, h => by
    have := dotF_set (v := v) (Y := Y) (l := l) (i := i) (k := k + 1) (by simpa using h)
    rw [List.set_cons_succ, dotF, dotF, this]
    simp only [List.getD_cons_succ]
    rw [show k + 1 + i = k + (i + 1) by omega]
    grind
  | [], _, _, h => by simp at h
theorem dotF_rep {Y : Nat → Rat} : ∀ {m k : Nat}, dotF (List.replicate m 0) k Y = 0
  | 0, k => rfl
  | m + 1, k => by rw [List.replicate_succ, dotF, dotF_rep]; grind
def wtsFrom (f : Nat) (r : Rw) (l : List Rat) : List Rat := r.foldl (fun l x => l.set (x.1 - f) (0 - x.2)) l
def wts (f m : Nat) (s : St) (p : Nat) : List Rat := wtsFrom f (s.row p) ((List.replicate m 0).set (p - f) 1)
theorem wtsFrom_len {f : Nat} : ∀ {r : Rw} {l : List Rat}, (wtsFrom f r l).length = l.length
  | [], l => rfl
  | x :: r, l => by
    have e : wtsFrom f (x :: r) l = wtsFrom f r (l.set (x.1 - f) (0 - x.2)) := rfl
    rw [e, wtsFrom_len]; simp
theorem wtsFrom_dot {f : Nat} {Y : Nat → Rat} : ∀ {r : Rw} {l : List Rat}, (keys r).Nodup → (∀ j ∈ keys r, f ≤ j ∧ j - f < l.length ∧ l.getD (j - f) 0 = 0) → dotF (wtsFrom f r l) f Y = dotF l f Y - dotD r Y
  | [], l, _, _ => by simp [wtsFrom, dotD]; grind
  | (j, v) :: r, l, nd, h => by
    have e : wtsFrom f ((j, v) :: r) l = wtsFrom f r (l.set (j - f) (0 - v)) := rfl
    rw [keys_cons, List.nodup_cons] at nd
    obtain ⟨h1, h2, h3⟩ := h j List.mem_cons_self
    rw [e, wtsFrom_dot nd.2 fun i hi => ?_, dotF_set h2, h3, dotD, show f + (j - f) = j by omega]
    · grind
    · obtain ⟨g1, g2, g3⟩ := h i (List.mem_cons_of_mem _ hi)
      have ne : i ≠ j := fun z => nd.1 (z ▸ hi)
      refine ⟨g1, by simpa using g2, ?_⟩
      rw [set_getD h2, if_neg (by omega)]
      exact g3
theorem wtsFrom_all {f : Nat} {P : Rat → Prop} : ∀ {r : Rw} {l : List Rat}, (∀ x ∈ l, P x) → (∀ x ∈ r, P (0 - x.2)) → ∀ x ∈ wtsFrom f r l, P x
  | [], l, h, _ => h
  | y :: r, l, h, k => by
    have e : wtsFrom f (y :: r) l = wtsFrom f r (l.set (y.1 - f) (0 - y.2)) := rfl
    rw [e]
    refine wtsFrom_all (fun x hx => ?_) fun x hx => k x (List.mem_cons_of_mem _ hx)
    rcases List.mem_or_eq_of_mem_set hx with z | z
    · exact h x z
    · subst z; exact k y List.mem_cons_self
def nzc (l : List Rat) : Nat := (l.filter fun x => decide (x ≠ 0)).length
theorem nzc_cons {x : Rat} {l : List Rat} : nzc (x :: l) = (if x = 0 then 0 else 1) + nzc l := by
  unfold nzc
  rw [List.filter_cons]
  by_cases h : x = 0
  · simp [h]
  · simp [h]; omega
theorem nzc_set {v : Rat} : ∀ {l : List Rat} {i : Nat}, nzc (l.set i v) ≤ nzc l + 1
  | [], _ => by simp [nzc]
  | x :: l, 0 => by
    rw [List.set_cons_zero, nzc_cons, nzc_cons]
    split <;> split <;> omega
  | x :: l, i + 1 => by
    rw [List.set_cons_succ, nzc_cons, nzc_cons]
    have := nzc_set (v := v) (l := l) (i := i)
    omega
theorem nzc_zero {m : Nat} : nzc (List.replicate m 0) = 0 := by
  unfold nzc
  rw [List.filter_eq_nil_iff.mpr fun x hx => by rw [(List.mem_replicate.mp hx).2]; simp]
  rfl
theorem nzc_wts {f : Nat} : ∀ {r : Rw} {l : List Rat}, nzc (wtsFrom f r l) ≤ nzc l + r.length
  | [], l => by unfold wtsFrom; simp
  | x :: r, l => by
    have e : wtsFrom f (x :: r) l = wtsFrom f r (l.set (x.1 - f) (0 - x.2)) := rfl
    rw [e, List.length_cons]
    have h1 := nzc_wts (f := f) (r := r) (l := l.set (x.1 - f) (0 - x.2))
    have h2 := nzc_set (v := 0 - x.2) (l := l) (i := x.1 - f)
    omega
theorem Inv.rowlen (I : Inv rows f s) {p : Nat} (hp : p ∈ keys s.sums) : (s.row p).length ≤ f := by
  have rk := I.sh.rk _ _ (row_get hp)
  have nd : (keys (s.row p) ++ keys s.sums).Nodup := List.nodup_append.mpr ⟨rk.nd, I.sh.nd, fun a ha b hb e => (rk.ks a ha).2 (e ▸ hb)⟩
  have := nodup_sub_len nd (m := List.range (f + rows.length)) fun x hx => by
    rcases List.mem_append.mp hx with h | h
    · exact List.mem_range.mpr (rk.ks x h).1
    · exact List.mem_range.mpr (I.sh.lt x h)
  have c := I.cnt
  rw [List.length_append, List.length_range] at this
  unfold keys at this
  rw [List.length_map, List.length_map] at this
  omega
structure Bars (rows : List (List Rat × Rat)) (f : Nat) (l : List Rat) : Prop where
  len : l.length = rows.length
  nn : ∀ x ∈ l, 0 ≤ x
  few : nzc l ≤ f + 1
  neg : ∃ c : Rat, c < 0 ∧ ∀ Y : Nat → Rat, Space rows f Y → dotF l f Y = c
theorem Inv.bars (I : Inv rows f s) {p : Nat} (hp : p ∈ keys s.sums) (hf : f ≤ p) (hw : s.w p < 0) (hg : ∀ q ∈ keys (s.row p), ¬ (q < f ∨ 0 < rowv (s.row p) q)) : Bars rows f (wts f rows.length s p) := by
  have g := row_get hp
  have rk := I.sh.rk _ _ g
  have hlt := I.sh.lt p hp
  have hpl : p - f < (List.replicate rows.length (0 : Rat)).length := by rw [List.length_replicate]; omega
  refine ⟨by unfold wts; rw [wtsFrom_len]; simp, ?_, ?_, s.w p, hw, fun Y hY => ?_⟩
  · refine wtsFrom_all (P := fun x => 0 ≤ x) (fun x hx => ?_) fun x hx => ?_
    · rcases List.mem_or_eq_of_mem_set hx with z | z
      · have := List.eq_of_mem_replicate z
        rw [this]; exact Rat.le_refl
      · subst z; decide +kernel
    · have k : x.1 ∈ keys (s.row p) := List.mem_map.mpr ⟨_, hx, rfl⟩
      have h1 := hg _ k
      have h2 := rowv_mem rk.nd (k := x.1) (v := x.2) hx
      rw [h2] at h1
      show 0 ≤ 0 - x.2
      grind
  · have h1 := nzc_wts (f := f) (r := s.row p) (l := (List.replicate rows.length 0).set (p - f) 1)
    have h2 := nzc_set (v := 1) (l := List.replicate rows.length (0 : Rat)) (i := p - f)
    rw [nzc_zero] at h2
    have h3 := I.rowlen hp
    show nzc (wtsFrom f (s.row p) ((List.replicate rows.length 0).set (p - f) 1)) ≤ f + 1
    omega
  · have ea := I.a Y hY p
    unfold Yof at ea
    rw [g] at ea
    dsimp only at ea
    unfold wts
    rw [wtsFrom_dot rk.nd fun j hj => ?_, dotF_set hpl, dotF_rep, show f + (p - f) = p by omega]
    · have : (List.replicate rows.length (0 : Rat)).getD (p - f) 0 = 0 := by
        rw [List.getD_eq_getElem?_getD]
        simp [List.getElem?_replicate]
        split <;> rfl
      rw [this]
      grind
    · have h1 := hg j hj
      have h2 := rk.ks j hj
      have ne : j ≠ p := fun e => h2.2 (e ▸ hp)
      refine ⟨by omega, by simp; omega, ?_⟩
      rw [set_getD hpl, if_neg (by omega), List.getD_eq_getElem?_getD]
      simp [List.getElem?_replicate]
      split <;> rfl
end
section
abbrev V3 := Rat × Rat × Rat
def det3 (u v w : V3) : Rat := u.1 * (v.2.1 * w.2.2 - v.2.2 * w.2.1) - u.2.1 * (v.1 * w.2.2 - v.2.2 * w.1) + u.2.2 * (v.1 * w.2.1 - v.2.1 * w.1)
def comb (x y z : Rat) (u v w : V3) : V3 := (x * u.1 + y * v.1 + z * w.1, x * u.2.1 + y * v.2.1 + z * w.2.1, x * u.2.2 + y * v.2.2 + z * w.2.2)
theorem det_1 {x y z : Rat} {u v w a b : V3} : det3 (comb x y z u v w) a b = x * det3 u a b + y * det3 v a b + z * det3 w a b := by
  unfold det3 comb; dsimp only; grind
theorem det_2 {x y z : Rat} {u v w a b : V3} : det3 a (comb x y z u v w) b = x * det3 a u b + y * det3 a v b + z * det3 a w b := by
  unfold det3 comb; dsimp only; grind
theorem det_3 {x y z : Rat} {u v w a b : V3} : det3 a b (comb x y z u v w) = x * det3 a b u + y * det3 a b v + z * det3 a b w := by
  unfold det3 comb; dsimp only; grind
theorem det_12 {u w : V3} : det3 u u w = 0 := by unfold det3; grind
theorem det_13 {u w : V3} : det3 u w u = 0 := by unfold det3; grind
theorem det_23 {u w : V3} : det3 w u u = 0 := by unfold det3; grind
theorem det_sw12 {u v w : V3} : det3 v u w = -det3 u v w := by unfold det3; grind
theorem det_sw23 {u v w : V3} : det3 u w v = -det3 u v w := by unfold det3; grind
theorem det_sw13 {u v w : V3} : det3 w v u = -det3 u v w := by unfold det3; grind
theorem det_ne {u v w : V3} {x0 y0 z0 x1 y1 z1 x2 y2 z2 : Rat} (h0 : comb x0 y0 z0 u v w = (1, 0, 0)) (h1 : comb x1 y1 z1 u v w = (0, 1, 0)) (h2 : comb x2 y2 z2 u v w = (0, 0, 1)) : det3 u v w ≠ 0 := fun hd => by
  have e : det3 ((1, 0, 0) : V3) (0, 1, 0) (0, 0, 1) = 1 := by decide +kernel
  have z : ∀ a ∈ [u, v, w], ∀ b ∈ [u, v, w], ∀ c ∈ [u, v, w], det3 a b c = 0 := by
    have s1 := det_sw12 (u := u) (v := v) (w := w)
    have s2 := det_sw23 (u := u) (v := v) (w := w)
    have s3 := det_sw13 (u := u) (v := v) (w := w)
    have s4 := det_sw12 (u := u) (v := w) (w := v)
    have s5 := det_sw12 (u := v) (v := w) (w := u)
    have s6 := det_sw23 (u := v) (v := w) (w := u)
    intro a ha b hb c hc
    simp only [List.mem_cons, List.not_mem_nil, or_false] at ha hb hc
    rcases ha with ha | ha | ha <;> rcases hb with hb | hb | hb <;> rcases hc with hc | hc | hc <;> subst ha <;> subst hb <;> subst hc <;> first | exact det_12 | exact det_13 | exact det_23 | grind
  have z3 : ∀ a ∈ [u, v, w], ∀ b ∈ [u, v, w], det3 a b (0, 0, 1) = 0 := fun a ha b hb => by
    rw [← h2, det_3, z a ha b hb u (by simp), z a ha b hb v (by simp), z a ha b hb w (by simp)]; grind
  have z2 : ∀ a ∈ [u, v, w], det3 a (0, 1, 0) (0, 0, 1) = 0 := fun a ha => by
    rw [← h1, det_2, z3 a ha u (by simp), z3 a ha v (by simp), z3 a ha w (by simp)]; grind
  rw [← h0, det_1, z2 u (by simp), z2 v (by simp), z2 w (by simp)] at e
  exact absurd e (by grind)
end
end Sx
namespace Sx
open L3
section
variable {rows : List (List Rat × Rat)} {f : Nat}
def cf (rows : List (List Rat × Rat)) (f j i : Nat) : Rat := if j < f then (if j = i then 1 else 0) else if h : j - f < rows.length then (rows[j - f]'h).1.getD i 0 else (if j - (f + rows.length) = i then 1 else 0)
def Yp (rows : List (List Rat × Rat)) (f : Nat) (x : Nat → Rat) (j : Nat) : Rat := if j < f then x j else if h : j - f < rows.length then dotF (rows[j - f]'h).1 0 x + (rows[j - f]'h).2 else 0
theorem space_Yp (hl : ∀ r ∈ rows, r.1.length = f) (x : Nat → Rat) : Space rows f (Yp rows f x) := fun k h => by
  have e : Yp rows f x (f + k) = dotF rows[k].1 0 x + rows[k].2 := by
    unfold Yp
    rw [if_neg (by omega), dif_pos (by omega : f + k - f < rows.length)]
    simp only [Nat.add_sub_cancel_left]
  rw [e]
  congr 1
  refine dotF_congr fun j _ h2 => ?_
  rw [hl _ (List.getElem_mem h)] at h2
  unfold Yp
  rw [if_pos (by omega)]
theorem dotF_zero : ∀ {b : List Rat} {k : Nat}, dotF b k (fun _ => 0) = 0
  | [], _ => rfl
  | x :: b, k => by rw [dotF, dotF_zero]; grind
theorem dotF_unit {i : Nat} : ∀ {b : List Rat} {k : Nat}, dotF b k (fun j => if j = i then 1 else 0) = if k ≤ i then b.getD (i - k) 0 else 0
  | [], k => by simp [dotF]
  | x :: b, k => by
    rw [dotF, dotF_unit]
    by_cases h : k = i
    · subst h
      simp; grind
    · rw [if_neg h]
      by_cases h2 : k ≤ i
      · rw [if_pos h2, if_pos (by omega), show i - k = (i - (k + 1)) + 1 by omega]
        simp; grind
      · rw [if_neg h2, if_neg (by omega)]; grind
theorem dotD_sub {r : Rw} {y z : Nat → Rat} : dotD r y - dotD r z = dotD r fun j => y j - z j := by
  induction r with
  | nil => simp [dotD]; grind
  | cons x r ih =>
    obtain ⟨j, v⟩ := x
    rw [dotD, dotD, dotD, ← ih]; grind
theorem dotD_z {r : Rw} {z : Nat → Rat} (h : ∀ j ∈ keys r, z j = 0) : dotD r z = 0 := by
  induction r with
  | nil => rfl
  | cons x r ih =>
    obtain ⟨j, v⟩ := x
    rw [dotD, h j List.mem_cons_self, ih fun i hi => h i (List.mem_cons_of_mem _ hi)]; grind
theorem Yp_unit {i j : Nat} (hi : i < f) (hj : j < f + rows.length) : Yp rows f (fun k => if k = i then 1 else 0) j - Yp rows f (fun _ => 0) j = cf rows f j i := by
  unfold Yp cf
  by_cases h : j < f
  · rw [if_pos h, if_pos h, if_pos h]; grind
  · rw [if_neg h, if_neg h, if_neg h, dif_pos (by omega), dif_pos (by omega), dif_pos (by omega), dotF_unit, dotF_zero, if_pos (Nat.zero_le _)]
    simp only [Nat.sub_zero]
    grind
theorem cf_ge (hl : ∀ r ∈ rows, r.1.length = f) {i j : Nat} (hi : f ≤ i) (hj : j < f + rows.length) : cf rows f j i = 0 := by
  unfold cf
  by_cases h : j < f
  · rw [if_pos h, if_neg (by omega)]
  · rw [if_neg h, dif_pos (by omega)]
    have l := hl _ (List.getElem_mem (show j - f < rows.length by omega))
    rw [List.getD_eq_getElem?_getD, List.getElem?_eq_none (by omega)]
    rfl
theorem cf_virt {i k : Nat} : cf rows f (f + rows.length + i) k = if i = k then 1 else 0 := by
  unfold cf
  rw [if_neg (by omega), dif_neg (by omega)]
  simp only [Nat.add_sub_cancel_left]
theorem Inv.coef {s : St} (I : Inv rows f s) (hl : ∀ r ∈ rows, r.1.length = f) {p i : Nat} (hp : p ∈ keys s.sums) : cf rows f p i = dotD (s.row p) (fun j => cf rows f j i) := by
  have g := row_get hp
  have rk := I.sh.rk _ _ g
  have hpn := I.sh.lt p hp
  by_cases hi : i < f
  · have e1 := I.a _ (space_Yp hl (fun k => if k = i then 1 else 0)) p
    have e0 := I.a _ (space_Yp hl (fun _ => 0)) p
    unfold Yof at e1 e0
    rw [g] at e1 e0
    dsimp only at e1 e0
    rw [← Yp_unit hi hpn, ← e1, ← e0]
    have : dotD (s.row p) (fun j => cf rows f j i) = dotD (s.row p) (Yp rows f fun k => if k = i then 1 else 0) - dotD (s.row p) (Yp rows f fun _ => 0) := by
      rw [dotD_sub]
      exact dotD_congr fun j hj => (Yp_unit hi (rk.ks j hj).1).symm
    rw [this]; grind
  · rw [cf_ge hl (by omega) hpn, dotD_z fun j hj => cf_ge hl (by omega) (rk.ks j hj).1]
theorem Inv.worth {s : St} (I : Inv rows f s) (hl : ∀ r ∈ rows, r.1.length = f) {p : Nat} (hp : p ∈ keys s.sums) : s.w p = Yp rows f (fun _ => 0) p - dotD (s.row p) (Yp rows f fun _ => 0) := by
  have e0 := I.a _ (space_Yp hl (fun _ => 0)) p
  unfold Yof at e0
  rw [row_get hp] at e0
  dsimp only at e0
  grind
def nbs (n : Nat) (s : St) : List Nat := (List.range n).filter fun j => decide (j ∉ keys s.sums)
theorem nbs_len {s : St} (I : Inv rows f s) : (nbs (f + rows.length) s).length = f := by
  have h1 : ((List.range (f + rows.length)).filter fun j => decide (j ∈ keys s.sums)).length = rows.length := by
    have nd : ((List.range (f + rows.length)).filter fun j => decide (j ∈ keys s.sums)).Nodup := List.nodup_range.sublist List.filter_sublist
    have a := nodup_sub_len (l := (List.range (f + rows.length)).filter fun j => decide (j ∈ keys s.sums)) (m := keys s.sums) nd fun x hx => of_decide_eq_true (List.mem_filter.mp hx).2
    have b := nodup_sub_len (l := keys s.sums) (m := (List.range (f + rows.length)).filter fun j => decide (j ∈ keys s.sums)) I.sh.nd fun x hx => List.mem_filter.mpr ⟨List.mem_range.mpr (I.sh.lt x hx), decide_eq_true hx⟩
    have c : (keys s.sums).length = rows.length := by rw [← I.cnt]; simp [keys]
    omega
  have en : (fun j => decide (j ∉ keys s.sums)) = fun j => !decide (j ∈ keys s.sums) := by funext j; simp
  have h2 : ∀ l : List Nat, (l.filter fun j => decide (j ∈ keys s.sums)).length + (l.filter fun j => decide (j ∉ keys s.sums)).length = l.length := by
    intro l
    rw [en]
    induction l with
    | nil => rfl
    | cons x l ih =>
      by_cases h : x ∈ keys s.sums
      · simp [h]; omega
      · simp [h]; omega
  have := h2 (List.range (f + rows.length))
  rw [h1, List.length_range] at this
  unfold nbs
  omega
def nb3 (n f : Nat) (s : St) : List Nat := nbs n s ++ List.range' (n + f) (3 - f)
theorem nb3_nd {n : Nat} {s : St} : (nb3 n f s).Nodup := by
  unfold nb3
  rw [List.nodup_append]
  refine ⟨List.nodup_range.sublist List.filter_sublist, List.nodup_range' _, fun a ha b hb e => ?_⟩
  have h1 := List.mem_range.mp (List.mem_filter.mp ha).1
  have h2 := (List.mem_range'_1.mp hb).1
  omega
def sumL (L : List Nat) (h : Nat → Rat) : Rat := (L.map h).sum
theorem sumL_cons {x : Nat} {L : List Nat} {h : Nat → Rat} : sumL (x :: L) h = h x + sumL L h := by simp [sumL]
theorem sumL_one {j : Nat} {c : Rat} : ∀ {L : List Nat}, L.Nodup → j ∈ L → sumL L (fun i => if j = i then c else 0) = c
  | x :: L, nd, h => by
    rw [List.nodup_cons] at nd
    rw [sumL_cons]
    by_cases e : j = x
    · subst e
      have : sumL L (fun i => if j = i then c else 0) = 0 := by
        have hn := nd.1
        clear nd h
        induction L with
        | nil => rfl
        | cons y L ih =>
          rw [sumL_cons, ih (fun z => hn (List.mem_cons_of_mem _ z)), if_neg (fun z => hn (by rw [z]; exact List.mem_cons_self))]; grind
      rw [this, if_pos rfl]; grind
    · rw [if_neg e, sumL_one nd.2 (by rcases List.mem_cons.mp h with z | z; exact (e z).elim; exact z)]; grind
theorem sumL_add {g h : Nat → Rat} : ∀ {L : List Nat}, sumL L (fun i => g i + h i) = sumL L g + sumL L h
  | [] => by simp [sumL]; grind
  | x :: L => by rw [sumL_cons, sumL_cons, sumL_cons, sumL_add]; grind
theorem dotD_list {g : Nat → Rat} : ∀ {r : Rw} {L : List Nat}, L.Nodup → (keys r).Nodup → (∀ j ∈ keys r, j ∈ L) → dotD r g = sumL L (fun i => rowv r i * g i)
  | [], L, _, _, _ => by
    have : ∀ L : List Nat, sumL L (fun i => rowv [] i * g i) = 0 := fun L => by
      induction L with
      | nil => rfl
      | cons x L ih => rw [sumL_cons, ih]; simp [rowv, dget]; grind
    rw [this]; rfl
  | (j, v) :: r, L, nl, nd, h => by
    rw [keys_cons, List.nodup_cons] at nd
    have ih := dotD_list (g := g) (r := r) nl nd.2 fun i hi => h i (List.mem_cons_of_mem _ hi)
    have e : (fun i => rowv ((j, v) :: r) i * g i) = fun i => (if j = i then v * g j else 0) + rowv r i * g i := by
      funext i
      rw [rowv_cons]
      by_cases z : j = i
      · subst z
        rw [if_pos rfl, if_pos rfl, rowv_no nd.1]; grind
      · rw [if_neg z, if_neg z]; grind
    rw [e, sumL_add, sumL_one nl (h j List.mem_cons_self), dotD, ih]
def vec (rows : List (List Rat × Rat)) (f j : Nat) : V3 := (cf rows f j 0, cf rows f j 1, cf rows f j 2)
theorem Inv.entry {s : St} (I : Inv rows f s) (hl : ∀ r ∈ rows, r.1.length = f) (hf : f ≤ 3) {p : Nat} (hp : p ∈ keys s.sums) : ∃ x0 x1 x2, det3 (vec rows f x0) (vec rows f x1) (vec rows f x2) ≠ 0 ∧ ∀ j ∈ keys (s.row p),
    (j = x0 ∧ rowv (s.row p) j = det3 (vec rows f p) (vec rows f x1) (vec rows f x2) / det3 (vec rows f x0) (vec rows f x1) (vec rows f x2)) ∨
    (j = x1 ∧ rowv (s.row p) j = det3 (vec rows f x0) (vec rows f p) (vec rows f x2) / det3 (vec rows f x0) (vec rows f x1) (vec rows f x2)) ∨
    (j = x2 ∧ rowv (s.row p) j = det3 (vec rows f x0) (vec rows f x1) (vec rows f p) / det3 (vec rows f x0) (vec rows f x1) (vec rows f x2)) := by
  have len : (nb3 (f + rows.length) f s).length = 3 := by
    unfold nb3
    rw [List.length_append, nbs_len I, List.length_range']; omega
  have nd := nb3_nd (n := f + rows.length) (f := f) (s := s)
  have sub : ∀ p ∈ keys s.sums, ∀ j ∈ keys (s.row p), j ∈ nb3 (f + rows.length) f s := fun p hp j hj => by
    have rk := I.sh.rk _ _ (row_get hp)
    have := rk.ks j hj
    exact List.mem_append_left _ (List.mem_filter.mpr ⟨List.mem_range.mpr this.1, decide_eq_true this.2⟩)
  have own : ∀ j, j ∉ keys s.sums → j < f + rows.length → j ∈ nb3 (f + rows.length) f s := fun j h1 h2 => List.mem_append_left _ (List.mem_filter.mpr ⟨List.mem_range.mpr h2, decide_eq_true h1⟩)
  have virt : ∀ i, f ≤ i → i < 3 → f + rows.length + i ∈ nb3 (f + rows.length) f s := fun i h1 h2 => List.mem_append_right _ (List.mem_range'_1.mpr ⟨by omega, by omega⟩)
  generalize nb3 (f + rows.length) f s = L at *
  match L, len with
  | [x0, x1, x2], _ =>
    have cb : ∀ p ∈ keys s.sums, vec rows f p = comb (rowv (s.row p) x0) (rowv (s.row p) x1) (rowv (s.row p) x2) (vec rows f x0) (vec rows f x1) (vec rows f x2) := fun p hp => by
      have rk := I.sh.rk _ _ (row_get hp)
      have c : ∀ i, cf rows f p i = rowv (s.row p) x0 * cf rows f x0 i + rowv (s.row p) x1 * cf rows f x1 i + rowv (s.row p) x2 * cf rows f x2 i := fun i => by
        rw [I.coef hl hp, dotD_list nd rk.nd (sub p hp)]
        simp [sumL]; grind
      unfold vec comb
      dsimp only
      rw [← c 0, ← c 1, ← c 2]
    have any : ∀ j, (j ∈ keys s.sums ∨ j ∈ [x0, x1, x2]) → ∃ x y z, comb x y z (vec rows f x0) (vec rows f x1) (vec rows f x2) = vec rows f j := fun j h => by
      rcases h with h | h
      · exact ⟨_, _, _, (cb j h).symm⟩
      · simp only [List.mem_cons, List.not_mem_nil, or_false] at h
        rcases h with h | h | h <;> subst h
        · exact ⟨1, 0, 0, by unfold comb vec; simp; grind⟩
        · exact ⟨0, 1, 0, by unfold comb vec; simp; grind⟩
        · exact ⟨0, 0, 1, by unfold comb vec; simp; grind⟩
    have unit : ∀ i, i < 3 → ∃ x y z, comb x y z (vec rows f x0) (vec rows f x1) (vec rows f x2) = ((if i = 0 then 1 else 0, if i = 1 then 1 else 0, if i = 2 then 1 else 0) : V3) := fun i hi => by
      by_cases h : i < f
      · obtain ⟨x, y, z, e⟩ := any i (by
          by_cases m : i ∈ keys s.sums
          · exact .inl m
          · exact .inr (own i m (by omega)))
        refine ⟨x, y, z, e.trans ?_⟩
        unfold vec cf
        simp only [if_pos h]
      · obtain ⟨x, y, z, e⟩ := any (f + rows.length + i) (.inr (virt i (by omega) hi))
        refine ⟨x, y, z, e.trans ?_⟩
        unfold vec
        rw [cf_virt, cf_virt, cf_virt]
    obtain ⟨a0, b0, c0, e0⟩ := unit 0 (by omega)
    obtain ⟨a1, b1, c1, e1⟩ := unit 1 (by omega)
    obtain ⟨a2, b2, c2, e2⟩ := unit 2 (by omega)
    have dn := det_ne (by simpa using e0) (by simpa using e1) (by simpa using e2)
    have cp := cb p hp
    have quot : ∀ {x y d : Rat}, d ≠ 0 → y = x * d → x = y / d := fun hd e => by rw [e]; exact (Rat.mul_div_cancel hd).symm
    refine ⟨x0, x1, x2, dn, fun j hj => ?_⟩
    have hj' := sub p hp j hj
    simp only [List.mem_cons, List.not_mem_nil, or_false] at hj'
    rcases hj' with h | h | h <;> subst h
    · exact .inl ⟨rfl, quot dn (by rw [cp, det_1, det_12, det_13]; grind)⟩
    · exact .inr (.inl ⟨rfl, quot dn (by rw [cp, det_2, det_12, det_23]; grind)⟩)
    · exact .inr (.inr ⟨rfl, quot dn (by rw [cp, det_3, det_13, det_23]; grind)⟩)
theorem cf_hq {a : Nat} (ha : 1 ≤ a) (hs : ∀ r ∈ rows, ∀ x ∈ r.1, hq x ≤ a) (j i : Nat) : hq (cf rows f j i) ≤ a := by
  have h0 : hq (0 : Rat) = 1 := by decide +kernel
  have h1 : hq (1 : Rat) = 1 := by decide +kernel
  unfold cf
  split
  · split <;> omega
  · split
    · rename_i h
      rw [List.getD_eq_getElem?_getD]
      cases e : (rows[j - f]'h).1[i]? with
      | none => simp; omega
      | some x => exact hs _ (List.getElem_mem h) x (List.mem_of_getElem? e)
    · split <;> omega
structure Wh (l n : Nat) (v : V3) (L x y z : Int) : Prop where
  pos : 0 < L
  ib : ib L ≤ l
  e1 : v.1 * (L : Rat) = (x : Rat)
  e2 : v.2.1 * (L : Rat) = (y : Rat)
  e3 : v.2.2 * (L : Rat) = (z : Rat)
  b1 : L3.ib x ≤ n
  b2 : L3.ib y ≤ n
  b3 : L3.ib z ≤ n
theorem ib_mul' {i j : Int} : ib (i * j) ≤ ib i + ib j := by
  unfold ib
  rw [Int.natAbs_mul]
  exact bl_mul
theorem num_den (q : Rat) : q * ((q.den : Int) : Rat) = (q.num : Rat) := by
  have h : ((q.den : Int) : Rat) ≠ 0 := by
    intro h
    have h2 : ((q.den : Int) : Rat) = ((0 : Int) : Rat) := h
    have := Rat.intCast_inj.mp h2
    have := q.den_nz
    omega
  have e : q = (q.num : Rat) / ((q.den : Int) : Rat) := by
    rw [← Rat.divInt_eq_div, Rat.num_divInt_den]
  conv => lhs; lhs; rw [e]
  rw [Rat.div_mul_cancel h]
theorem wh_of {a : Nat} {v : V3} (hv : hq v.1 ≤ a ∧ hq v.2.1 ≤ a ∧ hq v.2.2 ≤ a) : ∃ L x y z, Wh (3 * a) (3 * a) v L x y z := by
  obtain ⟨q, r, t⟩ := v
  obtain ⟨h1, h2, h3⟩ := hv
  dsimp only at h1 h2 h3
  have p1 := q.den_pos
  have p2 := r.den_pos
  have p3 := t.den_pos
  have d1 := hq_denI q
  have d2 := hq_denI r
  have d3 := hq_denI t
  have n1 := hq_num q
  have n2 := hq_num r
  have n3 := hq_num t
  have m1 := ib_mul' (i := (q.den : Int) * r.den) (j := t.den)
  have m2 := ib_mul' (i := (q.den : Int)) (j := r.den)
  have k1 := ib_mul' (i := q.num * r.den) (j := t.den)
  have k2 := ib_mul' (i := q.num) (j := r.den)
  have k3 := ib_mul' (i := r.num * q.den) (j := t.den)
  have k4 := ib_mul' (i := r.num) (j := q.den)
  have k5 := ib_mul' (i := t.num * q.den) (j := r.den)
  have k6 := ib_mul' (i := t.num) (j := q.den)
  have e1 := num_den q
  have e2 := num_den r
  have e3 := num_den t
  refine ⟨(q.den : Int) * r.den * t.den, q.num * r.den * t.den, r.num * q.den * t.den, t.num * q.den * r.den, Int.mul_pos (Int.mul_pos (by omega) (by omega)) (by omega), by omega, ?_, ?_, ?_, by omega, by omega, by omega⟩
  · simp only [Rat.intCast_mul]
    rw [← e1]; grind
  · simp only [Rat.intCast_mul]
    rw [← e2]; grind
  · simp only [Rat.intCast_mul]
    rw [← e3]; grind
def zdet (a1 a2 a3 b1 b2 b3 c1 c2 c3 : Int) : Int := a1 * (b2 * c3 - b3 * c2) - a2 * (b1 * c3 - b3 * c1) + a3 * (b1 * c2 - b2 * c1)
theorem ib_add' {i j : Int} : ib (i + j) ≤ max (ib i) (ib j) + 1 := by
  unfold ib
  refine Nat.le_trans (bl_mono (Int.natAbs_add_le i j)) bl_add
theorem ib_sub' {i j : Int} : ib (i - j) ≤ max (ib i) (ib j) + 1 := by
  have := ib_add' (i := i) (j := -j)
  rw [ib_neg] at this
  rwa [Int.sub_eq_add_neg]
theorem zdet_ib {n : Nat} {a1 a2 a3 b1 b2 b3 c1 c2 c3 : Int} (h1 : ib a1 ≤ n) (h2 : ib a2 ≤ n) (h3 : ib a3 ≤ n) (h4 : ib b1 ≤ n) (h5 : ib b2 ≤ n) (h6 : ib b3 ≤ n) (h7 : ib c1 ≤ n) (h8 : ib c2 ≤ n) (h9 : ib c3 ≤ n) : ib (zdet a1 a2 a3 b1 b2 b3 c1 c2 c3) ≤ 3 * n + 3 := by
  have m : ∀ {x y z u v : Int}, ib x ≤ n → ib y ≤ n → ib z ≤ n → ib u ≤ n → ib v ≤ n → ib (x * (y * z - u * v)) ≤ 3 * n + 1 := fun {x y z u v} g1 g2 g3 g4 g5 => by
    have k1 := ib_mul' (i := x) (j := y * z - u * v)
    have k2 := ib_sub' (i := y * z) (j := u * v)
    have k3 := ib_mul' (i := y) (j := z)
    have k4 := ib_mul' (i := u) (j := v)
    omega
  unfold zdet
  have g1 := m h1 h5 h9 h6 h8
  have g2 := m h2 h4 h9 h6 h7
  have g3 := m h3 h4 h8 h5 h7
  have k1 := ib_sub' (i := a1 * (b2 * c3 - b3 * c2)) (j := a2 * (b1 * c3 - b3 * c1))
  have k2 := ib_add' (i := a1 * (b2 * c3 - b3 * c2) - a2 * (b1 * c3 - b3 * c1)) (j := a3 * (b1 * c2 - b2 * c1))
  omega
theorem wh_det {l n : Nat} {u v w : V3} {A B C a1 a2 a3 b1 b2 b3 c1 c2 c3 : Int} (hu : Wh l n u A a1 a2 a3) (hv : Wh l n v B b1 b2 b3) (hw : Wh l n w C c1 c2 c3) : det3 u v w * ((A : Rat) * B * C) = ((zdet a1 a2 a3 b1 b2 b3 c1 c2 c3 : Int) : Rat) ∧ ib (zdet a1 a2 a3 b1 b2 b3 c1 c2 c3) ≤ 3 * n + 3 := by
  refine ⟨?_, zdet_ib hu.b1 hu.b2 hu.b3 hv.b1 hv.b2 hv.b3 hw.b1 hw.b2 hw.b3⟩
  unfold zdet
  simp only [Rat.intCast_mul, Rat.intCast_sub, Rat.intCast_add]
  rw [← hu.e1, ← hu.e2, ← hu.e3, ← hv.e1, ← hv.e2, ← hv.e3, ← hw.e1, ← hw.e2, ← hw.e3]
  unfold det3
  grind
theorem cast_ne {z : Int} (h : z ≠ 0) : (z : Rat) ≠ 0 := fun e => by
  have e2 : (z : Rat) = ((0 : Int) : Rat) := e
  exact h (Rat.intCast_inj.mp e2)
theorem Inv.bottom {s : St} (I : Inv rows f s) (hl : ∀ r ∈ rows, r.1.length = f) (hf : f ≤ 3) {a : Nat} (ha : 1 ≤ a) (hs : ∀ r ∈ rows, ∀ x ∈ r.1, hq x ≤ a) {p : Nat} (hp : p ∈ keys s.sums) : ∃ G : Int, G ≠ 0 ∧ ib G ≤ 12 * a + 3 ∧ ∀ j ∈ keys (s.row p), ∃ z : Int, ib z ≤ 12 * a + 3 ∧ rowv (s.row p) j = (z : Rat) / (G : Rat) := by
  obtain ⟨x0, x1, x2, dn, hj⟩ := I.entry hl hf hp
  have v : ∀ j, hq (vec rows f j).1 ≤ a ∧ hq (vec rows f j).2.1 ≤ a ∧ hq (vec rows f j).2.2 ≤ a := fun j => ⟨cf_hq ha hs j 0, cf_hq ha hs j 1, cf_hq ha hs j 2⟩
  obtain ⟨P, p1, p2, p3, wp⟩ := wh_of (v p)
  obtain ⟨A, a1, a2, a3, wa⟩ := wh_of (v x0)
  obtain ⟨B, b1, b2, b3, wb⟩ := wh_of (v x1)
  obtain ⟨C, c1, c2, c3, wc⟩ := wh_of (v x2)
  obtain ⟨eD, bD⟩ := wh_det wa wb wc
  obtain ⟨e0, b0⟩ := wh_det wp wb wc
  obtain ⟨e1, b1'⟩ := wh_det wa wp wc
  obtain ⟨e2, b2'⟩ := wh_det wa wb wp
  generalize zdet a1 a2 a3 b1 b2 b3 c1 c2 c3 = D at *
  generalize zdet p1 p2 p3 b1 b2 b3 c1 c2 c3 = D0 at *
  generalize zdet a1 a2 a3 p1 p2 p3 c1 c2 c3 = D1 at *
  generalize zdet a1 a2 a3 b1 b2 b3 p1 p2 p3 = D2 at *
  have nA := cast_ne (show A ≠ 0 by have := wa.pos; omega)
  have nB := cast_ne (show B ≠ 0 by have := wb.pos; omega)
  have nC := cast_ne (show C ≠ 0 by have := wc.pos; omega)
  have nP := cast_ne (show P ≠ 0 by have := wp.pos; omega)
  have nD : D ≠ 0 := by
    intro h
    subst h
    have z : ((0 : Int) : Rat) = 0 := rfl
    rw [z] at eD
    rcases Rat.mul_eq_zero.mp eD with h | h
    · exact dn h
    · rcases Rat.mul_eq_zero.mp h with h | h
      · rcases Rat.mul_eq_zero.mp h with h | h
        · exact nA h
        · exact nB h
      · exact nC h
  have nDr := cast_ne nD
  have g : ∀ {X : Int}, ib X ≤ 3 * a → ∀ {Y : Int}, ib Y ≤ 3 * (3 * a) + 3 → ib (Y * X) ≤ 12 * a + 3 := fun {X} hX {Y} hY => by
    have := ib_mul' (i := Y) (j := X)
    omega
  have q : ∀ {N d u v : Rat}, d ≠ 0 → v ≠ 0 → N * v = u * d → N / d = u / v := fun {N d u v} hd hv e => by
    have h1 : N / d = (N * v) / (d * v) := by
      rw [Rat.div_def, Rat.div_def, Rat.inv_mul_rev]
      have : v * v⁻¹ = 1 := Rat.mul_inv_cancel _ hv
      grind
    have h2 : u / v = (u * d) / (d * v) := by
      rw [Rat.div_def, Rat.div_def, Rat.inv_mul_rev]
      have : d * d⁻¹ = 1 := Rat.mul_inv_cancel _ hd
      grind
    rw [h1, h2, e]
  refine ⟨D * P, Int.mul_ne_zero nD (by have := wp.pos; omega), g wp.ib bD, fun j hj' => ?_⟩
  have nDP : ((D * P : Int) : Rat) ≠ 0 := cast_ne (Int.mul_ne_zero nD (by have := wp.pos; omega))
  rcases hj j hj' with ⟨_, e⟩ | ⟨_, e⟩ | ⟨_, e⟩
  · refine ⟨D0 * A, g wa.ib b0, e.trans (q dn nDP ?_)⟩
    simp only [Rat.intCast_mul]
    rw [← eD, ← e0]; grind
  · refine ⟨D1 * B, g wb.ib b1', e.trans (q dn nDP ?_)⟩
    simp only [Rat.intCast_mul]
    rw [← eD, ← e1]; grind
  · refine ⟨D2 * C, g wc.ib b2', e.trans (q dn nDP ?_)⟩
    simp only [Rat.intCast_mul]
    rw [← eD, ← e2]; grind
theorem Inv.entry_hq {s : St} (I : Inv rows f s) (hl : ∀ r ∈ rows, r.1.length = f) (hf : f ≤ 3) {a : Nat} (ha : 1 ≤ a) (hs : ∀ r ∈ rows, ∀ x ∈ r.1, hq x ≤ a) {p : Nat} {r : Rw} (hp : dget s.sums p = some r) : ∀ x ∈ r, hq x.2 ≤ 12 * a + 10 := fun x hx => by
  have hk : p ∈ keys s.sums := mem_keys.mpr ⟨r, hp⟩
  have er : s.row p = r := by unfold St.row; rw [hp]; rfl
  have rk := I.sh.rk _ _ hp
  obtain ⟨G, nG, bG, h⟩ := I.bottom hl hf ha hs hk
  obtain ⟨z, bz, e⟩ := h x.1 (by rw [er]; exact List.mem_map.mpr ⟨_, hx, rfl⟩)
  rw [er, rowv_mem rk.nd (v := x.2) hx] at e
  rw [e, ← Rat.divInt_eq_div]
  exact Nat.le_trans (hq_divInt bz bG (by omega)) (by omega)
end
end Sx
namespace Sr
open PySem PySem.Spec PyProof.Rows L2 L3 L4 Sx
abbrev En := List (Option T)
section
variable {α : Type}
def ksOf (d : Dc α) : List Key := d.map fun x => .inl (x.1 : Int)
theorem kAt_ks : ∀ {d : Dc α} {k : Nat}, (match dget d k with
    | none => kAt (ksOf d) (.inl (k : Int)) = none ∧ dput d k = fun v => d ++ [(k, v)]
    | some v => ∃ n, kAt (ksOf d) (.inl (k : Int)) = some n ∧ d[n]? = some (k, v) ∧ d.eraseIdx n = ddel d k ∧ ∀ w, d.set n (k, w) = dput d k w)
  | [], k => by simp [dget, ksOf, kAt]; funext v; rfl
  | (j, w) :: d, k => by
    have ih := kAt_ks (d := d) (k := k)
    have e : ksOf ((j, w) :: d) = .inl (j : Int) :: ksOf d := rfl
    rw [e, dget]
    by_cases h : j = k
    · subst h
      rw [if_pos rfl]
      dsimp only
      exact ⟨0, by simp [kAt], rfl, by simp [ddel], fun w' => by simp [dput]⟩
    · rw [if_neg h]
      have ne : ¬ ((Sum.inl (j : Int) : Key) = Sum.inl (k : Int)) := fun z => h (by cases z; omega)
      cases hd : dget d k with
      | none =>
        rw [hd] at ih
        dsimp only at ih ⊢
        refine ⟨by simp [kAt, ne, ih.1], ?_⟩
        funext v
        have := congrFun ih.2 v
        rw [dput, if_neg h, this]; rfl
      | some v =>
        rw [hd] at ih
        dsimp only at ih ⊢
        obtain ⟨n, h1, h2, h3, h4⟩ := ih
        exact ⟨n + 1, by simp [kAt, ne, h1], by simpa using h2, by simp [ddel, h, h3], fun w' => by simp [dput, h, h4 w']⟩
theorem kAt_some' {d : Dc α} {k : Nat} {v : α} (h : dget d k = some v) : ∃ n, kAt (ksOf d) (.inl (k : Int)) = some n ∧ d[n]? = some (k, v) ∧ d.eraseIdx n = ddel d k ∧ ∀ w, d.set n (k, w) = dput d k w := by
  have := kAt_ks (d := d) (k := k)
  rw [h] at this
  exact this
variable {tv : α → T}
end
@[simp] theorem len_ksOf {α : Type} {d : Dc α} : (ksOf d).length = d.length := by simp [ksOf]
@[simp] theorem atK_nil {t : T} : T.atK [] t = some t := (rfl)
@[simp] theorem atKo_nil {t : T} : atKo [] (some (some t)) = some t := (rfl)
@[simp] theorem atKo_some' {p : List PK} {t : T} : atKo p (some (some t)) = T.atK p t := (rfl)
@[simp] theorem kHere_eq {ρ : En} : kHere ρ = some [] := (rfl)
@[simp] theorem noFd_d {x : PyData} : T.noFd (.d x) = true := by simp [T.noFd]
theorem noFdA_map {β : Type} {f : β → T} (h : ∀ x, (f x).noFd = true) : ∀ {xs : List β}, T.noFdA (xs.map f) = true
  | [] => by simp [T.noFdA]
  | x :: xs => by simp [T.noFdA, h x, noFdA_map h (xs := xs)]
abbrev tvD : Rat → T := fun q => T.d (fr q)
def rwT (r : Rw) : T := .od (ksOf r) (r.map fun x => tvD x.2)
def shK (f : Nat) (ws : List Rat) (t : T) : T := .ob "Sheet" ["free", "worths", "sums"] [.d (.int f), .ol (ws.map tvD), t]
def smT (d : Dc Rw) : T := .od (ksOf d) (d.map fun x => rwT x.2)
def smF (a : Addr) (d : Dc Rw) : T := .fd a (ksOf d) (d.map fun x => rwT x.2)
theorem k_sums : kAt (["free", "worths", "sums"] : List Str) ("sums" : Str) = some 2 := by decide +kernel
section
variable {f : Nat} {ws : List Rat} {t : T} {p : List PK}
theorem atK_sums : T.atK (.fld "sums" :: p) (shK f ws t) = T.atK p t := by
  show (kAt (["free", "worths", "sums"] : List Str) ("sums" : Str)).bind _ = _
  rw [k_sums]; rfl
theorem kfld {i : Nat} {mp : MLK} {q : List PK} {g : Str} {ρ : En} (h : mp ρ = some q) (h2 : atKo q ρ[i]? = some (shK f ws t)) : kFldC i mp "Sheet" g ρ = some (q ++ [.fld g]) := by
  unfold kFldC
  rw [h]
  simp only [Option.bind_some, h2]
  rfl
end
end Sr
namespace L4
open PySem PySem.Spec PyProof.Rows L2 L3
section
variable {α β σ γ δ : Type} {P : δ → Prop} {E : Str → Prop}
theorem st_ok {a : α} {k : α → R δ} (h : Then (k a) P E) : Then ((R.ok a).bind k) P E := h
theorem st_end {a : δ} (h : P a) : Then (R.ok a) P E := h
theorem st_call {t : R α} {k : α → R δ} {Q : α → Prop} (h : Then t Q (fun _ => False)) (hk : ∀ a, Q a → Then (k a) P E) : Then (t.nx.bind k) P E := then_bindI (then_nx h) hk
theorem st_callE {t : R α} {k : α → R δ} {a : α} (h : t = .ok a) (hk : Then (k a) P E) : Then (t.nx.bind k) P E := by rw [h]; exact hk
theorem st_bind {t : R α} {k : α → R δ} {Q : α → Prop} (h : Then t Q E) (hk : ∀ a, Q a → Then (k a) P E) : Then (t.bind k) P E := then_bindI h hk
theorem st_op {b : Bool} {x : β} {k : β → R δ} (hb : b = true) (h : Then (k x) P E) : Then ((tOp b x).bind k) P E := by subst hb; exact h
theorem st_opN {b : Bool} {x : β} {k : β → R δ} (hb : b = true) (h : Then (k x) P E) : Then ((tOp b x).nx.bind k) P E := by subst hb; exact h
theorem st_mul {a b : Int} {k : Int → R δ} (hb : mulOk a b = true) (h : Then (k (a * b)) P E) : Then ((tMul a b).bind k) P E := st_op hb h
theorem st_mod {a b : Int} {k : Int → R δ} (hb : b ≠ 0) (h : Then (k (a.fmod b)) P E) : Then ((tMod a b).bind k) P E := st_op (decide_eq_true hb) h
theorem st_fdiv {a b : Int} {k : Int → R δ} (hb : divOk a b = true) (h : Then (k (a.fdiv b)) P E) : Then ((tFdiv a b).bind k) P E := st_op hb h
theorem st_add {q r : Rat} {k : Rat → R δ} (hb : hq q + hq r ≤ 9000) (h : ∀ z, z = q + r → hq z ≤ hq q + hq r + 1 → Then (k z) P E) : Then ((rAdd q r).nx.bind k) P E := st_opN (decide_eq_true (ok2_of hb)) (h _ rfl (hq_add q r))
theorem hq_zero : hq 0 = 1 := by decide +kernel
theorem hq_one : hq 1 = 1 := by decide +kernel
theorem hq_lone : hq (-1) = 1 := by decide +kernel
theorem st_neg {r : Rat} {k : Rat → R δ} (hb : hq r ≤ 8000) (h : ∀ z, z = -r → hq z = hq r → Then (k z) P E) : Then ((rSub 0 r).nx.bind k) P E := st_opN (decide_eq_true (ok2_of (by rw [hq_zero]; omega))) (by
  have : (0 : Rat) - r = -r := by grind
  rw [this]
  exact h _ rfl (hq_neg r))
theorem st_times {q r : Rat} {k : Rat → R δ} (hb : hq q + hq r ≤ 9000) (h : ∀ z, z = q * r → hq z ≤ hq q + hq r → Then (k z) P E) : Then ((rMul q r).nx.bind k) P E := st_opN (decide_eq_true (ok2_of hb)) (h _ rfl (hq_mul q r))
theorem st_lt {q r : Rat} {k : Bool → R δ} (hb : hq q + hq r ≤ 400000) (h : Then (k (decide (q < r))) P E) : Then ((rLt q r).nx.bind k) P E := st_opN (decide_eq_true hb) h
theorem st_addW {q r : Rat} {k : Rat → R δ} (hd : dq q + dq r ≤ 9000) (hb : hq q + hq r ≤ 400000) (h : ∀ z, z = q + r → hq z ≤ hq q + hq r + 1 → dq z ≤ dq q + dq r → Then (k z) P E) : Then ((rAdd q r).nx.bind k) P E := st_opN (decide_eq_true ⟨hd, hb⟩) (h _ rfl (hq_add q r) (dq_add q r))
theorem dq_zero : dq 0 = 1 := by decide +kernel
theorem st_timesW {q r : Rat} {k : Rat → R δ} (hd : dq q + dq r ≤ 9000) (hb : hq q + hq r ≤ 400000) (h : ∀ z, z = q * r → hq z ≤ hq q + hq r → dq z ≤ dq q + dq r → Then (k z) P E) : Then ((rMul q r).nx.bind k) P E := st_opN (decide_eq_true ⟨hd, hb⟩) (h _ rfl (hq_mul q r) (dq_mul q r))
theorem st_idx {xs : List β} {i : Int} {k : β → R δ} (n : Nat) (hi : i = n) (h : n < xs.length) (hk : Then (k xs[n]) P E) : Then ((tIdx xs i).bind k) P E := by
  unfold tIdx tGet
  subst hi
  rw [e_atIn, List.getElem?_eq_getElem h]
  exact hk
theorem st_idxM {xs : List β} {i : Int} {k : β → R δ} (h0 : 0 ≤ i) (h1 : i < xs.length) (hk : ∀ x ∈ xs, Then (k x) P E) : Then ((tIdx xs i).bind k) P E :=
  st_idx i.toNat (by omega) (by omega) (hk _ (List.getElem_mem _))
theorem st_app {xs : List β} {x : β} {k : List β → R δ} (h : xs.length < 16777216) (hk : Then (k (xs ++ [x])) P E) : Then ((tApp xs x).bind k) P E := st_op (decide_eq_true h) hk
theorem st_cat {xs ys : List β} {k : List β → R δ} (h : xs.length + ys.length ≤ 16777216) (hk : Then (k (xs ++ ys)) P E) : Then ((tCat xs ys).bind k) P E := st_op (decide_eq_true h) hk
theorem st_ins0 {xs : List β} {x : β} {k : List β → R δ} (h : xs.length < 16777216) (hk : Then (k (x :: xs)) P E) : Then ((tIns xs 0 x).bind k) P E := by
  unfold tIns
  exact st_op (decide_eq_true ⟨h, by omega, by omega⟩) hk
theorem st_set {xs : List β} {i : Int} {x : β} {k : List β → R δ} (n : Nat) (hi : i = n) (h : n < xs.length) (hk : Then (k (xs.set n x)) P E) : Then ((tSet xs i x).bind k) P E := by
  unfold tSet
  subst hi
  rw [e_ixN h]
  exact hk
theorem st_range {lo hi : Int} {k : List Int → R δ} (h1 : -(2 ^ 60) ≤ lo) (h2 : lo ≤ 2 ^ 60) (h3 : -(2 ^ 60) ≤ hi) (h4 : hi ≤ 2 ^ 60) (h : Then (k (rgI lo hi)) P E) : Then ((tRange lo hi).bind k) P E := by
  unfold tRange
  have e1 : small62 lo = true := decide_eq_true (by omega)
  have e2 : small62 hi = true := decide_eq_true (by omega)
  rw [e1, e2]
  exact h
theorem st_down {i j : Int} {k : List Int → R δ} (h1 : -(2 ^ 60) ≤ i) (h2 : i ≤ 2 ^ 60) (h3 : -(2 ^ 60) ≤ j) (h4 : j ≤ 2 ^ 60) (h : Then (k (dnI i j)) P E) : Then ((tDown i j).bind k) P E := by
  unfold tDown
  exact st_op (by
    have e1 : small62 i = true := decide_eq_true (by omega)
    have e2 : small62 j = true := decide_eq_true (by omega)
    rw [e1, e2]; rfl) h
theorem mem_rgI {lo hi x : Int} : x ∈ rgI lo hi ↔ lo ≤ x ∧ x < hi := by
  unfold rgI
  rw [List.mem_map]
  constructor
  · rintro ⟨n, h, rfl⟩
    have := List.mem_range.mp h
    omega
  · intro h
    exact ⟨(x - lo).toNat, List.mem_range.mpr (by omega), by omega⟩
@[simp] theorem len_rgI {lo hi : Int} : (rgI lo hi).length = (hi - lo).toNat := by simp [rgI]
theorem get_rgI {lo hi : Int} {i : Nat} {x : Int} (h : (rgI lo hi)[i]? = some x) : x = lo + i ∧ i < (hi - lo).toNat := by
  unfold rgI at h
  rw [List.getElem?_map] at h
  obtain ⟨z, e1, e2⟩ := Option.map_eq_some_iff.mp h
  obtain ⟨h1, h2⟩ := List.getElem?_eq_some_iff.mp e1
  simp at h1 h2
  omega
@[simp] theorem len_dnI {i j : Int} : (dnI i j).length = (i - j).toNat := by simp [dnI]
@[simp] theorem tLen_eq {xs : List β} : tLen xs = (xs.length : Int) := (rfl)
@[simp] theorem len_enumL {xs : List β} : (enumL xs).length = xs.length := by simp [enumL]
theorem get_enumL {xs : List β} {i : Nat} {z : Int × β} (h : (enumL xs)[i]? = some z) : z.1 = i ∧ xs[i]? = some z.2 := by
  unfold enumL at h
  rw [List.getElem?_map] at h
  obtain ⟨y, e1, e2⟩ := Option.map_eq_some_iff.mp h
  subst e2
  rw [List.getElem?_zipIdx] at e1
  obtain ⟨u, e3, e4⟩ := Option.map_eq_some_iff.mp e1
  subst e4
  exact ⟨by simp, e3⟩
theorem mem_enumL {xs : List β} {z : Int × β} (h : z ∈ enumL xs) : ∃ i : Nat, z.1 = i ∧ ∃ hi : i < xs.length, xs[i] = z.2 := by
  obtain ⟨i, h1, h2⟩ := List.getElem_of_mem h
  have e := get_enumL (xs := xs) (i := i) (z := z) (by rw [List.getElem?_eq_getElem h1, h2])
  obtain ⟨e1, e2⟩ := e
  obtain ⟨h3, h4⟩ := List.getElem?_eq_some_iff.mp e2
  exact ⟨i, e1, h3, h4⟩
inductive All2 (Q : α → β → Prop) : List α → List β → Prop
  | nil : All2 Q [] []
  | cons {x : α} {y : β} {xs : List α} {ys : List β} : Q x y → All2 Q xs ys → All2 Q (x :: xs) (y :: ys)
theorem All2.len {Q : α → β → Prop} : ∀ {xs : List α} {ys : List β}, All2 Q xs ys → ys.length = xs.length
  | _, _, .nil => rfl
  | _, _, .cons _ r => by simp [r.len]
theorem All2.all {Q : α → β → Prop} {S : β → Prop} : ∀ {xs : List α} {ys : List β}, All2 Q xs ys → (∀ x ∈ xs, ∀ y, Q x y → S y) → ∀ y ∈ ys, S y
  | _, _, .nil, _, y, h => by simp at h
  | _, _, .cons q r, k, y, h => by
    rcases List.mem_cons.mp h with e | e
    · subst e; exact k _ List.mem_cons_self _ q
    · exact r.all (fun x hx => k x (List.mem_cons_of_mem _ hx)) y e
theorem All2.get {Q : α → β → Prop} : ∀ {xs : List α} {ys : List β}, All2 Q xs ys → ∀ {i : Nat} (h1 : i < xs.length) (h2 : i < ys.length), Q xs[i] ys[i]
  | _, _, .cons q r, 0, _, _ => q
  | _, _, .cons q r, i + 1, h1, h2 => r.get (by simpa using h1) (by simpa using h2)
theorem then_map {f : α → R β} {Q : α → β → Prop} : ∀ {xs : List α}, (∀ x ∈ xs, Then (f x) (Q x) E) → Then (tMap f xs) (All2 Q xs) E
  | [], _ => .nil
  | x :: xs, h => by
    unfold tMap
    refine then_bindI (h x List.mem_cons_self) fun y hy => ?_
    refine then_bindI (then_map fun z hz => h z (List.mem_cons_of_mem _ hz)) fun ys hys => ?_
    exact .cons hy hys
theorem st_map {f : α → R β} {xs : List α} {k : List β → R δ} (Q : α → β → Prop) (hl : xs.length ≤ 16777216) (h : ∀ x ∈ xs, Then (f x) (Q x) E) (hk : ∀ ys, All2 Q xs ys → Then (k ys) P E) : Then ((tMapG f xs).bind k) P E := by
  unfold tMapG
  have e : lenOk xs = true := decide_eq_true hl
  rw [e, guard_t]
  exact then_bindI (then_map h) hk
theorem map_ok {f : α → R β} {g : α → β} : ∀ {xs : List α}, (∀ x ∈ xs, f x = .ok (g x)) → tMap f xs = .ok (xs.map g)
  | [], _ => rfl
  | x :: xs, h => by
    unfold tMap
    rw [h x List.mem_cons_self, map_ok fun z hz => h z (List.mem_cons_of_mem _ hz)]
    rfl
theorem st_mapF {f : α → R β} {xs : List α} {k : List β → R δ} (g : α → β) (hl : xs.length ≤ 16777216) (h : ∀ x ∈ xs, f x = .ok (g x)) (hk : Then (k (xs.map g)) P E) : Then ((tMapG f xs).bind k) P E := by
  unfold tMapG
  have e : lenOk xs = true := decide_eq_true hl
  rw [e, guard_t, map_ok h]
  exact hk
theorem fm_ok {f : α → R (Option α)} {p : α → Bool} : ∀ {xs : List α}, (∀ x ∈ xs, f x = .ok (if p x = true then some x else none)) → tFm f xs = .ok (xs.filter p)
  | [], _ => rfl
  | x :: xs, h => by
    unfold tFm
    rw [h x List.mem_cons_self, fm_ok fun z hz => h z (List.mem_cons_of_mem _ hz)]
    cases e : p x <;> simp [e]
theorem st_fmF {f : α → R (Option α)} {xs : List α} {k : List α → R δ} (p : α → Bool) (hl : xs.length ≤ 16777216) (h : ∀ x ∈ xs, f x = .ok (if p x = true then some x else none)) (hk : Then (k (xs.filter p)) P E) : Then ((tFmG f xs).bind k) P E := by
  unfold tFmG
  have e : lenOk xs = true := decide_eq_true hl
  rw [e, guard_t, fm_ok h]
  exact hk
theorem then_fold {f : σ → α → R σ} (I : Nat → σ → Prop) {xs : List α} : ∀ {i : Nat} {s : σ}, I i s → (∀ j x s, xs[j]? = some x → I (i + j) s → Then (f s x) (I (i + j + 1)) E) → Then (tFold f xs s) (I (i + xs.length)) E := by
  induction xs with
  | nil => intro i s h _; exact h
  | cons x xs ih =>
    intro i s h hs
    unfold tFold
    refine then_bindI (hs 0 x s rfl h) fun s' h' => ?_
    have := ih (i := i + 1) (s := s') h' fun j y t hy ht => by
      have e := hs (j + 1) y t (by simpa using hy) (by rwa [show i + (j + 1) = i + 1 + j by omega])
      rwa [show i + (j + 1) + 1 = i + 1 + j + 1 by omega] at e
    rwa [show i + 1 + xs.length = i + (x :: xs).length by simp; omega] at this
theorem st_fold {f : σ → α → R σ} {xs : List α} {s0 : σ} {k : σ → R δ} (I : Nat → σ → Prop) (h0 : I 0 s0) (h : ∀ j x s, xs[j]? = some x → I j s → Then (f s x) (I (j + 1)) E) (hk : ∀ s, I xs.length s → Then (k s) P E) : Then ((tFold f xs s0).bind k) P E := by
  refine then_bindI (then_fold I h0 fun j x s hx hs => ?_) fun s hs => hk s (by rwa [Nat.zero_add] at hs)
  rw [Nat.zero_add] at hs ⊢
  exact h j x s hx hs
theorem then_loop {f : σ → α → R (Fl σ γ)} (I : Nat → σ → Prop) (D : σ → Prop) (Rt : γ → Prop) {xs : List α} : ∀ {i : Nat} {s : σ}, I i s → (∀ s, I (i + xs.length) s → D s) → (∀ j x s, xs[j]? = some x → I (i + j) s → Then (f s x) (fun r => match r with | .nx s => I (i + j + 1) s | .bk s => D s | .rt r => Rt r) E) → Then (tLoop f xs s) (fun r => match r with | .nx s => D s | .rt r => Rt r | .bk _ => False) E := by
  induction xs with
  | nil => intro i s h hd _; exact hd s h
  | cons x xs ih =>
    intro i s h hd hs
    unfold tLoop
    refine then_bindI (hs 0 x s rfl h) fun r h' => ?_
    cases r with
    | nx s' =>
      refine ih (i := i + 1) (s := s') h' (fun s hh => hd s (by rwa [show i + (x :: xs).length = i + 1 + xs.length by simp; omega])) fun j y t hy ht => ?_
      have e := hs (j + 1) y t (by simpa using hy) (by rwa [show i + (j + 1) = i + 1 + j by omega])
      rwa [show i + (j + 1) + 1 = i + 1 + j + 1 by omega] at e
    | bk s' => exact h'
    | rt r => exact h'
theorem st_loop {f : σ → α → R (Fl σ γ)} {xs : List α} {s0 : σ} {k : σ → R δ} {kr : γ → R δ} (I : Nat → σ → Prop) (D : σ → Prop) (Rt : γ → Prop) (h0 : I 0 s0) (hd : ∀ s, I xs.length s → D s) (h : ∀ j x s, xs[j]? = some x → I j s → Then (f s x) (fun r => match r with | .nx s => I (j + 1) s | .bk s => D s | .rt r => Rt r) E) (hk : ∀ s, D s → Then (k s) P E) (hr : ∀ r, Rt r → Then (kr r) P E) : Then ((tLoop f xs s0).bind fun z => z.on k kr) P E := by
  refine then_bindI (then_loop I D Rt h0 (fun s hs => hd s (by rwa [Nat.zero_add] at hs)) fun j x s hx hs => ?_) fun z hz => ?_
  · rw [Nat.zero_add] at hs ⊢
    exact h j x s hx hs
  · cases z with
    | nx s => exact hk s hz
    | rt r => exact hr r hz
    | bk _ => exact hz.elim
theorem Fn.eq {fm : List T → R (T × List T)} {ts : List T} {t0 : R β} {F : β → T} {G : β → List T} {a : β} (h : Fn fm ts t0 F G) (k : t0 = .ok a) : fm ts = .ok (F a, G a) := by
  unfold Fn at h
  subst k
  obtain ⟨z, e, ez⟩ := h
  rw [e, ez]
theorem of_then {t : R β} {Q : β → Prop} (h : Then t Q (fun _ => False)) : ∃ a, t = .ok a ∧ Q a := by
  cases t with
  | ok a => exact ⟨a, rfl, h⟩
  | exc c => exact h.elim
  | bad => exact h.elim
end
end L4
namespace Sr
open PySem PySem.Spec PyProof.Rows L2 L3 L4 Sx
@[simp] theorem e_mPop2 {i : Nat} {mp : MLK} {mk md : MP} {ρ : En} : mPop2 i mp mk md ρ = (ofO (mp ρ)).bind fun p => (ofO ((mk ρ).bind T.key)).bind fun k => (ofO (md ρ)).bind fun d => match d with
  | .d x => popO i p k ρ (.ok (.d x, ρ))
  | _ => .bad := (rfl)
@[simp] theorem e_keyI {i : Int} : T.key (.d (.int i)) = some (.inl i) := (rfl)
@[simp] theorem e_mKeySet {i : Nat} {mp : MLK} {mk : MP} {me : MEx} {ρ : En} : mKeySet i mp mk me ρ = (me ρ).bind fun r => (ofO (mp r.2)).bind fun p => (ofO ((mk r.2).bind T.key)).bind fun k => (ofO (atKo p r.2[i]?)).bind fun tc => match tc with
  | .od ks ts => L3.guard (decide (ks.length < sLine)) ((ofO (putAtK i p (.od (putT ks ts k r.1).1 (putT ks ts k r.1).2) r.2)).bind fun ρ' => .ok (.next ρ'))
  | _ => .bad := (rfl)
end Sr
namespace Sr
open PySem PySem.Spec PyProof.Rows L2 L3 L4 Sx
section
variable {f j k : Nat} {ws : List Rat} {t : T} {q : Rat}
theorem kf {i : Nat} {g : Str} {ρ : En} (h0 : ρ[i]? = some (some (shK f ws t))) : kFldC i kHere "Sheet" g ρ = some [.fld g] := kfld (q := []) rfl (by rw [h0]; rfl)
end
theorem keyF {a : Addr} {α : Type} {d : Dc α} {k : Nat} {v : α} {tv : α → T} {p : List PK} (h : dget d k = some v) : T.atK (.key (.inl (k : Int)) :: p) (.fd a (ksOf d) (d.map fun x => tv x.2)) = T.atK p (tv v) := by
  obtain ⟨n, h1, h2, _⟩ := kAt_some' h
  show (kAt (ksOf d) (.inl (k : Int))).bind _ = _
  rw [h1]
  simp only [Option.bind_some, List.getElem?_map, h2]
  rfl
end Sr
namespace Sr
open PySem PySem.Spec PyProof.Rows L2 L3 L4 Sx
section
variable {f k q : Nat} {ws : List Rat} {d : Dc Rw} {a : Addr} {x1 x2 x3 x4 x5 x6 x8 : Option T}
abbrev exE (f : Nat) (ws : List Rat) (d : Dc Rw) (a : Addr) (x1 x2 x3 x4 x5 x6 : Option T) (k : Nat) (x8 : Option T) : En := [some (shK f ws (smF a d)), x1, x2, x3, x4, x5, x6, some (T.d (.int (k : Int))), x8]
theorem ex_at {r : Rw} (h : dget d k = some r) : atKo [.fld "sums", .key (.inl (k : Int))] (exE f ws d a x1 x2 x3 x4 x5 x6 k x8)[0]? = some (rwT r) := by
  show T.atK _ (shK f ws (smF a d)) = _
  rw [atK_sums]
  exact keyF (tv := rwT) (p := []) h
end
end Sr
namespace Sr
open PySem PySem.Spec PyProof.Rows L2 L3 L4 Sx
@[simp] theorem e_mPop1 {i : Nat} {mp : MLK} {mk : MP} {ρ : En} : mPop1 i mp mk ρ = (ofO (mp ρ)).bind fun p => (ofO ((mk ρ).bind T.key)).bind fun k => popO i p k ρ .bad := (rfl)
structure Sz (R D : Nat) (s : Sx.St) : Prop where
  row : ∀ k r, dget s.sums k = some r → ∀ x ∈ r, hq x.2 ≤ R
  wd : ∀ j, dq (s.w j) ≤ D
  wh : ∀ j, hq (s.w j) ≤ 100000
end Sr
namespace Sr
open PySem PySem.Spec PyProof.Rows L2 L3 L4 Sx
end Sr
namespace Sr
open PySem PySem.Spec PyProof.Rows L2 L3 L4 Sx
end Sr
namespace Sr
open PySem PySem.Spec PyProof.Rows L2 L3 L4 Sx
theorem lc_det {γ : Type} {g : MG} {me : MEx} {vs : List Nat} {enc out : γ → T} {W : En} {xs : List γ} (h : ∀ x ∈ xs, ∃ ρ1, g (enc x) W = some ρ1 ∧ me ρ1 = .ok (out x, ρ1) ∧ wipeE ρ1 vs = W) : ∀ {acc : List T} {ρ : En}, acc.length + xs.length ≤ 10000 → wipeE ρ vs = W → ∃ ρ', wipeE ρ' vs = W ∧ mLcLoop g mtYes me vs (xs.map enc) acc ρ = .ok (acc ++ xs.map out, ρ') := by
  induction xs with
  | nil => intro acc ρ _ hw; exact ⟨ρ, hw, by simp⟩
  | cons x xs ih =>
    intro acc ρ hl hw
    obtain ⟨ρ1, e1, e2, e3⟩ := h x List.mem_cons_self
    rw [List.length_cons] at hl
    obtain ⟨ρ', w', e4⟩ := ih (fun y hy => h y (List.mem_cons_of_mem _ hy)) (acc := acc ++ [out x]) (ρ := ρ1) (by simp; omega) e3
    refine ⟨ρ', w', ?_⟩
    rw [List.map_cons, e_lcC, hw, e1, ofO_some, bind_okS]
    show lcL2 g mtYes me vs (xs.map enc) acc (true, ρ1) = _
    rw [e_lcL2, if_pos rfl, decide_eq_true (show acc.length < sLine by unfold sLine; omega), guard_t, e2, bind_okS, e_lcL3, e4, List.map_cons]
    simp
theorem lc_run {γ : Type} {mi : MI} {g : MG} {me : MEx} {vs : List Nat} {enc out : γ → T} {W ρ : En} {xs : List γ} (hi : mi ρ = .ok (xs.map enc, ρ)) (hw : wipeE ρ vs = W) (hl : xs.length ≤ 10000) (h : ∀ x ∈ xs, ∃ ρ1, g (enc x) W = some ρ1 ∧ me ρ1 = .ok (out x, ρ1) ∧ wipeE ρ1 vs = W) : mLc mi g mtYes me vs ρ = .ok (.ol (xs.map out), W) := by
  obtain ⟨ρ', w', e⟩ := lc_det h (acc := []) (ρ := ρ) (by simpa using hl) hw
  rw [e_mLc, hi, bind_okS, e_lcK, e, bind_okS]
  unfold lcK2
  dsimp only
  rw [w', List.nil_append]
theorem rg1_nat {n : Nat} {ρ : En} (h : n ≤ 10000) : rg1 ([T.d (.int (n : Int))], ρ) = .ok ((List.range n).map fun i : Nat => T.d (.int (i : Int)), ρ) := by
  have sm : small62 (n : Int) = true := by unfold small62; exact decide_eq_true (by omega)
  rw [e_rg1, sm, guard_t]
  unfold rangeItems
  have e : ((n : Int) - 0).toNat = n := by omega
  have e2 : ((List.range n).map fun i : Nat => T.d (.int ((0 : Int) + (i : Nat)))) = (List.range n).map fun i : Nat => T.d (.int (i : Int)) := List.map_congr_left fun i _ => by rw [Int.zero_add]
  rw [e, e2]
section
variable {d : Dc Rw} {p k : Nat} {r : Rw} {t n : T}
end
end Sr
namespace Sr
open PySem PySem.Spec PyProof.Rows L2 L3 L4 Sx
section
variable {f k : Nat} {ws : List Rat} {d : Dc Rw} {rows : List (List Rat × Rat)} {b : List Rat} {at' : Rat} {x3 x4 x5 x6 : Option T} {R : T}
abbrev inE (f : Nat) (R : T) (ws : List Rat) (d : Dc Rw) (x3 x4 x5 x6 : Option T) : En := [some (shK f ws (smT d)), some R, some (T.d (.int (f : Int))), x3, x4, x5, x6]
end
end Sr
namespace Sr
open PySem PySem.Spec PyProof.Rows L2 L3 L4 Sx
end Sr
namespace Sr
open PySem PySem.Spec PyProof.Rows L2 L3 L4 Sx
section
variable {rows : List (List Rat × Rat)} {f : Nat} {s : Sx.St}
theorem dotD_hq {z : Nat → Rat} {k c : Nat} (hz : ∀ j, hq (z j) ≤ c) : ∀ {r : Rw}, (∀ x ∈ r, hq x.2 ≤ k) → hq (dotD r z) ≤ r.length * (k + c + 1) + 1
  | [], _ => by
    have := hq_zero
    show hq 0 ≤ _
    omega
  | x :: r, h => by
    have h1 := h x List.mem_cons_self
    have ih := dotD_hq (k := k) hz (r := r) fun y hy => h y (List.mem_cons_of_mem _ hy)
    have e : dotD (x :: r) z = x.2 * z x.1 + dotD r z := rfl
    rw [e, List.length_cons, Nat.succ_mul]
    have m := hq_mul x.2 (z x.1)
    have a := hq_add (x.2 * z x.1) (dotD r z)
    have := hz x.1
    omega
theorem Yp_hq {c : Nat} (hc : 1 ≤ c) (hs : ∀ r ∈ rows, hq r.2 ≤ c) (j : Nat) : hq (Yp rows f (fun _ => 0) j) ≤ c := by
  have z := hq_zero
  unfold Yp
  split
  · show hq 0 ≤ c
    omega
  · split
    · rename_i h
      rw [dotF_zero]
      have e : (0 : Rat) + (rows[j - f]'h).2 = (rows[j - f]'h).2 := by grind
      rw [e]
      exact hs _ (List.getElem_mem h)
    · omega
theorem row_len (I : Inv rows f s) {p : Nat} {r : Rw} (hp : dget s.sums p = some r) : r.length ≤ f := by
  have rk := I.sh.rk p r hp
  have := nodup_sub_len (l := keys r) (m := nbs (f + rows.length) s) rk.nd fun x hx => by
    obtain ⟨h1, h2⟩ := rk.ks x hx
    unfold nbs
    exact List.mem_filter.mpr ⟨List.mem_range.mpr h1, decide_eq_true h2⟩
  rw [nbs_len I] at this
  simpa [keys] using this
theorem Inv.w_hq (I : Inv rows f s) (hl : ∀ r ∈ rows, r.1.length = f) (hf : f ≤ 3) {a c : Nat} (ha : 1 ≤ a) (hc : 1 ≤ c) (hs : ∀ r ∈ rows, ∀ x ∈ r.1, hq x ≤ a) (hs2 : ∀ r ∈ rows, hq r.2 ≤ c) (j : Nat) : hq (s.w j) ≤ 36 * a + 4 * c + 35 := by
  by_cases hj : j ∈ keys s.sums
  · rw [I.worth hl hj]
    have g := row_get hj
    have rl := row_len I g
    have e := dotD_hq (r := s.row j) (z := Yp rows f fun _ => 0) (k := 12 * a + 10) (c := c) (Yp_hq hc hs2) (I.entry_hq hl hf ha hs g)
    have y := Yp_hq (f := f) hc hs2 j
    have sb := hq_sub (Yp rows f (fun _ => 0) j) (dotD (s.row j) (Yp rows f fun _ => 0))
    have : (s.row j).length * (12 * a + 10 + c + 1) ≤ 3 * (12 * a + 10 + c + 1) := Nat.mul_le_mul_right _ (by omega)
    omega
  · rw [I.sh.zero j hj]
    have := hq_zero
    omega
theorem dq_whole {n : Int} : dq (n : Rat) = 1 := by
  unfold dq
  rw [Rat.den_intCast]
  decide
theorem dotD_G {z : Nat → Rat} {c : Nat} {G : Int} (hG : G ≠ 0) (hz : ∀ j, dq (z j) ≤ c) : ∀ {r : Rw}, (∀ x ∈ r, ∃ y : Int, x.2 = (y : Rat) / (G : Rat)) → ∃ t : Rat, dotD r z = t / (G : Rat) ∧ dq t ≤ r.length * (c + 1) + 1
  | [], _ => ⟨0, by
      show (0 : Rat) = 0 / _
      rw [Rat.div_def, Rat.zero_mul], by
      have := dq_zero
      omega⟩
  | x :: r, h => by
    obtain ⟨t, e, d⟩ := dotD_G hG hz (r := r) fun y hy => h y (List.mem_cons_of_mem _ hy)
    obtain ⟨y, ey⟩ := h x List.mem_cons_self
    refine ⟨(y : Rat) * z x.1 + t, ?_, ?_⟩
    · have e2 : dotD (x :: r) z = x.2 * z x.1 + dotD r z := rfl
      rw [e2, e, ey, Rat.div_def, Rat.div_def, Rat.div_def]; grind
    · rw [List.length_cons, Nat.succ_mul]
      have a := dq_add ((y : Rat) * z x.1) t
      have m := dq_mul (y : Rat) (z x.1)
      rw [dq_whole] at m
      have := hz x.1
      omega
theorem Yp_dq {c : Nat} (hc : 1 ≤ c) (hs : ∀ r ∈ rows, dq r.2 ≤ c) (j : Nat) : dq (Yp rows f (fun _ => 0) j) ≤ c := by
  have z := dq_zero
  unfold Yp
  split
  · show dq 0 ≤ c
    omega
  · split
    · rename_i h
      rw [dotF_zero]
      have e : (0 : Rat) + (rows[j - f]'h).2 = (rows[j - f]'h).2 := by grind
      rw [e]
      exact hs _ (List.getElem_mem h)
    · omega
theorem Inv.w_dq (I : Inv rows f s) (hl : ∀ r ∈ rows, r.1.length = f) (hf : f ≤ 3) {a c : Nat} (ha : 1 ≤ a) (hc : 1 ≤ c) (hs : ∀ r ∈ rows, ∀ x ∈ r.1, hq x ≤ a) (hs2 : ∀ r ∈ rows, dq r.2 ≤ c) (j : Nat) : dq (s.w j) ≤ 12 * a + (3 * c + dq (Yp rows f (fun _ => 0) j)) + 8 := by
  by_cases hj : j ∈ keys s.sums
  · rw [I.worth hl hj]
    have g := row_get hj
    have rl := row_len I g
    have rk := I.sh.rk _ _ g
    obtain ⟨G, nG, bG, h⟩ := I.bottom hl hf ha hs hj
    obtain ⟨t, et, dt⟩ := dotD_G (z := Yp rows f fun _ => 0) nG (Yp_dq hc hs2) (r := s.row j) fun x hx => by
      obtain ⟨y, _, e⟩ := h x.1 (List.mem_map.mpr ⟨_, hx, rfl⟩)
      rw [rowv_mem rk.nd (v := x.2) hx] at e
      exact ⟨y, e⟩
    have dv := dq_div t (G : Rat)
    rw [Rat.num_intCast] at dv
    rw [et]
    have sb := dq_sub (Yp rows f (fun _ => 0) j) (t / (G : Rat))
    have : (s.row j).length * (c + 1) ≤ 3 * (c + 1) := Nat.mul_le_mul_right _ (by omega)
    omega
  · rw [I.sh.zero j hj]
    have := dq_zero
    omega
theorem Inv.w_dq4 (I : Inv rows f s) (hl : ∀ r ∈ rows, r.1.length = f) (hf : f ≤ 3) {a c : Nat} (ha : 1 ≤ a) (hc : 1 ≤ c) (hs : ∀ r ∈ rows, ∀ x ∈ r.1, hq x ≤ a) (hs2 : ∀ r ∈ rows, dq r.2 ≤ c) (j : Nat) : dq (s.w j) ≤ 12 * a + 4 * c + 35 := by
  have := Inv.w_dq I hl hf ha hc hs hs2 j
  have := Yp_dq (f := f) hc hs2 j
  omega
theorem Inv.sz (I : Inv rows f s) (hl : ∀ r ∈ rows, r.1.length = f) (hf : f ≤ 3) {a c e : Nat} (ha : 1 ≤ a) (hc : 1 ≤ c) (he : 1 ≤ e) (hs : ∀ r ∈ rows, ∀ x ∈ r.1, hq x ≤ a) (hs2 : ∀ r ∈ rows, hq r.2 ≤ c) (hs3 : ∀ r ∈ rows, dq r.2 ≤ e) (hb : 6 * a + e ≤ 1110) (hc2 : c ≤ 20000) : Sz (12 * a + 10) (12 * a + 4 * e + 35) s := by
  have key : ∀ j, hq (s.w j) ≤ 36 * a + 4 * c + 35 := Inv.w_hq I hl hf ha hc hs hs2
  exact ⟨fun k r h => I.entry_hq hl hf ha hs h, fun j => Inv.w_dq4 I hl hf ha he hs hs3 j, fun j => Nat.le_trans (key j) (by omega)⟩
theorem Walk.snoc {n : Nat} {st : Nat → Sx.St} {p q : Nat → Nat} (W : Walk rows f n st p q) {s' : Sx.St} {a b : Nat} (h : Step f (st n) s' a b) : ∃ st' p' q', Walk rows f (n + 1) st' p' q' ∧ st' (n + 1) = s' := by
  refine ⟨fun j => if j ≤ n then st j else s', fun j => if j < n then p j else a, fun j => if j < n then q j else b, ⟨?_, fun i hi => ?_⟩, ?_⟩
  · show Inv rows f (if 0 ≤ n then st 0 else s')
    rw [if_pos (Nat.zero_le _)]
    exact W.inv
  · show Step f (if i ≤ n then st i else s') (if i + 1 ≤ n then st (i + 1) else s') (if i < n then p i else a) (if i < n then q i else b)
    by_cases hn : i < n
    · rw [if_pos (by omega), if_pos (by omega), if_pos hn, if_pos hn]
      exact W.step i hn
    · have : i = n := by omega
      subst this
      rw [if_pos (by omega), if_neg (by omega), if_neg hn, if_neg hn]
      exact h
  · show (if n + 1 ≤ n then st (n + 1) else s') = s'
    rw [if_neg (by omega)]
end
end Sr
namespace Sr
open PySem PySem.Spec PyProof.Rows L2 L3 L4 Sx
section
variable {P M Rs : T} {f n : Nat} {s : Sx.St} {x4 x5 x6 : Option T}
end
end Sr
namespace Sr
open PySem PySem.Spec PyProof.Rows L2 L3 L4 Sx
inductive Told where
  | choice (xs : List Rat)
  | bars (ws : List Rat)
def Told.name : Told → Str
  | .choice _ => "choice"
  | .bars _ => "bars"
def Told.nums : Told → List Rat
  | .choice xs => xs
  | .bars ws => ws
def Told.t (o : Told) : T := .ot [T.d (.str o.name), .ol (o.nums.map tvD)]
section
variable {f : Nat} {s : Sx.St} {P M Rs : T} {y4 y5 y6 : Option T}
end
end Sr
namespace L4
open PySem PySem.Spec PyProof.Rows L2 L3
section
variable {β γ δ : Type}
structure Inj (e : β → PyData) : Prop where
  inj : ∀ a b, e a = e b → a = b
theorem Nice.i {e : β → PyData} {k : Nat} (h : Nice e k) : Inj e := ⟨h.inj⟩
theorem Inj.map {e : β → PyData} (h : Inj e) : ∀ (a b : List β), a.map e = b.map e → a = b
  | [], [], _ => rfl
  | [], _ :: _, z => by simp at z
  | _ :: _, [], z => by simp at z
  | x :: a, y :: b, z => by
    simp at z
    rw [h.inj _ _ z.1, Inj.map h a b z.2]
theorem Inj.list {e : β → PyData} (h : Inj e) : Inj (eL e) := ⟨fun a b z => by
  have z : PyData.list (a.map e) = .list (b.map e) := z
  injection z with z
  exact h.map a b z⟩
theorem Inj.t2 {e : β → PyData} {f : γ → PyData} (h : Inj e) (k : Inj f) : Inj (eT2 e f) := ⟨fun a b z => by
  obtain ⟨a1, a2⟩ := a
  obtain ⟨b1, b2⟩ := b
  have z : PyData.tuple [e a1, f a2] = .tuple [e b1, f b2] := z
  injection z with z
  simp at z
  rw [h.inj _ _ z.1, k.inj _ _ z.2]⟩
theorem Inj.t3 {e : β → PyData} {f : γ → PyData} {g : δ → PyData} (h : Inj e) (k : Inj f) (l : Inj g) : Inj (eT3 e f g) := ⟨fun a b z => by
  obtain ⟨a1, a2, a3⟩ := a
  obtain ⟨b1, b2, b3⟩ := b
  have z : PyData.tuple [e a1, f a2, g a3] = .tuple [e b1, f b2, g b3] := z
  injection z with z
  simp at z
  rw [h.inj _ _ z.1, k.inj _ _ z.2.1, l.inj _ _ z.2.2]⟩
end
section
variable {X Y α β γ δ : Type} {p : Pt} {t t2 : R α} {Rel : α → Y → Prop} {K : T → Env → R Y} {KB : Bool → Env → R Y} {i : Nat}
end
end L4
namespace L4
open PySem PySem.Spec PyProof.Rows L2 L3
abbrev RowQ := List Rat × List Rat × Rat
abbrev RuleQ := List (List RowQ × List RowQ) × List RowQ
abbrev Ans := RuleQ ⊕ (List Rat × List Rat)
noncomputable abbrev eRuQ : RuleQ → PyData := eT2 (eL (eT2 (eL (eT3 (eL fr) (eL fr) fr)) (eL (eT3 (eL fr) (eL fr) fr)))) (eL (eT3 (eL fr) (eL fr) fr))
noncomputable def eA : Ans → PyData
  | .inl r => .tuple [.str "always", eRuQ r]
  | .inr p => .tuple [.str "never", eL fr p.1, eL fr p.2]
instance decAns : DecidableEq Ans := inferInstance
section
variable {α : Type}
def tLow (a b : Int) : R Rat := tOp (decide (0 < b ∧ Int.gcd a b = 1)) (Rat.divInt a b)
end
section
variable {Y α β : Type} {p : Pt} {t : R α} {Rel : α → Y → Prop} {K : T → Env → R Y}
end
end L4
namespace Sr
open PySem PySem.Spec PyProof.Rows L2 L3 L4
abbrev PlanR := List (Rat × Rat) × List (Rat × Rat) × List (List Rat × List Rat × Rat)
end Sr
namespace Sr
open PySem PySem.Spec PyProof.Rows L2 L3 L4
@[irreducible] noncomputable def t_is_plain (row1 : ((List Rat) × (List Rat) × Rat)) : R Bool :=
  (tCat row1.1 row1.2.1).bind fun v2 => (tLoop (fun (s3 : Unit) x4 => (if ¬ x4 = (0 : Rat) then .ok (.rt false) else .ok (.nx ()) : R (Fl Unit Bool))) v2 ()).bind fun f => f.on (fun s5 => (show R Bool from (rLt row1.2.2 (0 : Rat)).nx.bind fun r7 => .ok (!r7)).bind fun b6 => .ok b6) (fun r8 => .ok r8)
@[irreducible] noncomputable def t_put_on (rows1 : (List ((List Rat) × (List Rat) × Rat))) (row2 : ((List Rat) × (List Rat) × Rat)) : R (Unit × (List ((List Rat) × (List Rat) × Rat))) :=
  (show R Bool from (t_is_plain row2).nx.bind fun r4 => if (!r4) = true then .ok (!decide (row2 ∈ rows1)) else .ok false).bind fun b3 => if b3 = true then (tApp rows1 row2).bind fun rows5 => .ok ((), rows5) else .ok ((), rows1)
@[irreducible] noncomputable def t_bound_row (plan1 : ((List (Rat × Rat)) × (List (Rat × Rat)) × (List ((List Rat) × (List Rat) × Rat)))) (k2 : Int) (sign3 : Rat) (c4 : Rat) : R ((List Rat) × (List Rat) × Rat) :=
  (tMapG (fun x5 => (.ok (0 : Rat) : R Rat)) plan1.2.1).bind fun r6 => (tSet r6 k2 sign3).bind fun b7 => (tMapG (fun x8 => (.ok (0 : Rat) : R Rat)) plan1.1).bind fun r9 => .ok (r9, b7, c4)
@[irreducible] noncomputable def t_first_rows (plan1 : ((List (Rat × Rat)) × (List (Rat × Rat)) × (List ((List Rat) × (List Rat) × Rat)))) : R (List ((List Rat) × (List Rat) × Rat)) :=
  (tFold (fun (s2 : (List ((List Rat) × (List Rat) × Rat))) x3 => ((t_put_on s2 (x3.1, x3.2.1, x3.2.2)).nx.bind fun r4 => .ok (r4.2) : R (List ((List Rat) × (List Rat) × Rat)))) plan1.2.2 (([] : (List ((List Rat) × (List Rat) × Rat))))).bind fun s5 => (tFold (fun (s6 : (List ((List Rat) × (List Rat) × Rat))) x7 => ((rSub (0 : Rat) x7.2.1).nx.bind fun r8 => (t_bound_row plan1 x7.1 (1 : Rat) r8).nx.bind fun r9 => (t_put_on s6 r9).nx.bind fun r10 => (t_bound_row plan1 x7.1 (-1 : Rat) x7.2.2).nx.bind fun r11 => (t_put_on r10.2 r11).nx.bind fun r12 => .ok (r12.2) : R (List ((List Rat) × (List Rat) × Rat)))) (enumL plan1.2.1) (s5)).bind fun s13 => .ok s13
@[irreducible] noncomputable def t_mixed (ones1 : (List Rat)) (many2 : Rat) (others3 : (List Rat)) (more4 : Rat) : R (List Rat) :=
  (tMapG (fun x5 => ((rMul x5.1 many2).nx.bind fun r6 => (rMul x5.2 more4).nx.bind fun r7 => (rAdd r6 r7).nx.bind fun r8 => .ok r8 : R Rat)) (ones1.zip others3)).bind fun r9 => .ok r9
@[irreducible] noncomputable def t_taken_together (low1 : ((List Rat) × (List Rat) × Rat)) (high2 : ((List Rat) × (List Rat) × Rat)) (k3 : Int) : R ((List Rat) × (List Rat) × Rat) :=
  (tIdx high2.2.1 k3).bind fun x4 => (rSub (0 : Rat) x4).nx.bind fun r5 => (tIdx low1.2.1 k3).bind fun x6 => (rMul low1.2.2 r5).nx.bind fun r7 => (rMul high2.2.2 x6).nx.bind fun r8 => (rAdd r7 r8).nx.bind fun r9 => (t_mixed low1.1 r5 high2.1 x6).nx.bind fun r10 => (t_mixed low1.2.1 r5 high2.2.1 x6).nx.bind fun r11 => .ok (r10, r11, r9)
@[irreducible] noncomputable def t_taken_out (rows1 : (List ((List Rat) × (List Rat) × Rat))) (k2 : Int) : R ((List ((List Rat) × (List Rat) × Rat)) × (List ((List Rat) × (List Rat) × Rat)) × (List ((List Rat) × (List Rat) × Rat))) :=
  (tFmG (fun x3 => ((tIdx x3.2.1 k2).bind fun x4 => (rLt (0 : Rat) x4).nx.bind fun r5 => if r5 = true then .ok (some x3) else .ok none : R (Option ((List Rat) × (List Rat) × Rat)))) rows1).bind fun r6 => (tFmG (fun x7 => ((tIdx x7.2.1 k2).bind fun x8 => (rLt x8 (0 : Rat)).nx.bind fun r9 => if r9 = true then .ok (some x7) else .ok none : R (Option ((List Rat) × (List Rat) × Rat)))) rows1).bind fun r10 => (tFmG (fun x11 => ((tIdx x11.2.1 k2).bind fun x12 => if x12 = (0 : Rat) then .ok (some x11) else .ok none : R (Option ((List Rat) × (List Rat) × Rat)))) rows1).bind fun r13 => (tFold (fun (s14 : (List ((List Rat) × (List Rat) × Rat))) x15 => ((tFold (fun (s16 : (List ((List Rat) × (List Rat) × Rat))) x17 => ((t_taken_together x15 x17 k2).nx.bind fun r18 => (t_put_on s16 r18).nx.bind fun r19 => .ok (r19.2) : R (List ((List Rat) × (List Rat) × Rat)))) r10 (s14)).bind fun s20 => .ok (s20) : R (List ((List Rat) × (List Rat) × Rat)))) r6 (r13)).bind fun s21 => .ok (r6, r10, s21)
@[irreducible] noncomputable def t_rule_of (plan1 : ((List (Rat × Rat)) × (List (Rat × Rat)) × (List ((List Rat) × (List Rat) × Rat)))) : R ((List ((List ((List Rat) × (List Rat) × Rat)) × (List ((List Rat) × (List Rat) × Rat)))) × (List ((List Rat) × (List Rat) × Rat))) :=
  (t_first_rows plan1).nx.bind fun r2 => (tDown ((tLen plan1.2.1) - (1 : Int)) (-(1 : Int))).bind fun ks3 => (tFold (fun (s4 : ((List ((List Rat) × (List Rat) × Rat)) × (List ((List ((List Rat) × (List Rat) × Rat)) × (List ((List Rat) × (List Rat) × Rat)))))) x5 => ((t_taken_out s4.1 x5).nx.bind fun r6 => (tIns s4.2 (0 : Int) (r6.1, r6.2.1)).bind fun steps7 => .ok (r6.2.2, steps7) : R ((List ((List Rat) × (List Rat) × Rat)) × (List ((List ((List Rat) × (List Rat) × Rat)) × (List ((List Rat) × (List Rat) × Rat))))))) ks3 (r2, ([] : (List ((List ((List Rat) × (List Rat) × Rat)) × (List ((List Rat) × (List Rat) × Rat))))))).bind fun s8 => .ok (s8.2, s8.1)
end Sr
namespace Sr
open PySem PySem.Spec PyProof.Rows L2 L3 L4
@[irreducible] noncomputable def t__law_cell_at (script1 : (List Int)) (k2 : Int) : R Int :=
  if k2 < (tLen script1) then (tIdx script1 k2).bind fun x3 => .ok x3 else .ok (0 : Int)
theorem fn_t__law_cell_at {script1 : (List Int)} {k2 : Int} : Fn m__law_cell_at [(fun xs : List Int => T.rd (xs.map PyData.int)) script1, (dE eI) k2] (t__law_cell_at script1 k2) (fun a : Int => (dE eI) a) (fun a => []) := by
  unfold m__law_cell_at t__law_cell_at
  exact fn_j (p := [some ((fun xs : List Int => T.rd (xs.map PyData.int)) script1), some ((dE eI) k2)]) rfl (s_seq (s_if (t_test (x_lift (p_bin (p_var rfl (p_callB (z_cons (p_var rfl (z_nil (v_ok len_r (v_ok rfl (x_onlyD (t_onB (g_ite (by first | rfl | simp) (fun _ => s_ret (x_lift (p_bin (p_var rfl (p_var rfl (v_r ro_idxR fun x3 => x_onlyD (r_seq (f_ret (a := x3) (F := (fun a : Int => (dE eI) a)) (G := (fun a : Int => [])) rfl (by rfl) (by rfl))))))))) (fun _ => s_next (n_seq (s_ret (x_lift (p_c (x_onlyD (f_ret (a := (0 : Int)) (F := (fun a : Int => (dE eI) a)) (G := (fun a : Int => [])) rfl (by rfl) (by rfl)))))))))))))))))))))))
end Sr
namespace Sr
open PySem PySem.Spec PyProof.Rows L2 L3 L4
end Sr
namespace Sr
open PySem PySem.Spec PyProof.Rows L2 L3 L4
end Sr
namespace Sr
open PySem PySem.Spec PyProof.Rows L2 L3 L4
end Sr
namespace Sr
open PySem PySem.Spec PyProof.Rows L2 L3
local macro_rules | `(tactic| none_booked) => `(tactic| (with_reducible refine draw_step (by assumption) (by first | decide | omega) (by first | decide | omega) fun _ _ _ _ _ _ => ?_))
local macro_rules | `(tactic| none_booked) => `(tactic| (with_reducible refine idx2 (by omega) (by omega) fun _ _ => ?_))
local macro_rules | `(tactic| none_booked) => `(tactic| (with_reducible refine idx3 (by omega) (by omega) fun _ _ => ?_))
local macro_rules | `(tactic| none_booked) => `(tactic| (with_reducible refine idx4 (by omega) (by omega) fun _ _ => ?_))
def IntB (n : Int) (r : T × List T) : Prop := ∃ v d', r = (.d (.int v), [d']) ∧ -n < v ∧ v < n ∧ Deck d'
theorem far_spec {d : T} {E : Str → Prop} (hd : Deck d) : Then (m__law_far [d]) (IntB (10 ^ 36)) E := by
  unfold m__law_far
  simp [small62, range3]
  repeat (none_booked; try simp [*])
  rename_i h
  rcases h with h | h <;> subst h
  · simp
    exact ⟨_, _, rfl, by omega, by omega, by assumption⟩
  · simp
    exact ⟨_, _, rfl, by omega, by omega, by assumption⟩
theorem ldivisor_eq (a b : Int) : m__law_divisor [.d (.int a), .d (.int b)] = .ok (.d (.int (Int.gcd a b : Nat)), []) := by
  unfold m__law_divisor
  obtain ⟨g, e, eg⟩ := div_loop (mt := mTest (mLift (pBin opNe (pVar 1) (pC (.int 0))))) (mb := mPar 0 1 (mCons (mVar 1) (mCons (mLift (pBin opMod (pVar 0) (pVar 1))) (mNil)))) (fun a b => by simp) (fun a b h => by simp [h]) b.natAbs a b (Nat.le_refl _)
  simp [e, eg]
theorem llow_eq {t b : Int} (hb : b ≠ 0) (hs : ib b ≤ 9000) : m__law_low [.d (.int t), .d (.int b)] = .ok (.d (fr (Rat.divInt t b)), []) := by
  have hd1 : divOk t (lowM t b) = true := divOk_ib (lowM_ne hb) (Nat.le_trans (lowM_ib hb) hs)
  have hd2 : divOk b (lowM t b) = true := divOk_ib (lowM_ne hb) (Nat.le_trans (lowM_ib hb) hs)
  have e := fr_low (t := t) hb
  unfold m__law_low
  unfold lowM at hd1 hd2 e
  by_cases h : b < 0
  · rw [if_pos h] at hd1 hd2 e
    simp [hb, ldivisor_eq, h] at hd1 hd2 e ⊢
    simp [hd1, hd2, e]
  · rw [if_neg h] at hd1 hd2 e
    simp [hb, ldivisor_eq, h, hd1, hd2, e]
theorem far_step {d : T} {α : Type} {f : T × List T → R α} {P : α → Prop} {E : Str → Prop} (hd : Deck d) (k : ∀ v d', -(10 ^ 36) < v → v < 10 ^ 36 → Deck d' → Then (f (.d (.int v), [d'])) P E) : Then ((m__law_far [d]).nx.bind f) P E := by
  refine then_bindI (then_nx (far_spec hd)) ?_
  rintro _ ⟨v, d', rfl, h0, h1, hd'⟩
  exact k v d' h0 h1 hd'
local macro_rules | `(tactic| none_booked) => `(tactic| (with_reducible refine far_step (by assumption) fun _ _ _ _ _ => ?_))
theorem whole_spec {d : T} {E : Str → Prop} (hd : Deck d) : Then (m__law_whole [d]) (IntB (10 ^ 40)) E := by
  unfold m__law_whole
  simp
  repeat (none_booked; try simp [*])
  exact ⟨_, _, rfl, by omega, by omega, by assumption⟩
theorem whole_step {d : T} {α : Type} {f : T × List T → R α} {P : α → Prop} {E : Str → Prop} (hd : Deck d) (k : ∀ v d', -(10 ^ 40) < v → v < 10 ^ 40 → Deck d' → Then (f (.d (.int v), [d'])) P E) : Then ((m__law_whole [d]).nx.bind f) P E := by
  refine then_bindI (then_nx (whole_spec hd)) ?_
  rintro _ ⟨v, d', rfl, h0, h1, hd'⟩
  exact k v d' h0 h1 hd'
local macro_rules | `(tactic| none_booked) => `(tactic| (with_reducible refine whole_step (by assumption) fun _ _ _ _ _ => ?_))
theorem low_step {t b : Int} {α : Type} {f : T × List T → R α} {P : α → Prop} {E : Str → Prop} (h0 : 0 < b) (h1 : b < 10 ^ 42) (h2 : -(10 ^ 42) < t) (h3 : t < 10 ^ 42) (k : ∀ q, hq q ≤ 140 → Then (f (.d (fr q), [])) P E) : Then ((m__law_low [.d (.int t), .d (.int b)]).nx.bind f) P E := by
  have e1 : ib t ≤ 140 := ib_le.mpr (by omega)
  have e2 : ib b ≤ 140 := ib_le.mpr (by omega)
  rw [llow_eq (by omega) (by omega)]
  exact k _ (hq_divInt e1 e2 (by omega))
local macro_rules | `(tactic| none_booked) => `(tactic| (with_reducible refine low_step (by omega) (by omega) (by omega) (by omega) fun _ _ => ?_))
def FrB (n : Nat) (r : T × List T) : Prop := ∃ q d', r = (.d (fr q), [d']) ∧ hq q ≤ n ∧ Deck d'
theorem fraction_spec {d : T} {E : Str → Prop} (hd : Deck d) : Then (m__law_fraction [d]) (FrB 140) E := by
  unfold m__law_fraction
  simp
  none_booked; try simp [*]
  none_booked; try simp [*]
  none_booked
  simp
  with_reducible refine idx2 (by split <;> omega) (by split <;> omega) fun _ _ => ?_
  repeat (none_booked; try simp [*])
  exact ⟨_, _, rfl, by assumption, by assumption⟩
theorem fraction_step {d : T} {α : Type} {f : T × List T → R α} {P : α → Prop} {E : Str → Prop} (hd : Deck d) (k : ∀ q d', hq q ≤ 140 → Deck d' → Then (f (.d (fr q), [d'])) P E) : Then ((m__law_fraction [d]).nx.bind f) P E := by
  refine then_bindI (then_nx (fraction_spec hd)) ?_
  rintro _ ⟨v, d', rfl, h0, hd'⟩
  exact k v d' h0 hd'
local macro_rules | `(tactic| none_booked) => `(tactic| (with_reducible refine fraction_step (by assumption) fun _ _ _ _ => ?_))
end Sr
namespace Sr
open PySem PySem.Spec PyProof.Rows L2 L3
abbrev Bd := Rat × Rat
def bdD (p : Bd) : PyData := .tuple [fr p.1, fr p.2]
def bdsD (ps : List Bd) : PyData := .list (ps.map bdD)
inductive Dem where
  | full (a b : List Rat) (c : Rat)
  | two (a b : List Rat)
def demD : Dem → PyData
  | .full a b c => .tuple [frs a, frs b, fr c]
  | .two a b => .tuple [frs a, frs b]
def Dem.few : Dem → Prop
  | .full a b _ => a.length ≤ 10000 ∧ b.length ≤ 10000
  | .two a b => a.length ≤ 10000 ∧ b.length ≤ 10000
def demsD (ds : List Dem) : PyData := .list (ds.map demD)
theorem plk_fr {q : Rat} {n : Nat} : plk (n + 1) (fr q) = true := by simp [fr_def, plk, plkAll]
theorem plk_frsN {qs : List Rat} {n : Nat} : plk (n + 2) (frs qs) = true := by
  show plk (n + 2) (.list _) = true
  simp only [plk]
  exact plkAll_map fun q _ => plk_fr
theorem plk_bdsD {ps : List Bd} {n : Nat} : plk (n + 3) (bdsD ps) = true := by
  simp only [bdsD, plk]
  exact plkAll_map fun p _ => by simp [bdD, plk, plkAll, plk_fr]
theorem plk_demD {d : Dem} {n : Nat} : plk (n + 3) (demD d) = true := by
  cases d <;> simp [demD, plk, plkAll, plk_frsN, plk_fr]
theorem plk_demsD {ds : List Dem} {n : Nat} : plk (n + 4) (demsD ds) = true := by
  simp only [demsD, plk]
  exact plkAll_map fun p _ => plk_demD
@[simp] theorem pl_bdsD {ps : List Bd} : pl (bdsD ps) := plk_bdsD
@[simp] theorem pl_demsD {ps : List Dem} : pl (demsD ps) := plk_demsD
@[simp] theorem pl_demD {d : Dem} : pl (demD d) := plk_demD
end Sr
namespace Sr
open PySem PySem.Spec PyProof.Rows L2 L3 L4
end Sr
namespace Sr
open PySem PySem.Spec PyProof.Rows L2 L3 L4
end Sr
namespace Sr
open PySem PySem.Spec PyProof.Rows L2 L3
def Pool (n : Int) (p : T) : Prop := ∃ a b k, p = .ol [.d (.int a), .d (.int b), .d (.int k)] ∧ 0 ≤ k ∧ k < n
@[simp] theorem e_fr0 {q : Rat} : opIdx (.d (fr q)) (.d (.int 0)) = .ok (.v (.d (.int q.num))) := (rfl)
@[simp] theorem e_fr1 {q : Rat} : opIdx (.d (fr q)) (.d (.int 1)) = .ok (.v (.d (.int q.den))) := (rfl)
abbrev Pin := Rat × Rat × Rat
def PinB (m : Nat) (p : Pin) : Prop := hq p.1 ≤ m ∧ hq p.2.1 ≤ m ∧ hq p.2.2 ≤ m
structure Pins (m : Nat) (ps : List Pin) (lo hi : Rat) (os : List Rat) : Prop where
  len : ps.length = os.length
  pos : 0 < ps.length
  few : ps.length ≤ 4
  pin : ∀ p ∈ ps, PinB m p
  lo : hq lo ≤ m
  hi : hq hi ≤ m
  off : ∀ q ∈ os, hq q ≤ m
theorem Pool.mono {n m : Int} {p : T} (h : Pool n p) (k : n ≤ m) : Pool m p := let ⟨a, b, k', e, h0, h1⟩ := h; ⟨a, b, k', e, h0, by omega⟩
theorem Pins.mono {m k : Nat} {ps : List Pin} {lo hi : Rat} {os : List Rat} (h : Pins m ps lo hi os) (l : m ≤ k) : Pins k ps lo hi os :=
  ⟨h.len, h.pos, h.few, fun p hp => let ⟨a, b, c⟩ := h.pin p hp; ⟨by omega, by omega, by omega⟩, Nat.le_trans h.lo l, Nat.le_trans h.hi l, fun q hq => Nat.le_trans (h.off q hq) l⟩
def sc (u : Rat) (p : Pin) : Pin := (p.1 * u, p.2.1 * u, p.2.2 * u)
end Sr
namespace Sr
open PySem PySem.Spec PyProof.Rows L2 L3
section
variable {ps : List Pin} {lo hi : Rat} {os : List Rat}
end
def Fst (p : Nat → Nat → Prop) (n i j : Nat) : Prop := i ≤ j ∧ j < n ∧ p i j ∧ ∀ i' j', i' ≤ j' → j' < n → (i' < i ∨ i' = i ∧ j' < j) → ¬ p i' j'
def NoneF (p : Nat → Nat → Prop) (n i k : Nat) : Prop := ∀ i' j, i' ≤ j → j < n → (i' < i ∨ i' = i ∧ j < k) → ¬ p i' j
def IsFirst (p : Nat → Nat → Prop) (n : Nat) (r : T × List T) : Prop := (r = (.d .none, []) ∧ NoneF p n n 0) ∨ ∃ i j : Nat, r = (.d (.tuple [.int (i : Int), .int (j : Int)]), []) ∧ Fst p n i j
theorem IsFirst.uniq {p : Nat → Nat → Prop} {n : Nat} {r s : T × List T} (h1 : IsFirst p n r) (h2 : IsFirst p n s) : r = s := by
  rcases h1 with ⟨e1, n1⟩ | ⟨i, j, e1, a1, a2, a3, a4⟩
  · rcases h2 with ⟨e2, n2⟩ | ⟨i', j', e2, b1, b2, b3, b4⟩
    · rw [e1, e2]
    · exact (n1 i' j' b1 b2 (.inl (by omega)) b3).elim
  · rcases h2 with ⟨e2, n2⟩ | ⟨i', j', e2, b1, b2, b3, b4⟩
    · exact (n2 i j a1 a2 (.inl (by omega)) a3).elim
    · have : i = i' ∧ j = j' := by
        have h1 : ¬ (i < i' ∨ i = i' ∧ j < j') := fun z => b4 i j a1 a2 z a3
        have h2 : ¬ (i' < i ∨ i' = i ∧ j' < j) := fun z => a4 i' j' b1 b2 z b3
        omega
      rw [e1, e2, this.1, this.2]
section
variable {ps : List Pin} {lo hi : Rat} {os : List Rat}
end
@[simp] theorem kit_tb : kitB "tuple" "bool" = some false := by decide
end Sr
namespace Sr
open PySem PySem.Spec PyProof.Rows L2 L3 L4
abbrev PoolR := Int × Int × Int
abbrev fPool : PoolR → T := fun s => T.ol [dE eI s.1, dE eI s.2.1, dE eI s.2.2]
end Sr
namespace Sr
open PySem PySem.Spec PyProof.Rows L2 L3 L4
end Sr
namespace L4
open PySem PySem.Spec PyProof.Rows L2 L3
section
variable {α γ δ : Type}
abbrev eF2 (e : α → PyData) (f : γ → PyData) : α × γ → PyData := fun x => .list [e x.1, f x.2]
abbrev eF3 (e : α → PyData) (f : γ → PyData) (g : δ → PyData) : α × γ × δ → PyData := fun x => .list [e x.1, f x.2.1, g x.2.2]
theorem Nice.f2 {e : α → PyData} {f : γ → PyData} {k : Nat} (h : Nice e k) (h2 : Nice f k) : Nice (eF2 e f) (k + 1) := ⟨fun a b z => by
  have z : [e a.1, f a.2] = [e b.1, f b.2] := by injection z
  simp only [List.cons.injEq, and_true] at z
  exact Prod.ext (h.inj _ _ z.1) (h2.inj _ _ z.2), fun a n => by
  show L3.plk ((n + k) + 1) _ = true
  simp [L3.plk, L3.plkAll, h.plk, h2.plk]⟩
theorem Nice.f3 {e : α → PyData} {f : γ → PyData} {g : δ → PyData} {k : Nat} (h : Nice e k) (h2 : Nice f k) (h3 : Nice g k) : Nice (eF3 e f g) (k + 1) := ⟨fun a b z => by
  have z : [e a.1, f a.2.1, g a.2.2] = [e b.1, f b.2.1, g b.2.2] := by injection z
  simp only [List.cons.injEq, and_true] at z
  exact Prod.ext (h.inj _ _ z.1) (Prod.ext (h2.inj _ _ z.2.1) (h3.inj _ _ z.2.2)), fun a n => by
  show L3.plk ((n + k) + 1) _ = true
  simp [L3.plk, L3.plkAll, h.plk, h2.plk, h3.plk]⟩
end
end L4
namespace Sr
open PySem PySem.Spec PyProof.Rows L2 L3 L4
mutual
def cpk : Nat → PyData → Bool
  | _, .int _ => true
  | n + 1, .list xs => decide (xs.length ≤ 10000) && cpkAll n xs
  | n + 1, .tuple xs => decide (xs.length ≤ 10000) && cpkAll n xs
  | _, _ => false
def cpkAll : Nat → List PyData → Bool
  | _, [] => true
  | n, x :: xs => cpk n x && cpkAll n xs
end
@[simp] theorem kit_il8 : kitB "int" "list" = some false := by decide
@[simp] theorem kit_it8 : kitB "int" "tuple" = some false := by decide
end Sr
namespace Sr
open PySem PySem.Spec PyProof.Rows L2 L3 L4
end Sr
namespace L4
open PySem PySem.Spec PyProof.Rows L2 L3
section
variable {Y α β γ : Type} {p : Pt} {t : R α} {Rel : α → Y → Prop} {κ : SK Y} {KI : List T → Env → R Y}
end
end L4
namespace L4
open PySem PySem.Spec PyProof.Rows L2 L3
section
variable {Y α β γ : Type} {p : Pt} {t : R α} {Rel : α → Y → Prop} {K : T → Env → R Y} {i : Nat}
end
end L4
namespace Sr
open PySem PySem.Spec PyProof.Rows L2 L3 L4
theorem lf6_loop {mt : MT} {mb : MS} {x y : Option T} (ht : ∀ a b : Int, mt [x, y, some (.d (.int a)), some (.d (.int b))] = .ok (decide (0 < a), [x, y, some (.d (.int a)), some (.d (.int b))]))
    (hb : ∀ a b : Int, a ≠ 0 → mb [x, y, some (.d (.int a)), some (.d (.int b))] = .ok (.next [x, y, some (.d (.int (b.fmod a))), some (.d (.int a))])) :
    ∀ (n : Nat) (a b : Int), a.natAbs ≤ n → 0 ≤ a → 0 ≤ b → mWhile mt mb [x, y, some (.d (.int a)), some (.d (.int b))] = .ok (.next [x, y, some (.d (.int 0)), some (.d (.int (Int.gcd b a : Nat)))]) := by
  intro n
  induction n with
  | zero =>
    intro a b h _ hb0
    have : a = 0 := by omega
    subst this
    rw [mWhile_eq, ht]
    simp
    omega
  | succ n ih =>
    intro a b h ha hb0
    by_cases z : a = 0
    · subst z
      rw [mWhile_eq, ht]
      simp
      omega
    · have hm := fmod_abs b a z
      have := ih (b.fmod a) a (by omega) (Int.fmod_nonneg_of_pos b (by omega)) ha
      have hp : 0 < a := by omega
      rw [mWhile_eq, ht]
      simp [hp, hb _ _ z, this, gcd_fmod]
theorem lfraction6_eq {t b : Int} (hb : 0 < b) (hs : ib b ≤ 9000) : m__law_fraction_6 [.d (.int t), .d (.int b)] = .ok (.d (fr (Rat.divInt t b)), []) := by
  have hb0 : b ≠ 0 := by omega
  have hd1 : divOk t (lowM t b) = true := divOk_ib (lowM_ne hb0) (Nat.le_trans (lowM_ib hb0) hs)
  have hd2 : divOk b (lowM t b) = true := divOk_ib (lowM_ne hb0) (Nat.le_trans (lowM_ib hb0) hs)
  have e := fr_low (t := t) hb0
  have hg : Int.gcd b (t.natAbs : Int) = Int.gcd t b := by rw [Int.gcd_comm]; simp [Int.gcd]
  have hmx : (if 0 - t > t then 0 - t else t) = (t.natAbs : Int) := by split <;> omega
  have hw := lf6_loop (x := some (.d (.int t))) (y := some (.d (.int b))) (mt := mTest (mLift (pBin opGt (pVar 2) (pC (.int 0))))) (mb := mPar 2 3 (mCons (mLift (pBin opMod (pVar 3) (pVar 2))) (mCons (mVar 2) (mNil)))) (fun a b => by simp) (fun a b h => by simp [h]) t.natAbs (t.natAbs : Int) b (by simp) (by omega) (by omega)
  rw [hg] at hw
  unfold m__law_fraction_6
  unfold lowM at hd1 hd2 e
  rw [if_neg (by omega)] at hd1 hd2 e
  have em : opMax2 [T.d (.int t), T.d (.int (0 - t))] = .ok (.v (.d (.int (t.natAbs : Int)))) := by
    show R.ok (RV.v (T.d (PyData.int (if 0 - t > t then 0 - t else t)))) = _
    rw [hmx]
  simp at em
  simp [em, hw, hd1, hd2, e]
theorem fn_lfraction6 {t b : Int} : Fn m__law_fraction_6 [.d (.int t), .d (.int b)] (rMkP t b) (dE fr) fun _ => [] := fn_of fun h => by
  obtain ⟨h1, h2⟩ := of_decide_eq_true h
  exact lfraction6_eq h1 h2
theorem fn_lplus5 {q r : Rat} : Fn m__law_plus_5 [.d (fr q), .d (fr r)] (rAdd q r) (dE fr) fun _ => [] := fn_of fun h => by
  obtain ⟨hd, h⟩ := of_decide_eq_true h
  have a := hq_num q
  have b := hq_num r
  have c := hq_denI q
  have d := hq_denI r
  have m := dq_bot q r
  have h1 : mulOk q.num r.den = true := mulOk_ib (by omega)
  have h2 : mulOk r.num q.den = true := mulOk_ib (by omega)
  have h3 : mulOk q.den r.den = true := mulOk_ib (by omega)
  unfold m__law_plus_5
  rw [fr_def, fr_def]
  simp [h1, h2, h3, lfraction6_eq (den_pos2 q r) (by omega), add_divInt q r]
end Sr
namespace Sr
open PySem PySem.Spec PyProof.Rows L2 L3 L4
@[irreducible] noncomputable def t__law_mixed_3 (cell1 : Int) (k2 : Int) : R Int :=
  (tPow (10 : Int) (18 : Int)).bind fun v3 => if v3 ≤ cell1 then .ok cell1 else (tMul cell1 (48271 : Int)).bind fun v4 => (tMul (7919 : Int) k2).bind fun v5 => (tMul v5 k2).bind fun v6 => (tMul (104729 : Int) k2).bind fun v7 => (tMod (((v4 + v6) + v7) + (17 : Int)) (2147483647 : Int)).bind fun v8 => (tMul v8 v8).bind fun v9 => (tMod v9 (2147483629 : Int)).bind fun v10 => (tMul v10 v10).bind fun v11 => (tMul v11 v10).bind fun v12 => (tMul (1000003 : Int) v10).bind fun v13 => .ok ((v12 + v13) + k2)
theorem fn_t__law_mixed_3 {cell1 : Int} {k2 : Int} : Fn m__law_mixed_3 [(dE eI) cell1, (dE eI) k2] (t__law_mixed_3 cell1 k2) (fun a : Int => (dE eI) a) (fun a => []) := by
  unfold m__law_mixed_3 t__law_mixed_3
  exact fn_j (p := [some ((dE eI) cell1), some ((dE eI) k2), none]) rfl (s_seq (s_if (t_test (x_lift (p_bin (p_var rfl (p_bin (p_c (p_c (v_r ro_pow fun v3 => v_ok rfl (x_onlyD (t_onB (g_ite (by first | rfl | simp) (fun _ => s_ret (x_d rfl (r_seq (f_ret (a := cell1) (F := (fun a : Int => (dE eI) a)) (G := (fun a : Int => [])) rfl (by rfl) (by rfl))))) (fun _ => s_next (n_seq (s_seq (s_asg (x_lift (p_bin (p_bin (p_bin (p_bin (p_bin (p_var rfl (p_c (v_r ro_mul fun v4 => p_bin (p_bin (p_c (p_var rfl (v_r ro_mul fun v5 => p_var rfl (v_r ro_mul fun v6 => v_ok rfl (p_bin (p_c (p_var rfl (v_r ro_mul fun v7 => v_ok rfl (p_c (v_ok rfl (p_c (v_r ro_mod fun v8 => x_onlyD (g_name (n_seq (s_seq (s_asg (x_lift (p_bin (p_bin (p_var rfl (p_var rfl (v_r ro_mul fun v9 => p_c (v_r ro_mod fun v10 => x_onlyD (g_name (n_seq (J.wk (q := [some ((dE eI) cell1), some ((dE eI) k2), some ((dE eI) v10)]) (wk_some (wk_some (wk_some wk_nil))) (s_ret (x_lift (p_bin (p_bin (p_bin (p_bin (p_var rfl (p_var rfl (v_r ro_mul fun v11 => p_var rfl (v_r ro_mul fun v12 => p_bin (p_c (p_var rfl (v_r ro_mul fun v13 => v_ok rfl (p_var rfl (v_ok rfl (x_onlyD (f_ret (a := ((v12 + v13) + k2)) (F := (fun a : Int => (dE eI) a)) (G := (fun a : Int => [])) rfl (by rfl) (by rfl)))))))))))))))))))))))))))))))))))))))))))))))))))))))))))))))))))))))
@[irreducible] noncomputable def t__law_bounds_6 (left1 : Int) : R (Rat × Rat) :=
  (tMod left1 (9 : Int)).bind fun v2 => (tFdiv left1 (9 : Int)).bind fun v3 => (tMod v3 (3 : Int)).bind fun v4 => (rMkP (v2 - (4 : Int)) ((1 : Int) + v4)).nx.bind fun r5 => (tFdiv left1 (27 : Int)).bind fun v6 => (tMod v6 (7 : Int)).bind fun v7 => (tFdiv left1 (189 : Int)).bind fun v8 => (tMod v8 (2 : Int)).bind fun v9 => (rMkP v7 ((1 : Int) + v9)).nx.bind fun r10 => (rAdd r5 r10).nx.bind fun r11 => .ok (r5, r11)
theorem fn_t__law_bounds_6 {left1 : Int} : Fn m__law_bounds_6 [(dE eI) left1] (t__law_bounds_6 left1) (fun a : (Rat × Rat) => (dE (eT2 fr fr)) a) (fun a => []) := by
  unfold m__law_bounds_6 t__law_bounds_6
  exact fn_j (p := [some ((dE eI) left1), none]) rfl (s_seq (s_asg (x_call (b_cons (x_lift (p_bin (p_bin (p_var rfl (p_c (v_r ro_mod fun v2 => p_c (v_ok rfl (x_onlyD (b_cons (x_lift (p_bin (p_c (p_bin (p_bin (p_var rfl (p_c (v_r ro_fdiv fun v3 => p_c (v_r ro_mod fun v4 => v_ok rfl (x_onlyD (b_nil (c_end rfl fn_lfraction6 rfl (fun _ => rfl) fun r5 => g_name (n_seq (s_ret (x_tupO (a_cons (x_d rfl (a_cons (x_call (b_cons (x_d rfl (b_cons (x_call (b_cons (x_lift (p_bin (p_bin (p_var rfl (p_c (v_r ro_fdiv fun v6 => p_c (v_r ro_mod fun v7 => x_onlyD (b_cons (x_lift (p_bin (p_c (p_bin (p_bin (p_var rfl (p_c (v_r ro_fdiv fun v8 => p_c (v_r ro_mod fun v9 => v_ok rfl (x_onlyD (b_nil (c_end rfl fn_lfraction6 rfl (fun _ => rfl) fun r10 => b_nil (c_end rfl fn_lplus5 rfl (fun _ => rfl) fun r11 => a_nil (l_tup ((dE (eT2 fr fr)) (r5, r11)) (by rfl) (f_ret (a := (r5, r11)) (F := (fun a : (Rat × Rat) => (dE (eT2 fr fr)) a)) (G := (fun a : (Rat × Rat) => [])) rfl (by rfl) (by rfl)))))))))))))))))))))))))))))))))))))))))))))))))))))))))))))
@[irreducible] noncomputable def t__law_shares (left1 : Int) (many2 : Int) : R ((List Rat) × Int) :=
  (tRange 0 many2).bind fun ks3 => (tFold (fun (s4 : (Int × (List Rat))) x5 => ((tMod s4.1 (5 : Int)).bind fun v6 => (tIdx ([(0 : Rat), (1 : Rat), (-1 : Rat), (2 : Rat), (mkRat (-1) 2)]) v6).bind fun x7 => (tApp s4.2 x7).bind fun found8 => (tFdiv s4.1 (5 : Int)).bind fun v9 => .ok (v9, found8) : R (Int × (List Rat)))) ks3 (left1, ([] : (List Rat)))).bind fun s10 => .ok (s10.2, s10.1)
theorem fn_t__law_shares {left1 : Int} {many2 : Int} : Fn m__law_shares [(dE eI) left1, (dE eI) many2] (t__law_shares left1 many2) (fun a : ((List Rat) × Int) => (dE (eT2 (eL fr) eI)) a) (fun a => []) := by
  unfold m__law_shares t__law_shares
  exact fn_j (p := [some ((dE eI) left1), some ((dE eI) many2), none, none]) rfl (s_seq (s_asg (x_lstO (a_nil (l_lst (f := (dE fr)) ([] : (List Rat)) (by rfl) (g_name (n_seq (s_seq (s_for (i_range1 (a_cons (x_d rfl (a_nil (i_r1 fun ks3 => l_for (F := (dE eI)) (q := fun s4 : (Int × (List Rat)) => [some ((dE eI) s4.1), some ((dE eI) many2), some ((oL (dE fr)) s4.2), none]) (wk_some (wk_some (wk_some (wk_none wk_nil)))) (fun s4 x5 => g_name (s_seq (s_drop (x_meth rfl (a_cons (x_bin (x_lstO (a_cons (x_tupO (a_cons (x_lift (p_c (x_onlyD (a_cons (x_lift (p_c (x_onlyD (a_nil (l_tup (.d (fr (0 : Rat))) (by rfl) (a_cons (x_tupO (a_cons (x_lift (p_c (x_onlyD (a_cons (x_lift (p_c (x_onlyD (a_nil (l_tup (.d (fr (1 : Rat))) (by rfl) (a_cons (x_tupO (a_cons (x_lift (p_un (p_c (v_ok rfl (x_onlyD (a_cons (x_lift (p_c (x_onlyD (a_nil (l_tup (.d (fr (-1 : Rat))) (by rfl) (a_cons (x_tupO (a_cons (x_lift (p_c (x_onlyD (a_cons (x_lift (p_c (x_onlyD (a_nil (l_tup (.d (fr (2 : Rat))) (by rfl) (a_cons (x_tupO (a_cons (x_lift (p_un (p_c (v_ok rfl (x_onlyD (a_cons (x_lift (p_c (x_onlyD (a_nil (l_tup (.d (fr (mkRat (-1) 2))) (by rfl) (a_nil (l_lst (f := (dE fr)) ([(0 : Rat), (1 : Rat), (-1 : Rat), (2 : Rat), (mkRat (-1) 2)]) (by rfl) (x_lift (p_bin (p_var rfl (p_c (v_r ro_mod fun v6 => x_onlyD (o_r ro_idxO fun x7 => a_nil (m_append (f := (dE fr)) (xs := s4.2) (x := x7) rfl rfl fun found8 => n_seq (J.wk (q := [some ((dE eI) s4.1), some ((dE eI) many2), some ((oL (dE fr)) found8), some ((dE eI) x5)]) (wk_some (wk_some (wk_some (wk_some wk_nil)))) (s_asg (x_lift (p_bin (p_var rfl (p_c (v_r ro_fdiv fun v9 => x_onlyD (g_name (e_cN (wk_some (wk_some (wk_some (wk_none wk_nil))))))))))))))))))))))))))))))))))))))))))))))))))))))))))))))))))))))))))))))))))))))))))))) fun s10 => n_seq (s_ret (x_tupO (a_cons (x_fz rfl (fz_ol fun _ => fz_d) (a_cons (x_d rfl (a_nil (l_tup ((dE (eT2 (eL fr) eI)) (s10.2, s10.1)) (by rfl) (f_ret (a := (s10.2, s10.1)) (F := (fun a : ((List Rat) × Int) => (dE (eT2 (eL fr) eI)) a)) (G := (fun a : ((List Rat) × Int) => [])) rfl (by rfl) (by rfl))))))))))))))))))))))))
@[irreducible] noncomputable def t__law_plan_9 (script1 : (List Int)) : R ((List (Rat × Rat)) × (List (Rat × Rat)) × (List ((List Rat) × (List Rat) × Rat))) :=
  (t__law_cell_at script1 (0 : Int)).nx.bind fun r2 => (tMod r2 (3 : Int)).bind fun v3 => (tRange 0 ((1 : Int) + v3)).bind fun ks4 => (tMapG (fun x5 => ((t__law_cell_at script1 ((1 : Int) + x5)).nx.bind fun r6 => (t__law_mixed_3 r6 x5).nx.bind fun r7 => (t__law_bounds_6 r7).nx.bind fun r8 => .ok r8 : R (Rat × Rat))) ks4).bind fun r9 => (tFdiv r2 (3 : Int)).bind fun v10 => (tMod v10 (3 : Int)).bind fun v11 => (tRange 0 v11).bind fun ks12 => (tMapG (fun x13 => ((t__law_cell_at script1 ((4 : Int) + x13)).nx.bind fun r14 => (t__law_mixed_3 r14 ((4 : Int) + x13)).nx.bind fun r15 => (t__law_bounds_6 r15).nx.bind fun r16 => .ok r16 : R (Rat × Rat))) ks12).bind fun r17 => (tFdiv r2 (9 : Int)).bind fun v18 => (tIdx ([(13 : Int), (13 : Int), (5 : Int)]) (tLen r17)).bind fun x19 => (tMod v18 x19).bind fun v20 => (tRange 0 v20).bind fun ks21 => (tFold (fun (s22 : (List ((List Rat) × (List Rat) × Rat))) x23 => ((t__law_cell_at script1 ((26 : Int) + x23)).nx.bind fun r24 => (t__law_mixed_3 r24 ((6 : Int) + x23)).nx.bind fun r25 => (t__law_shares r25 (tLen r9)).nx.bind fun r26 => (t__law_shares r26.2 (tLen r17)).nx.bind fun r27 => (tMod r27.2 (15 : Int)).bind fun v28 => (tFdiv r27.2 (15 : Int)).bind fun v29 => (tMod v29 (2 : Int)).bind fun v30 => (rMkP (v28 - (4 : Int)) ((1 : Int) + v30)).nx.bind fun r31 => (tApp s22 (r26.1, r27.1, r31)).bind fun demands32 => .ok (demands32) : R (List ((List Rat) × (List Rat) × Rat)))) ks21 (([] : (List ((List Rat) × (List Rat) × Rat))))).bind fun s33 => .ok (r9, r17, s33)
theorem fn_t__law_plan_9 {script1 : (List Int)} : Fn m__law_plan_9 [(fun xs : List Int => T.rd (xs.map PyData.int)) script1] (t__law_plan_9 script1) (fun a : ((List (Rat × Rat)) × (List (Rat × Rat)) × (List ((List Rat) × (List Rat) × Rat))) => (dE (eT3 (eL (eT2 fr fr)) (eL (eT2 fr fr)) (eL (eT3 (eL fr) (eL fr) fr)))) a) (fun a => []) := by
  unfold m__law_plan_9 t__law_plan_9
  exact fn_j (p := [some ((fun xs : List Int => T.rd (xs.map PyData.int)) script1), none, none, none, none, none, none, none, none]) rfl (s_seq (s_asg (x_call (b_cons (x_rd rfl (b_cons (x_lift (p_c (x_onlyD (b_nil (c_end rfl fn_t__law_cell_at rfl (fun _ => rfl) fun r2 => g_name (n_seq (s_seq (s_thenFz (s_asg (x_lc (i_range1 (a_cons (x_lift (p_bin (p_c (p_bin (p_var rfl (p_c (v_r ro_mod fun v3 => v_ok rfl (x_onlyD (a_nil (i_r1 fun ks4 => l_map (F := (dE eI)) (G := (dE (eT2 fr fr))) (q := [some ((fun xs : List Int => T.rd (xs.map PyData.int)) script1), some ((dE eI) r2), none, none, none, none, none, none, none]) (wk_some (wk_some (wk_none (wk_none (wk_none (wk_none (wk_none (wk_none (wk_none wk_nil))))))))) rfl (fun x5 => g_name (x_call (b_cons (x_call (b_cons (x_call (b_cons (x_rd rfl (b_cons (x_lift (p_bin (p_c (p_var rfl (v_ok rfl (x_onlyD (b_nil (c_end rfl fn_t__law_cell_at rfl (fun _ => rfl) fun r6 => b_cons (x_d rfl (b_nil (c_end rfl fn_t__law_mixed_3 rfl (fun _ => rfl) fun r7 => b_nil (c_end rfl fn_t__law_bounds_6 rfl (fun _ => rfl) fun r8 => e_m (by rfl) (wk_some (wk_some (wk_none (wk_none (wk_none (wk_none (wk_none (wk_none (wk_none wk_nil)))))))))))))))))))))))))))))) fun r9 => g_name (n_fz rfl (fz_ol fun _ => fz_d) (n_seq (J.wk (q := [some ((fun xs : List Int => T.rd (xs.map PyData.int)) script1), some ((dE eI) r2), some ((dE (eL (eT2 fr fr))) r9), none, none, none, none, none, none]) (wk_some (wk_some (wk_some (wk_none (wk_none (wk_none (wk_none (wk_none (wk_none wk_nil))))))))) (s_seq (s_thenFz (s_asg (x_lc (i_range1 (a_cons (x_lift (p_bin (p_bin (p_var rfl (p_c (v_r ro_fdiv fun v10 => p_c (v_r ro_mod fun v11 => x_onlyD (a_nil (i_r1 fun ks12 => l_map (F := (dE eI)) (G := (dE (eT2 fr fr))) (q := [some ((fun xs : List Int => T.rd (xs.map PyData.int)) script1), some ((dE eI) r2), some ((dE (eL (eT2 fr fr))) r9), none, none, none, none, none, none]) (wk_some (wk_some (wk_some (wk_none (wk_none (wk_none (wk_none (wk_none (wk_none wk_nil))))))))) rfl (fun x13 => g_name (x_call (b_cons (x_call (b_cons (x_call (b_cons (x_rd rfl (b_cons (x_lift (p_bin (p_c (p_var rfl (v_ok rfl (x_onlyD (b_nil (c_end rfl fn_t__law_cell_at rfl (fun _ => rfl) fun r14 => b_cons (x_lift (p_bin (p_c (p_var rfl (v_ok rfl (x_onlyD (b_nil (c_end rfl fn_t__law_mixed_3 rfl (fun _ => rfl) fun r15 => b_nil (c_end rfl fn_t__law_bounds_6 rfl (fun _ => rfl) fun r16 => e_m (by rfl) (wk_some (wk_some (wk_some (wk_none (wk_none (wk_none (wk_none (wk_none (wk_none wk_nil))))))))))))))))))))))))))))))))))) fun r17 => g_name (n_fz rfl (fz_ol fun _ => fz_d) (n_seq (s_seq (s_asg (x_lstO (a_nil (l_lst (f := (dE (eT3 (eL fr) (eL fr) fr))) ([] : (List ((List Rat) × (List Rat) × Rat))) (by rfl) (g_name (n_seq (s_seq (s_for (i_range1 (a_cons (x_bin (x_lift (p_bin (p_var rfl (p_c (v_r ro_fdiv fun v18 => x_onlyD (x_bin (x_lstO (a_cons (x_lift (p_c (x_onlyD (a_cons (x_lift (p_c (x_onlyD (a_cons (x_lift (p_c (x_onlyD (a_nil (l_lst (f := (dE eI)) ([(13 : Int), (13 : Int), (5 : Int)]) (by rfl) (x_lift (p_callB (z_cons (p_var rfl (z_nil (v_ok len_l (x_onlyD (o_r ro_idxO fun x19 => o_r ro_mod fun v20 => a_nil (i_r1 fun ks21 => l_for (F := (dE eI)) (q := fun s22 : (List ((List Rat) × (List Rat) × Rat)) => [some ((fun xs : List Int => T.rd (xs.map PyData.int)) script1), some ((dE eI) r2), some ((dE (eL (eT2 fr fr))) r9), some ((dE (eL (eT2 fr fr))) r17), some ((oL (dE (eT3 (eL fr) (eL fr) fr))) s22), none, none, none, none]) (wk_some (wk_some (wk_some (wk_some (wk_some (wk_none (wk_none (wk_none (wk_none wk_nil))))))))) (fun s22 x23 => g_name (s_seq (s_asg (x_call (b_cons (x_call (b_cons (x_rd rfl (b_cons (x_lift (p_bin (p_c (p_var rfl (v_ok rfl (x_onlyD (b_nil (c_end rfl fn_t__law_cell_at rfl (fun _ => rfl) fun r24 => b_cons (x_lift (p_bin (p_c (p_var rfl (v_ok rfl (x_onlyD (b_nil (c_end rfl fn_t__law_mixed_3 rfl (fun _ => rfl) fun r25 => g_name (n_seq (s_seq (s_asg (x_call (b_cons (x_d rfl (b_cons (x_lift (p_callB (z_cons (p_var rfl (z_nil (v_ok len_l (x_onlyD (b_nil (c_end rfl fn_t__law_shares rfl (fun _ => rfl) fun r26 => g_tup rfl rfl (g_cons (g_name (g_cons (g_name (g_nil (n_seq (J.wk (q := [some ((fun xs : List Int => T.rd (xs.map PyData.int)) script1), some ((dE eI) r2), some ((dE (eL (eT2 fr fr))) r9), some ((dE (eL (eT2 fr fr))) r17), some ((oL (dE (eT3 (eL fr) (eL fr) fr))) s22), some ((dE eI) x23), some ((dE eI) r26.2), some ((dE (eL fr)) r26.1), none]) (wk_some (wk_some (wk_some (wk_some (wk_some (wk_some (wk_some (wk_some (wk_none wk_nil))))))))) (s_seq (s_asg (x_call (b_cons (x_d rfl (b_cons (x_lift (p_callB (z_cons (p_var rfl (z_nil (v_ok len_l (x_onlyD (b_nil (c_end rfl fn_t__law_shares rfl (fun _ => rfl) fun r27 => g_tup rfl rfl (g_cons (g_name (g_cons (g_name (g_nil (n_seq (s_drop (x_meth rfl (a_cons (x_tupO (a_cons (x_d rfl (a_cons (x_d rfl (a_cons (x_call (b_cons (x_lift (p_bin (p_bin (p_var rfl (p_c (v_r ro_mod fun v28 => p_c (v_ok rfl (x_onlyD (b_cons (x_lift (p_bin (p_c (p_bin (p_bin (p_var rfl (p_c (v_r ro_fdiv fun v29 => p_c (v_r ro_mod fun v30 => v_ok rfl (x_onlyD (b_nil (c_end rfl fn_lfraction6 rfl (fun _ => rfl) fun r31 => a_nil (l_tup ((dE (eT3 (eL fr) (eL fr) fr)) (r26.1, r27.1, r31)) (by rfl) (a_nil (m_append (f := (dE (eT3 (eL fr) (eL fr) fr))) (xs := s22) (x := (r26.1, r27.1, r31)) rfl rfl fun demands32 => e_cN (wk_some (wk_some (wk_some (wk_some (wk_some (wk_none (wk_none (wk_none (wk_none wk_nil))))))))))))))))))))))))))))))))))))))))))))))))))))))))))))))))))))))))))))))))))))))))))))))))))))))))))))))))) fun s33 => n_seq (s_ret (x_tupO (a_cons (x_d rfl (a_cons (x_d rfl (a_cons (x_fz rfl (fz_ol fun _ => fz_d) (a_nil (l_tup ((dE (eT3 (eL (eT2 fr fr)) (eL (eT2 fr fr)) (eL (eT3 (eL fr) (eL fr) fr)))) (r9, r17, s33)) (by rfl) (f_ret (a := (r9, r17, s33)) (F := (fun a : ((List (Rat × Rat)) × (List (Rat × Rat)) × (List ((List Rat) × (List Rat) × Rat))) => (dE (eT3 (eL (eT2 fr fr)) (eL (eT2 fr fr)) (eL (eT3 (eL fr) (eL fr) fr)))) a)) (G := (fun a : ((List (Rat × Rat)) × (List (Rat × Rat)) × (List ((List Rat) × (List Rat) × Rat))) => [])) rfl (by rfl) (by rfl))))))))))))))))))))))))))))))))))))))))))))))))))))))))))))))))))))))))))))))))))))))))))))))))))))))
@[irreducible] noncomputable def t__law_order_2 (plan1 : ((List (Rat × Rat)) × (List (Rat × Rat)) × (List ((List Rat) × (List Rat) × Rat)))) (cell2 : Int) : R (List (Str × Int)) :=
  (tRange 0 (tLen plan1.1)).bind fun ks3 => (tMapG (fun x4 => (.ok (("size" : Str), x4) : R (Str × Int))) ks3).bind fun r5 => (tRange 0 (tLen plan1.2.1)).bind fun ks6 => (tMapG (fun x7 => (.ok (("shim" : Str), x7) : R (Str × Int))) ks6).bind fun r8 => (tCat r5 r8).bind fun v9 => (tFold (fun (s10 : (Int × (List (Str × Int)))) x11 => ((tMod s10.1 ((tLen s10.2) + (1 : Int))).bind fun v12 => (tIns s10.2 v12 x11).bind fun found13 => (tFdiv s10.1 (7 : Int)).bind fun v14 => .ok (v14, found13) : R (Int × (List (Str × Int))))) v9 (cell2, ([] : (List (Str × Int))))).bind fun s15 => .ok s15.2
theorem fn_t__law_order_2 {plan1 : ((List (Rat × Rat)) × (List (Rat × Rat)) × (List ((List Rat) × (List Rat) × Rat)))} {cell2 : Int} : Fn m__law_order_2 [(dE (eT3 (eL (eT2 fr fr)) (eL (eT2 fr fr)) (eL (eT3 (eL fr) (eL fr) fr)))) plan1, (dE eI) cell2] (t__law_order_2 plan1 cell2) (fun a : (List (Str × Int)) => (dE (eL (eT2 eS eI))) a) (fun a => []) := by
  unfold m__law_order_2 t__law_order_2
  exact fn_j (p := [some ((dE (eT3 (eL (eT2 fr fr)) (eL (eT2 fr fr)) (eL (eT3 (eL fr) (eL fr) fr)))) plan1), some ((dE eI) cell2), none, none, none]) rfl (s_seq (s_asg (x_lstO (a_nil (l_lst (f := (dE (eT2 eS eI))) ([] : (List (Str × Int))) (by rfl) (g_name (n_seq (s_seq (s_for (i_list (x_mfz (x_bin (x_mfz (x_lc (i_range1 (a_cons (x_lift (p_callB (z_cons (p_bin (p_var rfl (p_c (v_ok (u := ((dE (eL (eT2 fr fr))) plan1.1)) rfl (z_nil (v_ok len_l (x_onlyD (a_nil (i_r1 fun ks3 => l_map (F := (dE eI)) (G := (dE (eT2 eS eI))) (q := [some ((dE (eT3 (eL (eT2 fr fr)) (eL (eT2 fr fr)) (eL (eT3 (eL fr) (eL fr) fr)))) plan1), some ((dE eI) cell2), some ((oL (dE (eT2 eS eI))) ([] : (List (Str × Int)))), none, none]) (wk_some (wk_some (wk_some (wk_none (wk_none wk_nil))))) rfl (fun x4 => g_name (x_tupO (a_cons (x_lift (p_c (x_onlyD (a_cons (x_d rfl (a_nil (l_tup ((dE (eT2 eS eI)) (("size" : Str), x4)) (by rfl) (e_m (by rfl) (wk_some (wk_some (wk_some (wk_none (wk_none wk_nil)))))))))))))))) fun r5 => x_frz (fz_ol fun _ => fz_d) (x_mfz (x_lc (i_range1 (a_cons (x_lift (p_callB (z_cons (p_bin (p_var rfl (p_c (v_ok (u := ((dE (eL (eT2 fr fr))) plan1.2.1)) rfl (z_nil (v_ok len_l (x_onlyD (a_nil (i_r1 fun ks6 => l_map (F := (dE eI)) (G := (dE (eT2 eS eI))) (q := [some ((dE (eT3 (eL (eT2 fr fr)) (eL (eT2 fr fr)) (eL (eT3 (eL fr) (eL fr) fr)))) plan1), some ((dE eI) cell2), some ((oL (dE (eT2 eS eI))) ([] : (List (Str × Int)))), none, none]) (wk_some (wk_some (wk_some (wk_none (wk_none wk_nil))))) rfl (fun x7 => g_name (x_tupO (a_cons (x_lift (p_c (x_onlyD (a_cons (x_d rfl (a_nil (l_tup ((dE (eT2 eS eI)) (("shim" : Str), x7)) (by rfl) (e_m (by rfl) (wk_some (wk_some (wk_some (wk_none (wk_none wk_nil)))))))))))))))) fun r8 => x_frz (fz_ol fun _ => fz_d) (o_rN (ro_cat lst_d lst_d) fun v9 => x_frz (fz_ol fun _ => fz_d) (i_on dmapI (l_for (F := (dE (eT2 eS eI))) (q := fun s10 : (Int × (List (Str × Int))) => [some ((dE (eT3 (eL (eT2 fr fr)) (eL (eT2 fr fr)) (eL (eT3 (eL fr) (eL fr) fr)))) plan1), some ((dE eI) s10.1), some ((oL (dE (eT2 eS eI))) s10.2), none, none]) (wk_some (wk_some (wk_some (wk_none (wk_none wk_nil))))) (fun s10 x11 => g_name (s_seq (s_drop (x_meth rfl (a_cons (x_lift (p_bin (p_var rfl (p_bin (p_callB (z_cons (p_var rfl (z_nil (v_ok len_o (p_c (v_ok rfl (v_r ro_mod fun v12 => x_onlyD (a_cons (x_d rfl (a_nil (m_insert (f := (dE (eT2 eS eI))) (xs := s10.2) (x := x11) rfl rfl fun found13 => n_seq (J.wk (q := [some ((dE (eT3 (eL (eT2 fr fr)) (eL (eT2 fr fr)) (eL (eT3 (eL fr) (eL fr) fr)))) plan1), some ((dE eI) s10.1), some ((oL (dE (eT2 eS eI))) found13), some ((dE (eT2 eS eI)) x11), none]) (wk_some (wk_some (wk_some (wk_some (wk_none wk_nil))))) (s_asg (x_lift (p_bin (p_var rfl (p_c (v_r ro_fdiv fun v14 => x_onlyD (g_name (e_cN (wk_some (wk_some (wk_some (wk_none (wk_none wk_nil))))))))))))))))))))))))))))))))))) fun s15 => n_seq (s_ret (x_fz rfl (fz_ol fun _ => fz_d) (f_ret (a := s15.2) (F := (fun a : (List (Str × Int)) => (dE (eL (eT2 eS eI))) a)) (G := (fun a : (List (Str × Int)) => [])) rfl (by rfl) (by rfl)))))))))))))))))))))))))))))))))))))))))))))))))))
@[irreducible] noncomputable def t__law_copy_2 (plan1 : ((List (Rat × Rat)) × (List (Rat × Rat)) × (List ((List Rat) × (List Rat) × Rat)))) : R ((List (Rat × Rat)) × (List (Rat × Rat)) × (List ((List Rat) × (List Rat) × Rat))) :=
  (tMapG (fun x2 => (.ok (x2.1, x2.2.1, x2.2.2) : R ((List Rat) × (List Rat) × Rat))) plan1.2.2).bind fun r3 => .ok (plan1.1, plan1.2.1, r3)
theorem fn_t__law_copy_2 {plan1 : ((List (Rat × Rat)) × (List (Rat × Rat)) × (List ((List Rat) × (List Rat) × Rat)))} : Fn m__law_copy_2 [(dE (eT3 (eL (eT2 fr fr)) (eL (eT2 fr fr)) (eL (eT3 (eL fr) (eL fr) fr)))) plan1] (t__law_copy_2 plan1) (fun a : ((List (Rat × Rat)) × (List (Rat × Rat)) × (List ((List Rat) × (List Rat) × Rat))) => (dE (eT3 (eL (eT2 fr fr)) (eL (eT2 fr fr)) (eL (eT3 (eL fr) (eL fr) fr)))) a) (fun a => []) := by
  unfold m__law_copy_2 t__law_copy_2
  exact fn_j (p := [some ((dE (eT3 (eL (eT2 fr fr)) (eL (eT2 fr fr)) (eL (eT3 (eL fr) (eL fr) fr)))) plan1), none, none, none, none, none, none]) rfl (s_seq (s_asg (x_d rfl (g_tup rfl rfl (g_cons (g_name (g_cons (g_name (g_cons (g_name (g_nil (n_seq (J.wk (q := [some ((dE (eT3 (eL (eT2 fr fr)) (eL (eT2 fr fr)) (eL (eT3 (eL fr) (eL fr) fr)))) plan1), some ((dE (eL (eT2 fr fr))) plan1.1), some ((dE (eL (eT2 fr fr))) plan1.2.1), some ((dE (eL (eT3 (eL fr) (eL fr) fr))) plan1.2.2), none, none, none]) (wk_some (wk_some (wk_some (wk_some (wk_none (wk_none (wk_none wk_nil))))))) (s_ret (x_tupO (a_cons (x_mfz (x_callB (a_cons (x_d rfl (a_nil (o_okN (list_of rfl) (x_frz (fz_ol fun _ => fz_d) (a_cons (x_mfz (x_callB (a_cons (x_d rfl (a_nil (o_okN (list_of rfl) (x_frz (fz_ol fun _ => fz_d) (a_cons (x_mfz (x_lc (i_list (x_d rfl (i_on dmapI (l_map (F := (dE (eT3 (eL fr) (eL fr) fr))) (G := (dE (eT3 (eL fr) (eL fr) fr))) (q := [some ((dE (eT3 (eL (eT2 fr fr)) (eL (eT2 fr fr)) (eL (eT3 (eL fr) (eL fr) fr)))) plan1), some ((dE (eL (eT2 fr fr))) plan1.1), some ((dE (eL (eT2 fr fr))) plan1.2.1), some ((dE (eL (eT3 (eL fr) (eL fr) fr))) plan1.2.2), none, none, none]) (wk_some (wk_some (wk_some (wk_some (wk_none (wk_none (wk_none wk_nil))))))) rfl (fun x2 => g_tup rfl rfl (g_cons (g_name (g_cons (g_name (g_cons (g_name (g_nil (x_tupO (a_cons (x_mfz (x_callB (a_cons (x_d rfl (a_nil (o_okN (list_of rfl) (x_frz (fz_ol fun _ => fz_d) (a_cons (x_mfz (x_callB (a_cons (x_d rfl (a_nil (o_okN (list_of rfl) (x_frz (fz_ol fun _ => fz_d) (a_cons (x_d rfl (a_nil (l_tup ((dE (eT3 (eL fr) (eL fr) fr)) (x2.1, x2.2.1, x2.2.2)) (by rfl) (e_m (by rfl) (wk_some (wk_some (wk_some (wk_some (wk_none (wk_none (wk_none wk_nil))))))))))))))))))))))))))))))))))))) fun r3 => x_frz (fz_ol fun _ => fz_d) (a_nil (l_tup ((dE (eT3 (eL (eT2 fr fr)) (eL (eT2 fr fr)) (eL (eT3 (eL fr) (eL fr) fr)))) (plan1.1, plan1.2.1, r3)) (by rfl) (f_ret (a := (plan1.1, plan1.2.1, r3)) (F := (fun a : ((List (Rat × Rat)) × (List (Rat × Rat)) × (List ((List Rat) × (List Rat) × Rat))) => (dE (eT3 (eL (eT2 fr fr)) (eL (eT2 fr fr)) (eL (eT3 (eL fr) (eL fr) fr)))) a)) (G := (fun a : ((List (Rat × Rat)) × (List (Rat × Rat)) × (List ((List Rat) × (List Rat) × Rat))) => [])) rfl (by rfl) (by rfl))))))))))))))))))))))))))))))))))))))))))
@[irreducible] noncomputable def t_own_rows (plan1 : ((List (Rat × Rat)) × (List (Rat × Rat)) × (List ((List Rat) × (List Rat) × Rat)))) (k2 : Int) : R (List ((List Rat) × (List Rat) × Rat)) :=
  (tIdx plan1.2.1 k2).bind fun x3 => (tMapG (fun x4 => (.ok (0 : Rat) : R Rat)) plan1.1).bind fun r5 => (tRange 0 (tLen plan1.2.1)).bind fun ks6 => (tMapG (fun x7 => ((tIdx ([(0 : Rat), (1 : Rat)]) (if (decide (x7 = k2)) = true then (1 : Int) else 0)).bind fun x8 => .ok x8 : R Rat)) ks6).bind fun r9 => (tRange 0 (tLen plan1.2.1)).bind fun ks10 => (tMapG (fun x11 => ((tIdx ([(0 : Rat), (-1 : Rat)]) (if (decide (x11 = k2)) = true then (1 : Int) else 0)).bind fun x12 => .ok x12 : R Rat)) ks10).bind fun r13 => (rSub (0 : Rat) x3.1).nx.bind fun r14 => .ok ([(r5, r9, r14), (r5, r13, x3.2)])
@[irreducible] noncomputable def t_put_on_3 (rows1 : (List ((List Rat) × (List Rat) × Rat))) (row2 : ((List Rat) × (List Rat) × Rat)) : R (Unit × (List ((List Rat) × (List Rat) × Rat))) :=
  (show R Bool from (tCat row2.1 row2.2.1).bind fun v4 => (tFmG (fun x5 => (if ¬ x5 = (0 : Rat) then .ok (some x5) else .ok none : R (Option Rat))) v4).bind fun r6 => if r6 = ([] : (List Rat)) then (rLt row2.2.2 (0 : Rat)).nx.bind fun r7 => .ok (!r7) else .ok false).bind fun b3 => if b3 = true then .ok ((), rows1) else if ¬ row2 ∈ rows1 then (tApp rows1 row2).bind fun rows8 => .ok ((), rows8) else .ok ((), rows1)
@[irreducible] noncomputable def t_scaled (row1 : ((List Rat) × (List Rat) × Rat)) (many2 : Rat) : R ((List Rat) × (List Rat) × Rat) :=
  (tMapG (fun x3 => ((rMul x3 many2).nx.bind fun r4 => .ok r4 : R Rat)) row1.1).bind fun r5 => (tMapG (fun x6 => ((rMul x6 many2).nx.bind fun r7 => .ok r7 : R Rat)) row1.2.1).bind fun r8 => (rMul row1.2.2 many2).nx.bind fun r9 => .ok (r5, r8, r9)
@[irreducible] noncomputable def t_together (one1 : ((List Rat) × (List Rat) × Rat)) (other2 : ((List Rat) × (List Rat) × Rat)) : R ((List Rat) × (List Rat) × Rat) :=
  (tMapG (fun x3 => ((rAdd x3.1 x3.2).nx.bind fun r4 => .ok r4 : R Rat)) (one1.1.zip other2.1)).bind fun r5 => (tMapG (fun x6 => ((rAdd x6.1 x6.2).nx.bind fun r7 => .ok r7 : R Rat)) (one1.2.1.zip other2.2.1)).bind fun r8 => (rAdd one1.2.2 other2.2.2).nx.bind fun r9 => .ok (r5, r8, r9)
@[irreducible] noncomputable def t_without_shim (plan1 : ((List (Rat × Rat)) × (List (Rat × Rat)) × (List ((List Rat) × (List Rat) × Rat)))) (rows2 : (List ((List Rat) × (List Rat) × Rat))) (k3 : Int) : R (List ((List Rat) × (List Rat) × Rat)) :=
  (t_own_rows plan1 k3).nx.bind fun r4 => (tCat rows2 r4).bind fun v5 => (tFold (fun (s6 : (List ((List Rat) × (List Rat) × Rat))) x7 => ((tIdx x7.2.1 k3).bind fun x8 => if x8 = (0 : Rat) then (t_put_on_3 s6 x7).nx.bind fun r9 => .ok (r9.2) else .ok (s6) : R (List ((List Rat) × (List Rat) × Rat)))) v5 (([] : (List ((List Rat) × (List Rat) × Rat))))).bind fun s10 => (tFold (fun (s11 : (List ((List Rat) × (List Rat) × Rat))) x12 => ((tFold (fun (s13 : (List ((List Rat) × (List Rat) × Rat))) x14 => ((show R Bool from (tIdx x12.2.1 k3).bind fun x16 => (rLt (0 : Rat) x16).nx.bind fun r17 => if r17 = true then (tIdx x14.2.1 k3).bind fun x18 => (rLt x18 (0 : Rat)).nx.bind fun r19 => .ok r19 else .ok false).bind fun b15 => if b15 = true then (tIdx x14.2.1 k3).bind fun x20 => (rSub (0 : Rat) x20).nx.bind fun r21 => (t_scaled x12 r21).nx.bind fun r22 => (tIdx x12.2.1 k3).bind fun x23 => (t_scaled x14 x23).nx.bind fun r24 => (t_together r22 r24).nx.bind fun r25 => (t_put_on_3 s13 r25).nx.bind fun r26 => .ok (r26.2) else .ok (s13) : R (List ((List Rat) × (List Rat) × Rat)))) v5 (s11)).bind fun s27 => .ok (s27) : R (List ((List Rat) × (List Rat) × Rat)))) v5 (s10)).bind fun s28 => .ok s28
@[irreducible] noncomputable def t_worst_end (plan1 : ((List (Rat × Rat)) × (List (Rat × Rat)) × (List ((List Rat) × (List Rat) × Rat)))) (row2 : ((List Rat) × (List Rat) × Rat)) (k3 : Int) : R Rat :=
  (tIdx plan1.1 k3).bind fun x4 => (tIdx row2.1 k3).bind fun x5 => (rLt x5 (0 : Rat)).nx.bind fun r6 => if r6 = true then .ok x4.2 else .ok x4.1
@[irreducible] noncomputable def t_without_size (plan1 : ((List (Rat × Rat)) × (List (Rat × Rat)) × (List ((List Rat) × (List Rat) × Rat)))) (rows2 : (List ((List Rat) × (List Rat) × Rat))) (k3 : Int) : R (List ((List Rat) × (List Rat) × Rat)) :=
  (tFold (fun (s4 : (List ((List Rat) × (List Rat) × Rat))) x5 => ((tCat (tCut x5.1 none (some k3)) ([(0 : Rat)])).bind fun v6 => (tCat v6 (tCut x5.1 (some (k3 + (1 : Int))) none)).bind fun v7 => (tIdx x5.1 k3).bind fun x8 => (t_worst_end plan1 x5 k3).nx.bind fun r9 => (rMul x8 r9).nx.bind fun r10 => (rAdd x5.2.2 r10).nx.bind fun r11 => (t_put_on_3 s4 (v7, x5.2.1, r11)).nx.bind fun r12 => .ok (r12.2) : R (List ((List Rat) × (List Rat) × Rat)))) rows2 (([] : (List ((List Rat) × (List Rat) × Rat))))).bind fun s13 => .ok s13
end Sr
namespace Sr
open PySem PySem.Spec PyProof.Rows L2 L3 L4
noncomputable def dot2 (xs ys : List Rat) : Rat := (xs.zip ys).foldl (fun s x => s + x.1 * x.2) 0
theorem sum_core2 {xs ys : List Rat} {b c bd cd : Nat} (hx : ∀ q ∈ xs, hq q ≤ b ∧ dq q ≤ bd) (hy : ∀ q ∈ ys, hq q ≤ c ∧ dq q ≤ cd) (hl : 1 + xs.length * (b + c + 1) ≤ 400000) (hd : 1 + xs.length * (bd + cd) ≤ 9000) :
    tFold (fun (s3 : Rat) (x4 : Rat × Rat) => ((rMul x4.1 x4.2).nx.bind fun r5 => (rAdd s3 r5).nx.bind fun r6 => .ok (r6) : R Rat)) (xs.zip ys) 0 = .ok (dot2 xs ys) ∧ hq (dot2 xs ys) ≤ 1 + xs.length * (b + c + 1) ∧ dq (dot2 xs ys) ≤ 1 + xs.length * (bd + cd) := by
  have hz : (xs.zip ys).length ≤ xs.length := by simp; omega
  have go : ∀ (zs : List (Rat × Rat)) (j : Nat) (s : Rat), (∀ x ∈ zs, (hq x.1 ≤ b ∧ dq x.1 ≤ bd) ∧ hq x.2 ≤ c ∧ dq x.2 ≤ cd) → hq s ≤ 1 + j * (b + c + 1) → dq s ≤ 1 + j * (bd + cd) → j + zs.length ≤ xs.length → tFold (fun (s3 : Rat) (x4 : Rat × Rat) => ((rMul x4.1 x4.2).nx.bind fun r5 => (rAdd s3 r5).nx.bind fun r6 => .ok (r6) : R Rat)) zs s = .ok (zs.foldl (fun s x => s + x.1 * x.2) s) ∧ hq (zs.foldl (fun s x => s + x.1 * x.2) s) ≤ 1 + (j + zs.length) * (b + c + 1) ∧ dq (zs.foldl (fun s x => s + x.1 * x.2) s) ≤ 1 + (j + zs.length) * (bd + cd) := by
    intro zs
    induction zs with
    | nil => intro j s _ h h' _; exact ⟨rfl, h, h'⟩
    | cons x zs ih =>
      intro j s hb h h' hj
      rw [List.length_cons] at hj
      obtain ⟨⟨hu, hu'⟩, hv, hv'⟩ := hb x List.mem_cons_self
      have h1 : (j + 1) * (b + c + 1) ≤ xs.length * (b + c + 1) := Nat.mul_le_mul_right _ (by omega)
      have h2 : (j + 1) * (bd + cd) ≤ xs.length * (bd + cd) := Nat.mul_le_mul_right _ (by omega)
      have h3 : (j + 1) * (b + c + 1) = j * (b + c + 1) + (b + c + 1) := Nat.succ_mul ..
      have h4 : (j + 1) * (bd + cd) = j * (bd + cd) + (bd + cd) := Nat.succ_mul ..
      have hm := hq_mul x.1 x.2
      have ha := hq_add s (x.1 * x.2)
      have hm' := dq_mul x.1 x.2
      have ha' := dq_add s (x.1 * x.2)
      have e : ((rMul x.1 x.2).nx.bind fun r5 => (rAdd s r5).nx.bind fun r6 => .ok (r6) : R Rat) = .ok (s + x.1 * x.2) := eq_of_then (by
        refine st_timesW (by omega) (by omega) fun z1 e1 g1 g2 => ?_
        refine st_addW (by omega) (by omega) fun z2 e2 g2 g3 => ?_
        subst e1
        exact e2)
      obtain ⟨i1, i2, i3⟩ := ih (j + 1) (s + x.1 * x.2) (fun y hy => hb y (List.mem_cons_of_mem _ hy)) (by omega) (by omega) (by omega)
      refine ⟨?_, ?_⟩
      · unfold tFold
        rw [e]
        exact i1
      · rw [List.foldl_cons, List.length_cons, show j + (zs.length + 1) = j + 1 + zs.length by omega]
        exact ⟨i2, i3⟩
  obtain ⟨g1, g2, g3⟩ := go (xs.zip ys) 0 0 (fun x hx' => ⟨hx _ (List.of_mem_zip hx').1, hy _ (List.of_mem_zip hx').2⟩) (by have := hq_zero; omega) (by have := dq_zero; omega) (by omega)
  refine ⟨g1, Nat.le_trans g2 ?_, Nat.le_trans g3 ?_⟩
  · rw [Nat.zero_add]
    exact Nat.add_le_add_left (Nat.mul_le_mul_right _ hz) _
  · rw [Nat.zero_add]
    exact Nat.add_le_add_left (Nat.mul_le_mul_right _ hz) _
def Lz (h d : Nat) (xs : List Rat) : Prop := ∀ q ∈ xs, hq q ≤ h ∧ dq q ≤ d
theorem Lz.of {h : Nat} {xs : List Rat} (k : ∀ q ∈ xs, hq q ≤ h) : Lz h h xs := fun q hq' => ⟨k q hq', Nat.le_trans (dq_hq q) (k q hq')⟩
theorem Lz.mono {h d h' d' : Nat} {xs : List Rat} (k : Lz h d xs) (a : h ≤ h') (b : d ≤ d') : Lz h' d' xs := fun q hq' => ⟨Nat.le_trans (k q hq').1 a, Nat.le_trans (k q hq').2 b⟩
def unitR (n i : Nat) (x : Rat) : List Rat := (List.replicate n 0).set i x
noncomputable def pinsR (n : Nat) (i : Nat) (s : Rat × Rat) : List (List Rat × Rat) := [(unitR n i 1, 0 - s.1), (unitR n i (-1), s.2)]
noncomputable def wantsR (P : PlanR) (M : List Rat) : List (List Rat × Rat) := P.2.2.map fun w => (w.2.1, dot2 w.1 M + w.2.2)
noncomputable def pinAll (n : Nat) : List (Rat × Rat) → Nat → List (List Rat × Rat)
  | [], _ => []
  | s :: ss, i => pinsR n i s ++ pinAll n ss (i + 1)
noncomputable def rowsOf (P : PlanR) (M : List Rat) : List (List Rat × Rat) := wantsR P M ++ pinAll P.2.1.length P.2.1 0
structure Szs (a b bd c cd : Nat) (P : PlanR) (M : List Rat) : Prop where
  w : ∀ w ∈ P.2.2, w.1.length ≤ 6 ∧ Lz a a w.1 ∧ hq w.2.2 ≤ b ∧ dq w.2.2 ≤ bd
  wb : ∀ w ∈ P.2.2, w.2.1.length = P.2.1.length ∧ ∀ q ∈ w.2.1, hq q ≤ a
  s : ∀ x ∈ P.2.1, (hq x.1 ≤ b ∧ dq x.1 ≤ bd) ∧ hq x.2 ≤ b ∧ dq x.2 ≤ bd
  m : Lz c cd M
  lw : P.2.2.length ≤ 40
  ls : P.2.1.length ≤ 3
  n1 : 1 ≤ a
  n2 : 6 * a + (6 * (a + cd) + bd + 3) ≤ 1110
  n3 : 6 * (a + c + 1) + b + 3 ≤ 20000
theorem Szs.sum {a b bd c cd : Nat} {P : PlanR} {M : List Rat} (h : Szs a b bd c cd P M) {w : List Rat × List Rat × Rat} (hw : w ∈ P.2.2) : 1 + w.1.length * (a + c + 1) ≤ 400000 ∧ 1 + w.1.length * (a + cd) ≤ 9000 ∧ hq (dot2 w.1 M) ≤ 6 * (a + c + 1) + 1 ∧ dq (dot2 w.1 M) ≤ 6 * (a + cd) + 1 := by
  obtain ⟨w1, w2, w3, w4⟩ := h.w w hw
  have n2 := h.n2
  have n3 := h.n3
  have hmul : w.1.length * (a + c + 1) ≤ 6 * (a + c + 1) := Nat.mul_le_mul_right _ (by omega)
  have hmul2 : w.1.length * (a + cd) ≤ 6 * (a + cd) := Nat.mul_le_mul_right _ (by omega)
  have sc := sum_core2 w2 h.m (by omega) (by omega)
  exact ⟨by omega, by omega, by omega, by omega⟩
theorem unit_len {n i : Nat} {x : Rat} : (unitR n i x).length = n := by unfold unitR; rw [List.length_set, List.length_replicate]
theorem unit_mem {n i : Nat} {x y : Rat} (h : y ∈ unitR n i x) : y = 0 ∨ y = x := by
  unfold unitR at h
  rcases List.mem_or_eq_of_mem_set h with z | z
  · exact .inl (List.eq_of_mem_replicate z)
  · exact .inr z
theorem pinAll_mem {n : Nat} {r : List Rat × Rat} : ∀ {ss : List (Rat × Rat)} {i : Nat}, r ∈ pinAll n ss i → ∃ s ∈ ss, ∃ j, r = (unitR n j 1, 0 - s.1) ∨ r = (unitR n j (-1), s.2)
  | [], _, h => by simp [pinAll] at h
  | y :: ss, i, h => by
    rw [pinAll] at h
    rcases List.mem_append.mp h with z | z
    · refine ⟨y, List.mem_cons_self, i, ?_⟩
      unfold pinsR at z
      simpa using z
    · obtain ⟨s, hs, j, e⟩ := pinAll_mem z
      exact ⟨s, List.mem_cons_of_mem _ hs, j, e⟩
structure Rz (f a c e : Nat) (rows : List (List Rat × Rat)) : Prop where
  hl : ∀ r ∈ rows, r.1.length = f
  hs : ∀ r ∈ rows, ∀ x ∈ r.1, hq x ≤ a
  hs2 : ∀ r ∈ rows, hq r.2 ≤ c
  hs3 : ∀ r ∈ rows, dq r.2 ≤ e
theorem Szs.rz {a b bd c cd : Nat} {P : PlanR} {M : List Rat} (h : Szs a b bd c cd P M) : Rz P.2.1.length a (6 * (a + c + 1) + b + 3) (6 * (a + cd) + bd + 3) (rowsOf P M) := by
  have hz := hq_zero
  have h1 := hq_one
  have h2 := hq_lone
  have dz := dq_zero
  have n1 := h.n1
  have cases : ∀ r ∈ rowsOf P M, (∃ w ∈ P.2.2, r = (w.2.1, dot2 w.1 M + w.2.2)) ∨ ∃ s ∈ P.2.1, ∃ j, r = (unitR P.2.1.length j 1, 0 - s.1) ∨ r = (unitR P.2.1.length j (-1), s.2) := by
    intro r hr
    unfold rowsOf wantsR at hr
    rcases List.mem_append.mp hr with z | z
    · obtain ⟨w, hw, e⟩ := List.mem_map.mp z
      exact .inl ⟨w, hw, e.symm⟩
    · exact .inr (pinAll_mem z)
  refine ⟨fun r hr => ?_, fun r hr x hx => ?_, fun r hr => ?_, fun r hr => ?_⟩
  · rcases cases r hr with ⟨w, hw, e⟩ | ⟨s, _, j, e | e⟩ <;> subst e
    · exact (h.wb w hw).1
    · exact unit_len
    · exact unit_len
  · rcases cases r hr with ⟨w, hw, e⟩ | ⟨s, _, j, e | e⟩ <;> subst e
    · exact (h.wb w hw).2 x hx
    · rcases unit_mem hx with y | y <;> subst y <;> omega
    · rcases unit_mem hx with y | y <;> subst y <;> omega
  · rcases cases r hr with ⟨w, hw, e⟩ | ⟨s, hs, j, e | e⟩ <;> subst e
    · have := (h.sum hw).2.2.1
      have := (h.w w hw).2.2.1
      have := hq_add (dot2 w.1 M) w.2.2
      show hq (dot2 w.1 M + w.2.2) ≤ _
      omega
    · have := (h.s s hs).1.1
      have := hq_sub 0 s.1
      show hq (0 - s.1) ≤ _
      omega
    · have := (h.s s hs).2.1
      show hq s.2 ≤ _
      omega
  · rcases cases r hr with ⟨w, hw, e⟩ | ⟨s, hs, j, e | e⟩ <;> subst e
    · have := (h.sum hw).2.2.2
      have := (h.w w hw).2.2.2
      have := dq_add (dot2 w.1 M) w.2.2
      show dq (dot2 w.1 M + w.2.2) ≤ _
      omega
    · have := (h.s s hs).1.2
      have := dq_sub 0 s.1
      show dq (0 - s.1) ≤ _
      omega
    · have := (h.s s hs).2.2
      show dq s.2 ≤ _
      omega
end Sr
namespace Sr
open PySem PySem.Spec PyProof.Rows L2 L3 L4
end Sr
namespace Sr
open PySem PySem.Spec PyProof.Rows L2 L3 L4 Sx
def dotS : List Rat → List Rat → Rat
  | x :: xs, y :: ys => x * y + dotS xs ys
  | _, _ => 0
theorem dotF_rows {g : List Rat × Rat → Rat} {Y : Nat → Rat} : ∀ {l : List Rat} {rows : List (List Rat × Rat)} {n : Nat}, l.length = rows.length → (∀ k (hk : k < rows.length), Y (n + k) = g rows[k]) → dotF l n Y = dotS (rows.map g) l
  | [], [], n, _, _ => rfl
  | [], _ :: _, n, h, _ => by simp at h
  | _ :: _, [], n, h, _ => by simp at h
  | x :: l, r :: rows, n, h, hY => by
    have h0 := hY 0 (by simp)
    have e : dotF (x :: l) n Y = x * Y n + dotF l (n + 1) Y := rfl
    rw [e, List.map_cons, dotS, dotF_rows (g := g) (l := l) (rows := rows) (by simpa using h) fun k hk => by
      have := hY (k + 1) (by simp; omega)
      rw [show n + 1 + k = n + (k + 1) by omega, this]
      rfl]
    rw [Nat.add_zero] at h0
    rw [h0, Rat.mul_comm]
    rfl
theorem dotS_add {g1 g2 : List Rat × Rat → Rat} : ∀ {rows : List (List Rat × Rat)} {l : List Rat}, dotS (rows.map fun r => g1 r + g2 r) l = dotS (rows.map g1) l + dotS (rows.map g2) l
  | [], l => by
    show (0 : Rat) = 0 + 0
    grind
  | r :: rows, [] => by
    show (0 : Rat) = 0 + 0
    grind
  | r :: rows, x :: l => by
    rw [List.map_cons, List.map_cons, List.map_cons, dotS, dotS, dotS, dotS_add]
    grind
theorem Yp_at {rows : List (List Rat × Rat)} {f : Nat} (hl : ∀ r ∈ rows, r.1.length = f) (z : Nat → Rat) (k : Nat) (hk : k < rows.length) : Yp rows f z (f + k) = dotF rows[k].1 0 z + rows[k].2 := by
  have h := hl _ (List.getElem_mem hk)
  have e : dotF rows[k].1 0 (Yp rows f z) = dotF rows[k].1 0 z := dotF_congr fun j _ h2 => by
    unfold Yp
    rw [if_pos (by omega)]
  rw [space_Yp hl z k hk, e]
theorem bars_cols {rows : List (List Rat × Rat)} {f : Nat} {l : List Rat} (B : Bars rows f l) (hl : ∀ r ∈ rows, r.1.length = f) : dotS (rows.map Prod.snd) l < 0 ∧ ∀ i, i < f → dotS (rows.map fun r => r.1.getD i 0) l = 0 := by
  obtain ⟨c, hc, hY⟩ := B.neg
  have e0 := hY _ (space_Yp hl fun _ => 0)
  rw [dotF_rows (g := Prod.snd) B.len fun k hk => by
    rw [Yp_at hl (fun _ => 0) k hk, dotF_zero]
    exact Rat.zero_add _] at e0
  refine ⟨by rw [e0]; exact hc, fun i hi => ?_⟩
  have e1 := hY _ (space_Yp hl fun j => if j = i then 1 else 0)
  rw [dotF_rows (g := fun r => r.1.getD i 0 + r.2) B.len fun k hk => by
    rw [Yp_at hl (fun j => if j = i then 1 else 0) k hk, dotF_unit, if_pos (Nat.zero_le _), Nat.sub_zero]] at e1
  have e2 := dotS_add (g1 := fun r : List Rat × Rat => r.1.getD i 0) (g2 := Prod.snd) (rows := rows) (l := l)
  rw [e2, e0] at e1
  grind
end Sr
namespace Sr
open PySem PySem.Spec PyProof.Rows L2 L3 L4 Sx
theorem getD_hq {r : List Rat} {i a : Nat} (h : i < r.length) (ha : ∀ x ∈ r, hq x ≤ a) : hq (r.getD i 0) ≤ a := by
  rw [List.getD_eq_getElem?_getD, List.getElem?_eq_getElem h]
  exact ha _ (List.getElem_mem h)
structure Wz (rows : List (List Rat × Rat)) (l : List Rat) (f a c e W : Nat) : Prop where
  len : l.length = rows.length
  r : Rz f a c e rows
  hf : f ≤ 3
  hw : ∀ x ∈ l, hq x ≤ W
  n : rows.length ≤ 18
  s1 : 18 * (a + W + 1) + 1 ≤ 9000
  s2 : 18 * (e + W) + 1 ≤ 9000
  s3 : 18 * (c + W + 1) + 1 ≤ 390000
section
variable {rows : List (List Rat × Rat)} {l : List Rat} {f a c e W : Nat} (z : Wz rows l f a c e W)
include z
end
end Sr
namespace Sr
open PySem PySem.Spec PyProof.Rows L2 L3 L4 Sx
end Sr
namespace Sr
open PySem PySem.Spec PyProof.Rows L2 L3 L4
section
variable {E : Str → Prop}
abbrev Row := List Rat × List Rat × Rat
abbrev Plan := List (Rat × Rat) × List (Rat × Rat) × List Row
structure RowG (m f a c : Nat) (r : Row) : Prop where
  la : r.1.length = m
  lb : r.2.1.length = f
  sa : ∀ q ∈ r.1, hq q ≤ a
  sb : ∀ q ∈ r.2.1, hq q ≤ a
  sc : hq r.2.2 ≤ c
theorem RowG.mono {m f a c a' c' : Nat} {r : Row} (h : RowG m f a c r) (k : a ≤ a') (l : c ≤ c') : RowG m f a' c' r := ⟨h.la, h.lb, fun q hq => Nat.le_trans (h.sa q hq) k, fun q hq => Nat.le_trans (h.sb q hq) k, Nat.le_trans h.sc l⟩
theorem fold_okI {α σ : Type} {f : σ → α → R σ} {g : σ → α → σ} (I : Nat → σ → Prop) : ∀ {xs : List α} {i : Nat} {s : σ}, I i s → (∀ j s x, x ∈ xs → j < i + xs.length → I j s → f s x = .ok (g s x) ∧ I (j + 1) (g s x)) → tFold f xs s = .ok (xs.foldl g s) ∧ I (i + xs.length) (xs.foldl g s)
  | [], i, s, h, _ => ⟨rfl, h⟩
  | x :: xs, i, s, h, hs => by
    obtain ⟨e, h'⟩ := hs i s x List.mem_cons_self (by simp) h
    obtain ⟨e2, h2⟩ := fold_okI I (i := i + 1) h' fun j t y hy hj ht => hs j t y (List.mem_cons_of_mem _ hy) (by simp; omega) ht
    refine ⟨by unfold tFold; rw [e]; exact e2, ?_⟩
    rw [show i + (x :: xs).length = i + 1 + xs.length by simp; omega]
    exact h2
def plainR (r : Row) : Prop := (∀ q ∈ r.1 ++ r.2.1, q = 0) ∧ ¬ r.2.2 < 0
instance {r : Row} : Decidable (plainR r) := by unfold plainR; infer_instance
theorem isplain_ok {r : Row} {m f a c : Nat} (h : RowG m f a c r) (hm : m ≤ 1000) (hf : f ≤ 1000) (hb : c ≤ 8000) : t_is_plain r = .ok (decide (plainR r)) := by
  refine eq_of_then ?_
  unfold t_is_plain
  refine st_cat (by rw [h.la, h.lb]; omega) ?_
  refine st_loop (fun i _ => ∀ (j : Nat) (hj : j < (r.1 ++ r.2.1).length), j < i → (r.1 ++ r.2.1)[j] = 0) (fun _ => ∀ q ∈ r.1 ++ r.2.1, q = 0) (fun z => z = false ∧ ∃ q ∈ r.1 ++ r.2.1, q ≠ 0) (fun j hj h => absurd h (by omega)) (fun s hs q hq => ?_) (fun j x s hx hs => ?_) (fun s hs => ?_) (fun z hz => ?_)
  · obtain ⟨i, hi, e⟩ := List.getElem_of_mem hq
    rw [← e]
    exact hs i hi hi
  · obtain ⟨h1, h2⟩ := List.getElem?_eq_some_iff.mp hx
    by_cases e : x = 0
    · rw [if_neg (by simp [e])]
      intro i hi hj
      by_cases e2 : i = j
      · subst e2; rw [h2, e]
      · exact hs i hi (by omega)
    · rw [if_pos e]
      exact ⟨rfl, x, h2 ▸ List.getElem_mem _, e⟩
  · refine st_bind (Q := fun z => z = !decide (r.2.2 < 0)) ?_ fun z hz => ?_
    · exact st_lt (by have := h.sc; rw [hq_zero]; omega) rfl
    · show z = _
      rw [hz]
      unfold plainR
      by_cases c : r.2.2 < 0
      · simp [c]
      · rw [decide_eq_false c]
        exact (decide_eq_true ⟨hs, c⟩).symm
  · show z = _
    obtain ⟨e, q, h1, h2⟩ := hz
    rw [e]
    unfold plainR
    symm
    exact decide_eq_false fun k => h2 (k.1 q h1)
noncomputable def putR (rows : List Row) (r : Row) : List Row := if plainR r ∨ r ∈ rows then rows else rows ++ [r]
theorem puton_ok {rows : List Row} {r : Row} {m f a c : Nat} (h : RowG m f a c r) (hm : m ≤ 1000) (hf : f ≤ 1000) (hb : c ≤ 8000) (hl : rows.length < 16777216) : t_put_on rows r = .ok ((), putR rows r) := by
  refine eq_of_then ?_
  unfold t_put_on
  refine st_bind (Q := fun z => z = decide (¬ (plainR r ∨ r ∈ rows))) ?_ fun z hz => ?_
  · refine st_callE (isplain_ok h hm hf hb) ?_
    by_cases c : plainR r <;> simp [c]
  · subst hz
    unfold putR
    by_cases c : plainR r ∨ r ∈ rows
    · simp [c]
    · simp only [c, not_false_eq_true, decide_true, if_true, if_false]
      exact st_app hl rfl
theorem putR_len {rows : List Row} {r : Row} : (putR rows r).length ≤ rows.length + 1 := by
  unfold putR; split <;> simp
theorem putR_all {rows : List Row} {r : Row} {P : Row → Prop} (h : ∀ x ∈ rows, P x) (k : P r) : ∀ x ∈ putR rows r, P x := by
  unfold putR; split
  · exact h
  · intro x hx
    rcases List.mem_append.mp hx with e | e
    · exact h x e
    · simp at e; subst e; exact k
noncomputable def mixR (ones : List Rat) (many : Rat) (others : List Rat) (more : Rat) : List Rat := (ones.zip others).map fun x => x.1 * many + x.2 * more
theorem mixed_ok {xs ys : List Rat} {u v : Rat} {b : Nat} (hl : xs.length ≤ 1000) (h1 : ∀ q ∈ xs, hq q ≤ b) (h2 : ∀ q ∈ ys, hq q ≤ b) (hu : hq u ≤ b) (hv : hq v ≤ b) (hb : b ≤ 2000) : t_mixed xs u ys v = .ok (mixR xs u ys v) ∧ ∀ q ∈ mixR xs u ys v, hq q ≤ 4 * b + 1 := by
  have key : ∀ x ∈ xs.zip ys, Then ((rMul x.1 u).nx.bind fun r6 => (rMul x.2 v).nx.bind fun r7 => (rAdd r6 r7).nx.bind fun r8 => .ok r8 : R Rat) (fun z => z = x.1 * u + x.2 * v ∧ hq z ≤ 4 * b + 1) (fun _ => False) := by
    intro x hx
    obtain ⟨a, c⟩ := x
    have := h1 a (List.of_mem_zip hx).1
    have := h2 c (List.of_mem_zip hx).2
    dsimp only
    refine st_times (by omega) fun z1 e1 g1 => ?_
    refine st_times (by omega) fun z2 e2 g2 => ?_
    refine st_add (by omega) fun z3 e3 g3 => ?_
    subst e1 e2
    exact ⟨e3, by omega⟩
  constructor
  · refine eq_of_then ?_
    unfold t_mixed
    exact st_mapF (fun x => x.1 * u + x.2 * v) (by simp; omega) (fun x hx => eq_of_then ((key x hx).imp fun _ h => h.1)) rfl
  · intro q hq
    obtain ⟨x, hx, e⟩ := List.mem_map.mp hq
    have := key x hx
    obtain ⟨a, e1, e2, e3⟩ := of_then this
    rw [← e, ← e2]
    exact e3
theorem mixR_len {xs ys : List Rat} {u v : Rat} : (mixR xs u ys v).length = min xs.length ys.length := by simp [mixR]
noncomputable def partR (r : Row) (n : Nat) : Rat := r.2.1.getD n 0
noncomputable def takR (low high : Row) (n : Nat) : Row := (mixR low.1 (-partR high n) high.1 (partR low n), mixR low.2.1 (-partR high n) high.2.1 (partR low n), low.2.2 * (-partR high n) + high.2.2 * partR low n)
theorem st_part {δ : Type} {P : δ → Prop} {r : Row} {i : Int} {n : Nat} {m f a c : Nat} {k : Rat → R δ} (h : RowG m f a c r) (hi : i = n) (hn : n < f) (hk : hq (partR r n) ≤ a → Then (k (partR r n)) P E) : Then ((tIdx r.2.1 i).bind k) P E := by
  have hl : n < r.2.1.length := by rw [h.lb]; exact hn
  have e : partR r n = r.2.1[n] := by unfold partR; rw [List.getD_eq_getElem?_getD, List.getElem?_eq_getElem hl]; rfl
  refine st_idx n hi hl ?_
  rw [← e]
  exact hk (e ▸ h.sb _ (List.getElem_mem _))
theorem tak_ok {low high : Row} {k : Int} {n : Nat} {m f a c : Nat} (h1 : RowG m f a c low) (h2 : RowG m f a c high) (hk : k = n) (hn : n < f) (hm : m ≤ 1000) (hf : f ≤ 1000) (hb : a ≤ 2000) (hc : c ≤ 2000) : t_taken_together low high k = .ok (takR low high n) ∧ RowG m f (4 * a + 1) (2 * (a + c) + 1) (takR low high n) := by
  have : Then (t_taken_together low high k) (fun z => z = takR low high n ∧ RowG m f (4 * a + 1) (2 * (a + c) + 1) z) (fun _ => False) := by
    unfold t_taken_together
    refine st_part h2 hk hn fun s1 => ?_
    refine st_neg (by omega) fun z2 e2 g2 => ?_
    refine st_part h1 hk hn fun s3 => ?_
    have := h1.sc
    have := h2.sc
    refine st_times (by omega) fun z4 e4 g4 => ?_
    refine st_times (by omega) fun z5 e5 g5 => ?_
    refine st_add (by omega) fun z6 e6 g6 => ?_
    obtain ⟨m1, b1⟩ := mixed_ok (xs := low.1) (ys := high.1) (u := z2) (v := partR low n) (b := a) (by rw [h1.la]; exact hm) h1.sa h2.sa (by omega) s3 hb
    obtain ⟨m2, b2⟩ := mixed_ok (xs := low.2.1) (ys := high.2.1) (u := z2) (v := partR low n) (b := a) (by rw [h1.lb]; exact hf) h1.sb h2.sb (by omega) s3 hb
    refine st_callE m1 ?_
    refine st_callE m2 ?_
    refine ⟨by subst e2 e4 e5 e6; rfl, ⟨?_, ?_, b1, b2, by show hq z6 ≤ _; omega⟩⟩
    · show (mixR _ _ _ _).length = m
      rw [mixR_len, h1.la, h2.la]; simp
    · show (mixR _ _ _ _).length = f
      rw [mixR_len, h1.lb, h2.lb]; simp
  obtain ⟨a, e1, e2, e3⟩ := of_then this
  subst e2
  exact ⟨e1, e3⟩
noncomputable def leftR (lows highs zeros : List Row) (n : Nat) : List Row := lows.foldl (fun s l => highs.foldl (fun s h => putR s (takR l h n)) s) zeros
noncomputable def outR (rows : List Row) (n : Nat) : List Row × List Row × List Row :=
  (rows.filter fun r => decide (0 < partR r n), rows.filter fun r => decide (partR r n < 0), leftR (rows.filter fun r => decide (0 < partR r n)) (rows.filter fun r => decide (partR r n < 0)) (rows.filter fun r => decide (partR r n = 0)) n)
theorem rat_tri (q : Rat) : q < 0 ∨ q = 0 ∨ 0 < q := by grind
theorem three_len {n : Nat} : ∀ {rows : List Row}, (rows.filter fun r => decide (0 < partR r n)).length + (rows.filter fun r => decide (partR r n < 0)).length + (rows.filter fun r => decide (partR r n = 0)).length = rows.length
  | [] => rfl
  | r :: rows => by
    have ih := three_len (n := n) (rows := rows)
    rcases rat_tri (partR r n) with h | h | h
    · have h1 : ¬ 0 < partR r n := by grind
      have h2 : ¬ partR r n = 0 := by grind
      simp [h, h1, h2]; omega
    · simp [h, Rat.lt_irrefl]; omega
    · have h1 : ¬ partR r n < 0 := by grind
      have h2 : ¬ partR r n = 0 := by grind
      simp [h, h1, h2]; omega
def nL (n : Nat) : Nat := n + n * n / 4
theorem nL_le {a b c n : Nat} (h : a + b + c = n) : c + a * b ≤ nL n := by
  unfold nL
  have h1 : 4 * (a * b) ≤ n * n := by
    have h2 : (a + b) * (a + b) ≤ n * n := Nat.mul_le_mul (by omega) (by omega)
    have h3 : 4 * (a * b) ≤ (a + b) * (a + b) := by
      rcases Nat.le_total a b with h | h
      · obtain ⟨d, rfl⟩ := Nat.exists_eq_add_of_le h
        have : (a + (a + d)) * (a + (a + d)) = 4 * (a * (a + d)) + d * d := by grind
        omega
      · obtain ⟨d, rfl⟩ := Nat.exists_eq_add_of_le h
        have : (b + d + b) * (b + d + b) = 4 * ((b + d) * b) + d * d := by grind
        omega
    omega
  omega
theorem nL_mono {a b : Nat} (h : a ≤ b) : nL a ≤ nL b := by
  unfold nL
  have := Nat.mul_le_mul h h
  omega
theorem out_ok {rows : List Row} {k : Int} {n : Nat} {m f a c : Nat} (h : ∀ r ∈ rows, RowG m f a c r) (hk : k = n) (hn : n < f) (hm : m ≤ 1000) (hf : f ≤ 1000) (ha : a ≤ 1900) (hc : c ≤ 2000) (hl : rows.length ≤ 3000) :
    t_taken_out rows k = .ok (outR rows n) ∧ (∀ r ∈ (outR rows n).2.2, RowG m f (4 * a + 1) (2 * (a + c) + 1) r) ∧ (outR rows n).2.2.length ≤ nL rows.length := by
  have tl := three_len (rows := rows) (n := n)
  have key : Then (t_taken_out rows k) (fun z => z = outR rows n ∧ (∀ r ∈ z.2.2, RowG m f (4 * a + 1) (2 * (a + c) + 1) r) ∧ z.2.2.length ≤ nL rows.length) (fun _ => False) := by
    unfold t_taken_out
    refine st_fmF (fun r => decide (0 < partR r n)) (by omega) (fun r hr => eq_of_then (st_part (h r hr) hk hn fun s => st_lt (by rw [hq_zero]; omega) ?_)) ?_
    · by_cases c : 0 < partR r n <;> simp [c]
    refine st_fmF (fun r => decide (partR r n < 0)) (by omega) (fun r hr => eq_of_then (st_part (h r hr) hk hn fun s => st_lt (by rw [hq_zero]; omega) ?_)) ?_
    · by_cases c : partR r n < 0 <;> simp [c]
    refine st_fmF (fun r => decide (partR r n = 0)) (by omega) (fun r hr => eq_of_then (st_part (h r hr) hk hn fun s => ?_)) ?_
    · by_cases c : partR r n = 0 <;> simp [c]
    have sl : ∀ r ∈ rows.filter (fun r => decide (0 < partR r n)), RowG m f a c r := fun r hr => h r (List.mem_filter.mp hr).1
    have sh : ∀ r ∈ rows.filter (fun r => decide (partR r n < 0)), RowG m f a c r := fun r hr => h r (List.mem_filter.mp hr).1
    have sz : ∀ r ∈ rows.filter (fun r => decide (partR r n = 0)), RowG m f (4 * a + 1) (2 * (a + c) + 1) r := fun r hr => (h r (List.mem_filter.mp hr).1).mono (by omega) (by omega)
    unfold outR
    generalize rows.filter (fun r => decide (0 < partR r n)) = lows at *
    generalize rows.filter (fun r => decide (partR r n < 0)) = highs at *
    generalize rows.filter (fun r => decide (partR r n = 0)) = zeros at *
    have nl := nL_le (a := lows.length) (b := highs.length) (c := zeros.length) tl
    have nl2 : nL rows.length ≤ 2300000 := Nat.le_trans (nL_mono hl) (by decide)
    refine And.elim ?_ (fold_okI (f := fun (s14 : List Row) x15 => ((tFold (fun (s16 : List Row) x17 => ((t_taken_together x15 x17 k).nx.bind fun r18 => (t_put_on s16 r18).nx.bind fun r19 => .ok (r19.2) : R (List Row))) highs (s14)).bind fun s20 => .ok (s20) : R (List Row)))
      (g := fun s l => highs.foldl (fun s h => putR s (takR l h n)) s) (xs := lows) (i := 0) (s := zeros)
      (fun i s => (∀ r ∈ s, RowG m f (4 * a + 1) (2 * (a + c) + 1) r) ∧ s.length ≤ zeros.length + i * highs.length) ⟨sz, by omega⟩
      (fun j s l hl1 hj hsl => ?_))
    · intro e1 ⟨h1, h2⟩
      rw [e1]
      refine ⟨rfl, h1, Nat.le_trans h2 ?_⟩
      rw [Nat.zero_add]
      exact nl
    · obtain ⟨hs, ls⟩ := hsl
      have hlo := sl l hl1
      have hj2 : (j + 1) * highs.length ≤ lows.length * highs.length := Nat.mul_le_mul_right _ (by rw [Nat.zero_add] at hj; exact hj)
      have hj3 : (j + 1) * highs.length = j * highs.length + highs.length := Nat.succ_mul ..
      obtain ⟨e2, h3, h4⟩ := fold_okI (f := fun (s16 : List Row) x17 => ((t_taken_together l x17 k).nx.bind fun r18 => (t_put_on s16 r18).nx.bind fun r19 => .ok (r19.2) : R (List Row)))
        (g := fun s h => putR s (takR l h n)) (xs := highs) (i := 0) (s := s) (fun i s' => (∀ r ∈ s', RowG m f (4 * a + 1) (2 * (a + c) + 1) r) ∧ s'.length ≤ s.length + i) ⟨hs, by omega⟩ (fun i t x hx hi ⟨ht, lt⟩ => by
          have hi2 : i < highs.length := by rw [Nat.zero_add] at hi; exact hi
          obtain ⟨e4, r4⟩ := tak_ok hlo (sh x hx) hk hn hm hf (by omega) (by omega)
          have e5 := puton_ok (rows := t) r4 hm hf (by omega) (by omega)
          refine ⟨?_, putR_all ht r4, ?_⟩
          · rw [e4]; show (t_put_on t _).nx.bind _ = _; rw [e5]; rfl
          · have := putR_len (rows := t) (r := takR l x n)
            omega)
      refine ⟨?_, h3, ?_⟩
      · rw [e2]; rfl
      · refine Nat.le_trans h4 ?_
        rw [Nat.zero_add]
        omega
  obtain ⟨a, e1, e2, e3, e4⟩ := of_then key
  subst e2
  exact ⟨e1, e3, e4⟩
structure PlanG (m f a b c : Nat) (p : Plan) : Prop where
  la : p.1.length = m
  lb : p.2.1.length = f
  sa : ∀ x ∈ p.1, hq x.1 ≤ b ∧ hq x.2 ≤ b
  sb : ∀ x ∈ p.2.1, hq x.1 ≤ b ∧ hq x.2 ≤ b
  oa : ∀ x ∈ p.1, x.1 ≤ x.2
  ob : ∀ x ∈ p.2.1, x.1 ≤ x.2
  sd : ∀ r ∈ p.2.2, RowG m f a c r
noncomputable def bndR (p : Plan) (n : Nat) (s c : Rat) : Row := (p.1.map fun _ => 0, (p.2.1.map fun _ => 0).set n s, c)
theorem bound_ok {p : Plan} {k : Int} {n m f a b c b' : Nat} {s d : Rat} (h : PlanG m f a b c p) (hk : k = n) (hn : n < f) (hm : m ≤ 1000) (hf : f ≤ 1000) (hs : hq s ≤ a) (hc : hq d ≤ b') (hb : 1 ≤ a) : t_bound_row p k s d = .ok (bndR p n s d) ∧ RowG m f a b' (bndR p n s d) := by
  constructor
  · refine eq_of_then ?_
    unfold t_bound_row
    refine st_mapF (fun _ => 0) (by rw [h.lb]; omega) (fun _ _ => rfl) ?_
    refine st_set n hk (by simp [h.lb, hn]) ?_
    exact st_mapF (fun _ => 0) (by rw [h.la]; omega) (fun _ _ => rfl) rfl
  · refine ⟨by simp [bndR, h.la], by simp [bndR, h.lb], fun q hq' => ?_, fun q hq' => ?_, hc⟩
    · obtain ⟨_, _, e⟩ := List.mem_map.mp hq'
      subst e; rw [hq_zero]; exact hb
    · rcases List.mem_or_eq_of_mem_set hq' with e | e
      · obtain ⟨_, _, e⟩ := List.mem_map.mp e
        subst e; rw [hq_zero]; exact hb
      · subst e; exact hs
noncomputable def firstR (p : Plan) : List Row := (enumL p.2.1).foldl (fun s x => putR (putR s (bndR p x.1.toNat 1 (-x.2.1))) (bndR p x.1.toNat (-1) x.2.2)) (p.2.2.foldl putR [])
theorem first_ok {p : Plan} {m f a b c : Nat} (h : PlanG m f a b c p) (hm : m ≤ 1000) (hf : f ≤ 1000) (hb : 1 ≤ a) (hbc : b ≤ c) (hc : c ≤ 7000) (hl : p.2.2.length ≤ 10000) : t_first_rows p = .ok (firstR p) ∧ (∀ r ∈ firstR p, RowG m f a c r) ∧ (firstR p).length ≤ p.2.2.length + 2 * f := by
  refine And.elim ?_ (fold_okI (f := fun (s2 : List Row) (x3 : Row) => ((t_put_on s2 (x3.1, x3.2.1, x3.2.2)).nx.bind fun r4 => .ok (r4.2) : R (List Row))) (g := putR) (xs := p.2.2) (i := 0) (s := []) (fun i s => (∀ r ∈ s, RowG m f a c r) ∧ s.length ≤ i) ⟨by simp, by simp⟩ fun j s x hx hj hs => ?_)
  · intro e1 ⟨h1, h2⟩
    rw [Nat.zero_add] at h2
    refine And.elim ?_ (fold_okI (f := fun (s6 : List Row) (x7 : Int × Rat × Rat) => ((rSub (0 : Rat) x7.2.1).nx.bind fun r8 => (t_bound_row p x7.1 (1 : Rat) r8).nx.bind fun r9 => (t_put_on s6 r9).nx.bind fun r10 => (t_bound_row p x7.1 (-1 : Rat) x7.2.2).nx.bind fun r11 => (t_put_on r10.2 r11).nx.bind fun r12 => .ok (r12.2) : R (List Row)))
      (g := fun s x => putR (putR s (bndR p x.1.toNat 1 (-x.2.1))) (bndR p x.1.toNat (-1) x.2.2)) (xs := enumL p.2.1) (i := 0) (s := p.2.2.foldl putR []) (fun i s => (∀ r ∈ s, RowG m f a c r) ∧ s.length ≤ p.2.2.length + 2 * i) ⟨h1, by omega⟩ fun j s x hx hj hs => ?_)
    · intro e2 ⟨h3, h4⟩
      rw [Nat.zero_add, len_enumL, h.lb] at h4
      refine ⟨?_, h3, h4⟩
      unfold t_first_rows
      rw [e1, bind_okS, e2]
      rfl
    · obtain ⟨hs1, hs2⟩ := hs
      rw [len_enumL, h.lb] at hj
      obtain ⟨i, ei, hi, e⟩ := mem_enumL hx
      obtain ⟨b1, b2⟩ := h.sb _ (e ▸ List.getElem_mem hi)
      rw [h.lb] at hi
      have hi' : x.1.toNat < f := by omega
      have hk : x.1 = (x.1.toNat : Int) := by omega
      have o1 := bound_ok (s := 1) (d := -x.2.1) (b' := c) h hk hi' hm hf (by rw [hq_one]; omega) (by rw [hq_neg]; omega) hb
      have o2 := bound_ok (s := -1) (d := x.2.2) (b' := c) h hk hi' hm hf (by rw [hq_lone]; omega) (by omega) hb
      have p1 := putR_len (rows := s) (r := bndR p x.1.toNat 1 (-x.2.1))
      have p2 := putR_len (rows := putR s (bndR p x.1.toNat 1 (-x.2.1))) (r := bndR p x.1.toNat (-1) x.2.2)
      have c1 := puton_ok (rows := s) o1.2 hm hf (by omega) (by omega)
      have c2 := puton_ok (rows := putR s (bndR p x.1.toNat 1 (-x.2.1))) o2.2 hm hf (by omega) (by omega)
      refine ⟨eq_of_then ?_, putR_all (putR_all hs1 o1.2) o2.2, by omega⟩
      refine st_neg (by omega) fun z ez hz => ?_
      subst ez
      refine st_callE o1.1 ?_
      refine st_callE c1 ?_
      refine st_callE o2.1 ?_
      exact st_callE c2 rfl
  · obtain ⟨hs1, hs2⟩ := hs
    have hx' := h.sd x hx
    refine ⟨?_, putR_all hs1 hx', by have := putR_len (rows := s) (r := x); omega⟩
    show (t_put_on s x).nx.bind _ = _
    rw [puton_ok hx' hm hf (by omega) (by omega)]
    rfl
noncomputable def ruleR : Nat → List Row × List (List Row × List Row) → List Row × List (List Row × List Row)
  | 0, s => s
  | n + 1, s => ruleR n ((outR s.1 n).2.2, ((outR s.1 n).1, (outR s.1 n).2.1) :: s.2)
theorem dnI_succ {n : Nat} : dnI (((n + 1 : Nat) : Int) - 1) (-1) = (n : Int) :: dnI ((n : Int) - 1) (-1) := by
  unfold dnI
  rw [show (((n + 1 : Nat) : Int) - 1 - -1).toNat = n + 1 by omega, show ((n : Int) - 1 - -1).toNat = n by omega, List.range_succ_eq_map]
  simp
  intro a _
  omega
def gA : Nat → Nat → Nat
  | 0, a => a
  | n + 1, a => gA n (4 * a + 1)
def gC : Nat → Nat → Nat → Nat
  | 0, _, c => c
  | n + 1, a, c => gC n (4 * a + 1) (2 * (a + c) + 1)
def gL : Nat → Nat → Nat
  | 0, l => l
  | n + 1, l => gL n (nL l)
theorem le_gA {n a : Nat} : a ≤ gA n a := by
  induction n generalizing a with
  | zero => exact Nat.le_refl _
  | succ n ih => exact Nat.le_trans (by omega) ih
theorem le_gC {n a c : Nat} : c ≤ gC n a c := by
  induction n generalizing a c with
  | zero => exact Nat.le_refl _
  | succ n ih => exact Nat.le_trans (by omega) ih
theorem gL_mono {n : Nat} : ∀ {a b : Nat}, a ≤ b → gL n a ≤ gL n b := by
  induction n with
  | zero => exact id
  | succ n ih => intro a b h; exact ih (nL_mono h)
def StepsG (m f a c : Nat) : Nat → List (List Row × List Row) → Prop
  | _, [] => True
  | n, s :: ss => (∀ r ∈ s.1, RowG m f (gA n a) (gC n a c) r) ∧ (∀ r ∈ s.2, RowG m f (gA n a) (gC n a c) r) ∧ StepsG m f a c (n - 1) ss
theorem gA_out {n a : Nat} : gA n (4 * a + 1) = 4 * gA n a + 1 := by
  induction n generalizing a with
  | zero => rfl
  | succ n ih => exact ih
theorem gC_out {n a c : Nat} : gC n (4 * a + 1) (2 * (a + c) + 1) = 2 * (gA n a + gC n a c) + 1 := by
  induction n generalizing a c with
  | zero => rfl
  | succ n ih => exact ih
theorem rule_loop {m f : Nat} (hm : m ≤ 1000) (hf : f ≤ 1000) : ∀ (n : Nat) {rows : List Row} {steps : List (List Row × List Row)} {a c L : Nat}, n ≤ f → (∀ r ∈ rows, RowG m f a c r) → rows.length ≤ L → gA n a ≤ 7601 → gC n a c ≤ 4001 → gL n L ≤ 3000000 → L ≤ 3000 → (∀ k, k < n → gL k L ≤ 3000) → steps.length + n ≤ 2000 →
    tFold (fun (s4 : List Row × List (List Row × List Row)) x5 => ((t_taken_out s4.1 x5).nx.bind fun r6 => (tIns s4.2 (0 : Int) (r6.1, r6.2.1)).bind fun steps7 => .ok (r6.2.2, steps7) : R (List Row × List (List Row × List Row)))) (dnI ((n : Int) - 1) (-1)) (rows, steps) = .ok (ruleR n (rows, steps)) ∧ (∀ r ∈ (ruleR n (rows, steps)).1, RowG m f (gA n a) (gC n a c) r) ∧ (ruleR n (rows, steps)).1.length ≤ gL n L
  | 0, rows, steps, a, c, L, _, h, hl, _, _, _, _, _, _ => ⟨rfl, h, hl⟩
  | n + 1, rows, steps, a, c, L, hn, h, hl, h1, h1c, h2, hL, hk, h3 => by
    have lb : 4 * a + 1 ≤ 7601 := Nat.le_trans le_gA h1
    have lc : 2 * (a + c) + 1 ≤ 4001 := Nat.le_trans le_gC h1c
    obtain ⟨o1, o2, o3⟩ := out_ok (k := (n : Int)) (n := n) h rfl (by omega) hm hf (by omega) (by omega) (by omega)
    have o4 : (outR rows n).2.2.length ≤ nL L := Nat.le_trans o3 (nL_mono hl)
    obtain ⟨r1, r2, r3⟩ : tFold (fun (s4 : List Row × List (List Row × List Row)) x5 => ((t_taken_out s4.1 x5).nx.bind fun r6 => (tIns s4.2 (0 : Int) (r6.1, r6.2.1)).bind fun steps7 => .ok (r6.2.2, steps7) : R (List Row × List (List Row × List Row)))) (dnI ((n : Int) - 1) (-1)) ((outR rows n).2.2, ((outR rows n).1, (outR rows n).2.1) :: steps) = .ok (ruleR n ((outR rows n).2.2, ((outR rows n).1, (outR rows n).2.1) :: steps)) ∧ (∀ r ∈ (ruleR n ((outR rows n).2.2, ((outR rows n).1, (outR rows n).2.1) :: steps)).1, RowG m f (gA n (4 * a + 1)) (gC n (4 * a + 1) (2 * (a + c) + 1)) r) ∧ (ruleR n ((outR rows n).2.2, ((outR rows n).1, (outR rows n).2.1) :: steps)).1.length ≤ gL n (nL L) := by
      cases n with
      | zero => exact ⟨rfl, o2, o4⟩
      | succ n => exact rule_loop hm hf (n + 1) (by omega) o2 o4 h1 h1c h2 (hk 1 (by omega)) (fun k hk' => hk (k + 1) (by omega)) (by simp; omega)
    refine ⟨?_, r2, r3⟩
    rw [dnI_succ]
    unfold tFold
    rw [show ((t_taken_out rows n).nx.bind fun r6 => (tIns steps (0 : Int) (r6.1, r6.2.1)).bind fun steps7 => .ok (r6.2.2, steps7) : R (List Row × List (List Row × List Row))) = .ok ((outR rows n).2.2, ((outR rows n).1, (outR rows n).2.1) :: steps) from eq_of_then (st_callE o1 (st_ins0 (by omega) rfl))]
    exact r1
theorem steps_ok {m f : Nat} (hm : m ≤ 1000) (hf : f ≤ 1000) : ∀ (n : Nat) {rows : List Row} {steps : List (List Row × List Row)} {a c a0 c0 d L : Nat}, n ≤ f → (∀ r ∈ rows, RowG m f a c r) → rows.length ≤ L → a = gA d a0 → c = gC d a0 c0 → gA n a ≤ 7601 → gC n a c ≤ 4001 → (∀ k, k < n → gL k L ≤ 3000) → StepsG m f a0 c0 (d - 1) steps → (∀ s ∈ steps, s.1.length ≤ 3000) →
    StepsG m f a0 c0 (d + n - 1) (ruleR n (rows, steps)).2 ∧ ∀ s ∈ (ruleR n (rows, steps)).2, s.1.length ≤ 3000
  | 0, rows, steps, a, c, a0, c0, d, L, _, _, _, _, _, _, _, _, hs, hs2 => ⟨by rw [Nat.add_zero]; exact hs, hs2⟩
  | n + 1, rows, steps, a, c, a0, c0, d, L, hn, h, hl, ea, ec, h1, h1c, hk, hs, hs2 => by
    have lb : 4 * a + 1 ≤ 7601 := Nat.le_trans le_gA h1
    have lc : 2 * (a + c) + 1 ≤ 4001 := Nat.le_trans le_gC h1c
    have hL := hk 0 (by omega)
    have hL : L ≤ 3000 := hL
    obtain ⟨o1, o2, o3⟩ := out_ok (k := (n : Int)) (n := n) h rfl (by omega) hm hf (by omega) (by omega) (by omega)
    have o4 : (outR rows n).2.2.length ≤ nL L := Nat.le_trans o3 (nL_mono hl)
    have := steps_ok hm hf n (rows := (outR rows n).2.2) (steps := ((outR rows n).1, (outR rows n).2.1) :: steps) (a := 4 * a + 1) (c := 2 * (a + c) + 1) (a0 := a0) (c0 := c0) (d := d + 1) (L := nL L) (by omega) o2 o4 (by rw [ea]; exact gA_out.symm) (by rw [ea, ec]; exact gC_out.symm) h1 h1c (fun k hk' => hk (k + 1) (by omega)) ⟨fun r hr => ?_, fun r hr => ?_, ?_⟩ fun s hs' => ?_
    · rw [show d + (n + 1) - 1 = d + 1 + n - 1 by omega]
      exact this
    · rw [show d + 1 - 1 = d by omega, ← ea, ← ec]
      exact h r (List.mem_filter.mp hr).1
    · rw [show d + 1 - 1 = d by omega, ← ea, ← ec]
      exact h r (List.mem_filter.mp hr).1
    · rw [show d + 1 - 1 - 1 = d - 1 by omega]; exact hs
    · rcases List.mem_cons.mp hs' with e | e
      · subst e
        exact Nat.le_trans (List.length_filter_le ..) (by omega)
      · exact hs2 s e
theorem rule_ok {p : Plan} {m f a b c : Nat} (h : PlanG m f a b c p) (hm : m ≤ 1000) (hf : f ≤ 1000) (hb : 1 ≤ a) (hbc : b ≤ c) (hc : c ≤ 7000) (hl : p.2.2.length ≤ 1000) (h1 : gA f a ≤ 7601) (h1c : gC f a c ≤ 4001) (h2 : gL f (p.2.2.length + 2 * f) ≤ 3000000) (h3 : p.2.2.length + 2 * f ≤ 3000) (hk : ∀ k, k < f → gL k (p.2.2.length + 2 * f) ≤ 3000) :
    t_rule_of p = .ok ((ruleR f (firstR p, [])).2, (ruleR f (firstR p, [])).1) ∧ (∀ r ∈ (ruleR f (firstR p, [])).1, RowG m f (gA f a) (gC f a c) r) ∧ StepsG m f a c (f - 1) (ruleR f (firstR p, [])).2 ∧ (∀ s ∈ (ruleR f (firstR p, [])).2, s.1.length ≤ 3000) ∧ (ruleR f (firstR p, [])).1.length ≤ gL f (p.2.2.length + 2 * f) := by
  obtain ⟨e1, r1, l1⟩ := first_ok h hm hf hb hbc hc (by omega)
  obtain ⟨e2, r2, l2⟩ := rule_loop hm hf f (rows := firstR p) (steps := []) (Nat.le_refl _) r1 l1 h1 h1c h2 h3 hk (by simp; omega)
  have s := steps_ok hm hf f (rows := firstR p) (steps := []) (a0 := a) (c0 := c) (d := 0) (Nat.le_refl _) r1 l1 rfl rfl h1 h1c hk trivial (by simp)
  rw [Nat.zero_add] at s
  refine ⟨eq_of_then ?_, r2, s.1, s.2, l2⟩
  unfold t_rule_of
  refine st_callE e1 ?_
  refine st_down (by rw [tLen_eq, h.lb]; omega) (by rw [tLen_eq, h.lb]; omega) (by omega) (by omega) ?_
  rw [tLen_eq, h.lb, e2]
  rfl
noncomputable def dotR (xs ys : List Rat) : Rat := ((xs.zip ys).map fun x => x.1 * x.2).sum
end
end Sr
namespace Sr
open L4
noncomputable def evR (r : Row) (made ch : List Rat) : Rat := dotR r.1 made + dotR r.2.1 ch + r.2.2
def SatR (rows : List Row) (made ch : List Rat) : Prop := ∀ r ∈ rows, 0 ≤ evR r made ch
def LenR (m f : Nat) (r : Row) : Prop := r.1.length = m ∧ r.2.1.length = f
theorem RowG.len {m f a c : Nat} {r : Row} (h : RowG m f a c r) : LenR m f r := ⟨h.la, h.lb⟩
theorem low_iff {e p x : Rat} (hp : 0 < p) : 0 ≤ e + p * x ↔ (0 - e) / p ≤ x := by
  have h : (0 - e) / p * p = 0 - e := by grind
  constructor
  · intro h1
    refine Rat.not_lt.mp fun c => ?_
    have := Rat.mul_lt_mul_of_pos_right c hp
    grind
  · intro h1
    have := Rat.mul_le_mul_of_nonneg_right h1 (Rat.le_of_lt hp)
    grind
theorem high_of {e p q f b : Rat} (hp : 0 < p) (hb : b = (0 - e) / p) (h : 0 ≤ e * (-q) + f * p) : 0 ≤ f + q * b := by
  have h2 : p * (f + q * b) = e * (-q) + f * p := by grind
  refine Rat.not_lt.mp fun c => ?_
  have := Rat.mul_lt_mul_of_pos_left c hp
  grind
structure LexMin (S : List Rat → Prop) (f : Nat) (c : List Rat) : Prop where
  len : c.length = f
  suits : S c
  least : ∀ c', c'.length = f → S c' → ∀ k, k < f → (∀ j, j < k → c'.getD j 0 = c.getD j 0) → c.getD k 0 ≤ c'.getD k 0
theorem LexMin.uniq {S S' : List Rat → Prop} {f : Nat} {c c' : List Rat} (h : LexMin S f c) (h' : LexMin S' f c') (e : ∀ d, d.length = f → (S d ↔ S' d)) : c = c' := by
  have key : ∀ n, ∀ k, k < n → k < f → c.getD k 0 = c'.getD k 0 := by
    intro n
    induction n with
    | zero => intro k hk; omega
    | succ n ih =>
      intro k hk hf
      have a := h.least c' h'.len ((e _ h'.len).mpr h'.suits) k hf fun j hj => (ih j (by omega) (by omega)).symm
      have b := h'.least c h.len ((e _ h.len).mp h.suits) k hf fun j hj => ih j (by omega) (by omega)
      grind
  refine List.ext_getElem (h.len.trans h'.len.symm) fun i h1 h2 => ?_
  have := key (i + 1) i (by omega) (by rw [← h.len]; exact h1)
  rw [List.getD_eq_getElem?_getD, List.getD_eq_getElem?_getD, List.getElem?_eq_getElem h1, List.getElem?_eq_getElem h2] at this
  exact this
structure PlanL (m f : Nat) (p : Plan) : Prop where
  la : p.1.length = m
  lb : p.2.1.length = f
  sd : ∀ r ∈ p.2.2, LenR m f r
theorem PlanG.len {m f a b c : Nat} {p : Plan} (h : PlanG m f a b c p) : PlanL m f p := ⟨h.la, h.lb, fun r hr => (h.sd r hr).len⟩
def SolR (p : Plan) (made c : List Rat) : Prop := (∀ d ∈ p.2.2, 0 ≤ evR d made c) ∧ ∀ k (h : k < p.2.1.length), p.2.1[k].1 ≤ c.getD k 0 ∧ c.getD k 0 ≤ p.2.1[k].2
theorem zero_getD {α : Type} {xs : List α} {j : Nat} : (xs.map fun _ => (0 : Rat)).getD j 0 = 0 := by
  rw [List.getD_eq_getElem?_getD, List.getElem?_map]
  cases xs[j]? <;> rfl
theorem part_bnd {p : Plan} {n j : Nat} {s d : Rat} (hn : n < p.2.1.length) : partR (bndR p n s d) j = if j = n then s else 0 := by
  unfold partR bndR
  dsimp only
  by_cases h : j = n
  · subst h
    rw [if_pos rfl, List.getD_eq_getElem?_getD, List.getElem?_set_self (by simpa using hn)]
    rfl
  · rw [if_neg h, List.getD_eq_getElem?_getD, List.getElem?_set_ne (fun e => h e.symm)]
    have := zero_getD (xs := p.2.1) (j := j)
    rwa [List.getD_eq_getElem?_getD] at this
end Sr
namespace Sr
open PySem PySem.Spec PyProof.Rows L2 L3 L4
def bOk (m a c u lim : Nat) : Nat → Nat → Nat → Nat → Bool
  | 0, _, _, _ => true
  | r + 1, n, k, T => decide (gC n a c + m * (gA n a + u + 1) + k * gA n a + T + gA n a ≤ lim) && bOk m a c u lim r (n - 1) (k + 1) (T + (gC n a c + m * (gA n a + u + 1) + k * gA n a + T + gA n a) + 1)
noncomputable instance {rows : List Row} {made c : List Rat} : Decidable (SatR rows made c) := by unfold SatR; exact Classical.propDecidable _
end Sr
namespace Sr
open PySem PySem.Spec PyProof.Rows L2 L3 L4
abbrev Ps := Int × Bool × Int
section
variable {α : Type} {P : α → Prop} {E : Str → Prop} {p : Ps}
theorem st_mkP {t b : Int} {k : Rat → R α} (m : Nat) (h0 : 0 < b) (h1 : ib b ≤ m) (h2 : ib t ≤ m) (m1 : 1 ≤ m) (m2 : m ≤ 9000) (h : ∀ z, z = Rat.divInt t b → hq z ≤ m → Then (k z) P E) : Then ((rMkP t b).nx.bind k) P E := st_opN (decide_eq_true ⟨h0, by omega⟩) (h _ rfl (hq_divInt h2 h1 m1))
theorem divInt_nonneg {t b : Int} (h : 0 ≤ t) (hb : 0 < b) : 0 ≤ Rat.divInt t b := Rat.divInt_nonneg h (by omega)
def Many19 (m f d : Nat) : Prop := (1 ≤ m ∧ m ≤ 3 ∨ m = 6 ∧ f ≤ 2) ∧ (f = 0 ∧ d ≤ 8 ∨ f = 1 ∧ d ≤ 8 ∨ f = 2 ∧ d ≤ 6 ∨ f = 3 ∧ d ≤ 3)
def PlanD (d : Nat) (p : Plan) : Prop := (∀ x ∈ p.1, dq x.1 ≤ d ∧ dq x.2 ≤ d) ∧ (∀ x ∈ p.2.1, dq x.1 ≤ d ∧ dq x.2 ≤ d) ∧ ∀ r ∈ p.2.2, dq r.2.2 ≤ d
end
end Sr
namespace Sr
open PySem PySem.Spec PyProof.Rows L2 L3 L4
structure NumOk (m f D a c u : Nat) : Prop where
  ga : gA f a ≤ 7601
  gc : gC f a c ≤ 4001
  gl : gL f (D + 2 * f) ≤ 3000000
  g3 : D + 2 * f ≤ 1000
  gk : ∀ k, k < f → gL k (D + 2 * f) ≤ 3000
  bo : bOk m a c u 8900 f (f - 1) 0 0 = true
  la : gC f a c + m * (gA f a + u + 1) ≤ 9000
noncomputable def ruleP (f : Nat) (p : Plan) : List (List Row × List Row) × List Row := ((ruleR f (firstR p, [])).2, (ruleR f (firstR p, [])).1)
def ToldSpec (f : Nat) (p : Plan) (made : List Rat) (o : Option (List Rat)) : Prop := match o with
  | none => ∀ c, c.length = f → ¬ SolR p made c
  | some c => LexMin (SolR p made) f c
theorem ToldSpec.uniq {f : Nat} {p p' : Plan} {made made' : List Rat} {o o' : Option (List Rat)} (h : ToldSpec f p made o) (h' : ToldSpec f p' made' o') (e : ∀ d, d.length = f → (SolR p made d ↔ SolR p' made' d)) : o = o' := by
  cases o with
  | none => cases o' with
    | none => rfl
    | some c => exact (h c h'.len ((e c h'.len).mpr h'.suits)).elim
  | some c => cases o' with
    | none => exact (h' c h.len ((e c h.len).mp h.suits)).elim
    | some c' => rw [LexMin.uniq h h' e]
theorem gC_mono {n a : Nat} : ∀ {c c' : Nat}, c ≤ c' → gC n a c ≤ gC n a c' := by
  induction n generalizing a with
  | zero => exact id
  | succ n ih => intro c c' h; exact ih (by omega)
theorem bOk_mono2 {m a c c' u u' lim : Nat} (hc : c ≤ c') (hu : u ≤ u') : ∀ {r n k T T' : Nat}, T ≤ T' → bOk m a c' u' lim r n k T' = true → bOk m a c u lim r n k T = true
  | 0, _, _, _, _, _, _ => rfl
  | r + 1, n, k, T, T', h, e => by
    unfold bOk at e ⊢
    rw [Bool.and_eq_true, decide_eq_true_eq] at e ⊢
    have h1 := gC_mono (n := n) (a := a) hc
    have h2 : m * (gA n a + u + 1) ≤ m * (gA n a + u' + 1) := Nat.mul_le_mul_left _ (by omega)
    exact ⟨by omega, bOk_mono2 hc hu (by omega) e.2⟩
theorem NumOk.mono {m f D a c c' u u' : Nat} (h : NumOk m f D a c' u') (hc : c ≤ c') (hu : u ≤ u') : NumOk m f D a c u := by
  have h1 := gC_mono (n := f) (a := a) hc
  have h2 : m * (gA f a + u + 1) ≤ m * (gA f a + u' + 1) := Nat.mul_le_mul_left _ (by omega)
  exact ⟨h.ga, by have := h.gc; omega, h.gl, h.g3, h.gk, bOk_mono2 hc hu (Nat.le_refl _) h.bo, by have := h.la; omega⟩
def maxD (f : Nat) : Nat := if f = 3 then 5 else 10
theorem num19' {m f : Nat} (h : (1 ≤ m ∧ m ≤ 3 ∧ f ≤ 3) ∨ m = 6 ∧ f ≤ 2) : NumOk m f (maxD f) 5 (39 + 45 * (m + f)) 220 := by
  rcases h with ⟨h1, h2, h3⟩ | ⟨h1, h2⟩
  · rcases (show m = 1 ∨ m = 2 ∨ m = 3 by omega) with e | e | e <;> rcases (show f = 0 ∨ f = 1 ∨ f = 2 ∨ f = 3 by omega) with e' | e' | e' | e' <;> subst e <;> subst e' <;> exact ⟨by decide, by decide, by decide, by decide, by decide, by decide, by decide⟩
  · subst h1
    rcases (show f = 0 ∨ f = 1 ∨ f = 2 by omega) with e' | e' | e' <;> subst e' <;> exact ⟨by decide, by decide, by decide, by decide, by decide, by decide, by decide⟩
theorem Many19.num {m f d u c : Nat} (h : Many19 m f d) (hu : u ≤ 220) (hc : c ≤ 39 + 45 * (m + f)) : NumOk m f (maxD f) 5 c u := by
  obtain ⟨h1, h2⟩ := h
  exact (num19' (by omega)).mono hc hu
theorem PlanG.mono {m f a b c c' : Nat} {p : Plan} (h : PlanG m f a b c p) (k : c ≤ c') : PlanG m f a b c' p := ⟨h.la, h.lb, h.sa, h.sb, h.oa, h.ob, fun r hr => (h.sd r hr).mono (Nat.le_refl _) k⟩
end Sr
namespace Sr
open PySem PySem.Spec PyProof.Rows L2 L3 L4 Sx
structure ToldC (p : Plan) (made : List Rat) (f a c e : Nat) (xs : List Rat) : Prop where
  len : xs.length = f
  sol : SolR p made xs
  sz : Lz (36 * a + 4 * c + 35) (12 * a + 4 * e + 35) xs
structure ToldB (p : Plan) (made : List Rat) (f a : Nat) (ws : List Rat) : Prop where
  bars : Bars (rowsOf p made) f ws
  sz : ∀ x ∈ ws, hq x ≤ 12 * a + 12
  none : ∀ c, c.length = f → ¬ SolR p made c
theorem PlanG.szs {m f a b c cd bd u : Nat} {p : Plan} (h : PlanG m f a b c p) {made : List Rat} (hm : m ≤ 6) (hf : f ≤ 3) (hd : p.2.2.length ≤ 40) (hbd : ∀ x ∈ p.2.1, dq x.1 ≤ bd ∧ dq x.2 ≤ bd) (hcd : ∀ r ∈ p.2.2, dq r.2.2 ≤ bd) (hu : Lz u cd made) (ha : 1 ≤ a) (n2 : 6 * a + (6 * (a + cd) + bd + 3) ≤ 1110) (n3 : 6 * (a + u + 1) + max b c + 3 ≤ 20000) : Szs a (max b c) bd u cd p made := by
  refine ⟨fun w hw => ?_, fun w hw => ?_, fun x hx => ?_, hu, hd, by rw [h.lb]; exact hf, ha, n2, n3⟩
  · have g := h.sd w hw
    exact ⟨by rw [g.la]; exact hm, Lz.of g.sa, by have := g.sc; omega, hcd w hw⟩
  · have g := h.sd w hw
    exact ⟨by rw [g.lb, h.lb], g.sb⟩
  · obtain ⟨b1, b2⟩ := h.sb x hx
    obtain ⟨d1, d2⟩ := hbd x hx
    exact ⟨⟨by omega, d1⟩, by omega, d2⟩
end Sr
namespace L4
open PySem PySem.Spec PyProof.Rows L2 L3
section
variable {α : Type}
theorem cut_hi {xs : List α} {i : Int} {n : Nat} (h : i = n) : tCut xs none (some i) = xs.take n := by
  subst h
  unfold tCut cutG HT.sIx
  simp only [List.drop_zero, Nat.sub_zero]
  rw [if_neg (by omega)]
  simp [List.take_eq_take_iff]
theorem cut_lo {xs : List α} {i : Int} {n : Nat} (h : i = n) : tCut xs (some i) none = xs.drop n := by
  subst h
  unfold tCut cutG HT.sIx
  dsimp only
  rw [if_neg (by omega)]
  have e : ((n : Int)).toNat = n := by omega
  rw [e]
  rcases Nat.le_total n xs.length with h | h
  · rw [Nat.min_eq_left h, List.take_of_length_le (by simp)]
  · rw [Nat.min_eq_right h, List.drop_eq_nil_of_le (Nat.le_refl _), List.drop_eq_nil_of_le h]; simp
end
end L4
namespace Sr
open PySem PySem.Spec PyProof.Rows L2 L3 L4 Sx
theorem greatest {α : Type} (f : α → Rat) : ∀ (xs : List α) (lo : Rat), ∃ s, (s = lo ∨ ∃ x ∈ xs, s = f x) ∧ lo ≤ s ∧ ∀ x ∈ xs, f x ≤ s
  | [], lo => ⟨lo, .inl rfl, Rat.le_refl, by simp⟩
  | x :: xs, lo => by
    obtain ⟨s, h1, h2, h3⟩ := greatest f xs lo
    by_cases c : s ≤ f x
    · refine ⟨f x, .inr ⟨x, List.mem_cons_self, rfl⟩, Rat.le_trans h2 c, fun y hy => ?_⟩
      rcases List.mem_cons.mp hy with e | e
      · subst e; exact Rat.le_refl
      · exact Rat.le_trans (h3 y e) c
    · refine ⟨s, ?_, h2, fun y hy => ?_⟩
      · rcases h1 with e | ⟨y, hy, e⟩
        · exact .inl e
        · exact .inr ⟨y, List.mem_cons_of_mem _ hy, e⟩
      · rcases List.mem_cons.mp hy with e | e
        · subst e; exact Rat.le_of_lt (Rat.not_le.mp c)
        · exact h3 y e
end Sr
namespace Sr
open PySem PySem.Spec PyProof.Rows L2 L3 L4 Sx
abbrev Asg := Nat → Rat
def upd (x : Asg) (k : Nat) (v : Rat) : Asg := fun i => if i = k then v else x i
noncomputable def evF (r : Row) (x y : Asg) : Rat := dotF r.1 0 x + dotF r.2.1 0 y + r.2.2
theorem dotF_upd {x : Asg} {k : Nat} {v : Rat} : ∀ {b : List Rat} {i : Nat}, dotF b i (upd x k v) = dotF b i x + (if i ≤ k then b.getD (k - i) 0 else 0) * (v - x k)
  | [], i => by
    show (0 : Rat) = 0 + _
    split <;> simp <;> grind
  | q :: b, i => by
    have ih := dotF_upd (x := x) (k := k) (v := v) (b := b) (i := i + 1)
    show q * upd x k v i + dotF b (i + 1) (upd x k v) = (q * x i + dotF b (i + 1) x) + _
    rw [ih]
    unfold upd
    by_cases h : i = k
    · subst h
      rw [if_pos rfl, if_neg (by omega), if_pos (Nat.le_refl _), Nat.sub_self]
      show _ = q * x i + dotF b (i + 1) x + q * (v - x i)
      grind
    · rw [if_neg h]
      by_cases h2 : i ≤ k
      · rw [if_pos (by omega), if_pos h2]
        obtain ⟨j, e⟩ : ∃ j, k - i = j + 1 := ⟨k - i - 1, by omega⟩
        rw [e, show k - (i + 1) = j by omega]
        show _ = q * x i + dotF b (i + 1) x + b.getD j 0 * (v - x k)
        grind
      · rw [if_neg (by omega), if_neg h2]; grind
theorem ev_updY {r : Row} {x y : Asg} {k : Nat} {v : Rat} : evF r x (upd y k v) = evF r x y + partR r k * (v - y k) := by
  unfold evF partR
  rw [dotF_upd, if_pos (Nat.zero_le _), Nat.sub_zero]; grind
theorem ev_updX {r : Row} {x y : Asg} {k : Nat} {v : Rat} : evF r (upd x k v) y = evF r x y + r.1.getD k 0 * (v - x k) := by
  unfold evF
  rw [dotF_upd, if_pos (Nat.zero_le _), Nat.sub_zero]; grind
theorem dotF_mix {u v : Rat} {Y : Asg} : ∀ {xs ys : List Rat} {i : Nat}, xs.length = ys.length → dotF (mixR xs u ys v) i Y = dotF xs i Y * u + dotF ys i Y * v
  | [], [], i, _ => by
    show (0 : Rat) = 0 * u + 0 * v
    grind
  | x :: xs, y :: ys, i, h => by
    have ih := dotF_mix (u := u) (v := v) (Y := Y) (xs := xs) (ys := ys) (i := i + 1) (by simpa using h)
    show (x * u + y * v) * Y i + dotF (mixR xs u ys v) (i + 1) Y = (x * Y i + dotF xs (i + 1) Y) * u + (y * Y i + dotF ys (i + 1) Y) * v
    rw [ih]; grind
  | [], _ :: _, _, h => by simp at h
  | _ :: _, [], _, h => by simp at h
theorem ev_takF {l h : Row} {n m f : Nat} {x y : Asg} (hl : LenR m f l) (hh : LenR m f h) : evF (takR l h n) x y = evF l x y * (-partR h n) + evF h x y * partR l n := by
  unfold evF takR
  dsimp only
  rw [dotF_mix (hl.1.trans hh.1.symm), dotF_mix (hl.2.trans hh.2.symm)]
  grind
theorem dotF_null {Y : Asg} : ∀ {xs : List Rat} {i : Nat}, (∀ q ∈ xs, q = 0) → dotF xs i Y = 0
  | [], _, _ => rfl
  | q :: xs, i, h => by
    show q * Y i + dotF xs (i + 1) Y = 0
    rw [dotF_null fun z hz => h z (List.mem_cons_of_mem _ hz), h q List.mem_cons_self]; grind
theorem plain_evF {r : Row} {x y : Asg} (h : plainR r) : 0 ≤ evF r x y := by
  unfold evF
  rw [dotF_null fun q hq => h.1 q (List.mem_append_left _ hq), dotF_null fun q hq => h.1 q (List.mem_append_right _ hq)]
  have := Rat.not_lt.mp h.2
  grind
theorem fm_one {α : Type} {rs : List α} {e p : α → Rat} (hl : ∃ r ∈ rs, 0 < p r) :
    (∃ v, ∀ r ∈ rs, 0 ≤ e r + p r * v) ↔ (∀ r ∈ rs, p r = 0 → 0 ≤ e r) ∧ ∀ l ∈ rs, ∀ h ∈ rs, 0 < p l → p h < 0 → 0 ≤ e l * (-p h) + e h * p l := by
  constructor
  · rintro ⟨v, hv⟩
    refine ⟨fun r hr h0 => ?_, fun l hlm h hh pl ph => ?_⟩
    · have := hv r hr
      rw [h0] at this
      grind
    · have a := hv l hlm
      have b := hv h hh
      have a' := Rat.mul_nonneg a (show 0 ≤ -p h by grind)
      have b' := Rat.mul_nonneg b (Rat.le_of_lt pl)
      grind
  · rintro ⟨h0, h1⟩
    obtain ⟨l0, hl0, pl0⟩ := hl
    obtain ⟨v, ev, _, hv⟩ := greatest (fun r => (0 - e r) / p r) (rs.filter fun r => decide (0 < p r)) ((0 - e l0) / p l0)
    have mem : ∀ r, r ∈ rs.filter (fun r => decide (0 < p r)) ↔ r ∈ rs ∧ 0 < p r := fun r => by simp
    have hb : ∃ l ∈ rs, 0 < p l ∧ v = (0 - e l) / p l := by
      rcases ev with z | ⟨l, hl, z⟩
      · exact ⟨l0, hl0, pl0, z⟩
      · exact ⟨l, ((mem l).mp hl).1, ((mem l).mp hl).2, z⟩
    obtain ⟨l, hlm, pl, ev'⟩ := hb
    refine ⟨v, fun r hr => ?_⟩
    rcases (Rat.le_total : 0 ≤ p r ∨ p r ≤ 0) with c | c
    · by_cases z : p r = 0
      · have := h0 r hr z
        rw [z]; grind
      · have pr : 0 < p r := Rat.lt_of_le_of_ne c (Ne.symm z)
        rw [low_iff pr]
        exact hv r ((mem r).mpr ⟨hr, pr⟩)
    · by_cases z : p r = 0
      · have := h0 r hr z
        rw [z]; grind
      · have pr : p r < 0 := Rat.lt_of_le_of_ne c z
        exact high_of pl ev' (h1 l hlm r hr pl pr)
abbrev Turn := Str × Int
abbrev isSh (t : Turn) : Prop := t.1 = ("shim" : Str)
noncomputable def bdS (p : Plan) (k : Nat) : Rat × Rat := p.2.1.getD k (0, 0)
noncomputable def bdM (p : Plan) (k : Nat) : Rat × Rat := p.1.getD k (0, 0)
def InB (b : Rat × Rat) (v : Rat) : Prop := b.1 ≤ v ∧ v ≤ b.2
open Classical in
noncomputable def Win (p : Plan) : List Turn → Asg → Asg → Prop
  | [], x, y => ∀ d ∈ p.2.2, 0 ≤ evF d x y
  | t :: o, x, y => if isSh t then ∃ v, InB (bdS p t.2.toNat) v ∧ Win p o x (upd y t.2.toNat v) else ∀ v, InB (bdM p t.2.toNat) v → Win p o (upd x t.2.toNat v) y
theorem win_sh {p : Plan} {t : Turn} {o : List Turn} {x y : Asg} (h : isSh t) : Win p (t :: o) x y ↔ ∃ v, InB (bdS p t.2.toNat) v ∧ Win p o x (upd y t.2.toNat v) := by
  rw [Win, if_pos h]
theorem win_sz {p : Plan} {t : Turn} {o : List Turn} {x y : Asg} (h : ¬ isSh t) : Win p (t :: o) x y ↔ ∀ v, InB (bdM p t.2.toNat) v → Win p o (upd x t.2.toNat v) y := by
  rw [Win, if_neg h]
theorem Win.mono {p : Plan} {o1 o2 : List Turn} (h : ∀ x y, Win p o1 x y → Win p o2 x y) : ∀ {pre : List Turn} {x y : Asg}, Win p (pre ++ o1) x y → Win p (pre ++ o2) x y
  | [], x, y, w => h x y w
  | t :: pre, x, y, w => by
    rw [List.cons_append] at w ⊢
    by_cases c : isSh t
    · rw [win_sh c] at w ⊢
      obtain ⟨v, hv, w⟩ := w
      exact ⟨v, hv, Win.mono h w⟩
    · rw [win_sz c] at w ⊢
      exact fun v hv => Win.mono h (w v hv)
def Says (p : Plan) (o : List Turn) (rows : List Row) : Prop := ∀ x y, (∀ r ∈ rows, 0 ≤ evF r x y) ↔ Win p o x y
structure NoSh (p : Plan) (rows found : List Row) (k : Nat) : Prop where
  iff : ∀ H : Row → Prop, (∀ r, plainR r → H r) → ((∀ r ∈ found, H r) ↔ (∀ r ∈ rows ++ [bndR p k 1 (0 - (bdS p k).1), bndR p k (-1) (bdS p k).2], partR r k = 0 → H r) ∧ ∀ l ∈ rows ++ [bndR p k 1 (0 - (bdS p k).1), bndR p k (-1) (bdS p k).2], ∀ h ∈ rows ++ [bndR p k 1 (0 - (bdS p k).1), bndR p k (-1) (bdS p k).2], 0 < partR l k → partR h k < 0 → H (takR l h k))
theorem dotF_set0 {Y : Asg} {s : Rat} {n k i : Nat} (h : k < n) : dotF ((List.replicate n (0 : Rat)).set k s) i Y = s * Y (i + k) := by
  rw [dotF_set (by rw [List.length_replicate]; exact h), dotF_rep, List.getD_eq_getElem?_getD, List.getElem?_replicate, if_pos h]
  show 0 + (s - 0) * Y (i + k) = _
  grind
theorem map_zero {α : Type} {xs : List α} : (xs.map fun _ => (0 : Rat)) = List.replicate xs.length 0 := by
  refine List.ext_getElem (by simp) fun i h1 h2 => by simp
theorem ev_bndF {p : Plan} {k : Nat} {s c : Rat} {x y : Asg} (h : k < p.2.1.length) : evF (bndR p k s c) x y = s * y k + c := by
  unfold evF bndR
  dsimp only
  rw [map_zero, map_zero, dotF_rep, dotF_set0 h, Nat.zero_add]; grind
theorem NoSh.says {p : Plan} {rows found : List Row} {t : Turn} {o : List Turn} {m f : Nat} (h : NoSh p rows found t.2.toNat) (hs : isSh t) (hk : t.2.toNat < p.2.1.length) (hm : p.1.length = m) (hf : p.2.1.length = f) (hl : ∀ r ∈ rows, LenR m f r) (S : Says p o rows) : Says p (t :: o) found := by
  intro x y
  rw [win_sh hs, h.iff (fun r => 0 ≤ evF r x y) fun r hr => plain_evF hr]
  generalize hR : rows ++ [bndR p t.2.toNat 1 (0 - (bdS p t.2.toNat).1), bndR p t.2.toNat (-1) (bdS p t.2.toNat).2] = R
  generalize hkk : t.2.toNat = k at *
  have lb : ∀ s c, LenR m f (bndR p k s c) := fun s c => ⟨by simp [bndR, hm], by simp [bndR, hf]⟩
  have hRl : ∀ r ∈ R, LenR m f r := fun r hr => by
    rw [← hR] at hr
    rcases List.mem_append.mp hr with z | z
    · exact hl r z
    · simp only [List.mem_cons, List.not_mem_nil, or_false] at z
      rcases z with z | z <;> subst z <;> exact lb _ _
  have p1 : partR (bndR p k 1 (0 - (bdS p k).1)) k = 1 := by rw [part_bnd hk, if_pos rfl]
  have p2 : partR (bndR p k (-1) (bdS p k).2) k = -1 := by rw [part_bnd hk, if_pos rfl]
  have fm := fm_one (rs := R) (e := fun r => evF r x (upd y k 0)) (p := fun r => partR r k) ⟨bndR p k 1 (0 - (bdS p k).1), by rw [← hR]; simp, by rw [p1]; decide +kernel⟩
  have ev0 : ∀ r v, evF r x (upd y k v) = evF r x (upd y k 0) + partR r k * v := fun r v => by
    rw [ev_updY, ev_updY]; grind
  have evy : ∀ r, partR r k = 0 → evF r x (upd y k 0) = evF r x y := fun r hr => by
    rw [ev_updY, hr]; grind
  have evt : ∀ l h, l ∈ R → h ∈ R → evF (takR l h k) x y = evF l x (upd y k 0) * (-partR h k) + evF h x (upd y k 0) * partR l k := fun l h hl hh => by
    rw [ev_takF (hRl l hl) (hRl h hh), ev_updY, ev_updY]; grind
  have mid : (∃ v, InB (bdS p k) v ∧ Win p o x (upd y k v)) ↔ ∃ v, ∀ r ∈ R, 0 ≤ evF r x (upd y k 0) + partR r k * v := by
    refine exists_congr fun v => ?_
    rw [← S x (upd y k v)]
    constructor
    · rintro ⟨hb, hw⟩ r hr
      rw [← ev0]
      rw [← hR] at hr
      rcases List.mem_append.mp hr with z | z
      · exact hw r z
      · simp only [List.mem_cons, List.not_mem_nil, or_false] at z
        rcases z with z | z <;> subst z <;> rw [ev_bndF hk] <;> unfold upd <;> rw [if_pos rfl]
        · have := hb.1; grind
        · have := hb.2; grind
    · intro hw
      have a := hw (bndR p k 1 (0 - (bdS p k).1)) (by rw [← hR]; simp)
      have b := hw (bndR p k (-1) (bdS p k).2) (by rw [← hR]; simp)
      rw [← ev0, ev_bndF hk] at a b
      unfold upd at a b
      rw [if_pos rfl] at a b
      refine ⟨⟨by grind, by grind⟩, fun r hr => ?_⟩
      rw [ev0]
      exact hw r (by rw [← hR]; exact List.mem_append_left _ hr)
  rw [mid, fm]
  constructor
  · rintro ⟨a, b⟩
    refine ⟨fun r hr h0 => by rw [evy r h0]; exact a r hr h0, fun l hl h hh pl ph => ?_⟩
    rw [← evt l h hl hh]
    exact b l hl h hh pl ph
  · rintro ⟨a, b⟩
    refine ⟨fun r hr h0 => by rw [← evy r h0]; exact a r hr h0, fun l hl h hh pl ph => ?_⟩
    rw [evt l h hl hh]
    exact b l hl h hh pl ph
noncomputable def wstR (p : Plan) (k : Nat) (r : Row) : Row := (r.1.set k 0, r.2.1, r.2.2 + r.1.getD k 0 * (if r.1.getD k 0 < 0 then (bdM p k).2 else (bdM p k).1))
structure NoSz (p : Plan) (rows found : List Row) (k : Nat) : Prop where
  iff : ∀ H : Row → Prop, (∀ r, plainR r → H r) → ((∀ r ∈ found, H r) ↔ ∀ r ∈ rows, H (wstR p k r))
theorem ev_wst {p : Plan} {k : Nat} {r : Row} {x y : Asg} (h : k < r.1.length) : evF (wstR p k r) x y = evF r x y + r.1.getD k 0 * ((if r.1.getD k 0 < 0 then (bdM p k).2 else (bdM p k).1) - x k) := by
  unfold evF wstR
  dsimp only
  rw [dotF_set h, Nat.zero_add]; grind
theorem NoSz.says {p : Plan} {rows found : List Row} {t : Turn} {o : List Turn} {m f : Nat} (h : NoSz p rows found t.2.toNat) (hs : ¬ isSh t) (hk : t.2.toNat < m) (hb : (bdM p t.2.toNat).1 ≤ (bdM p t.2.toNat).2) (hl : ∀ r ∈ rows, LenR m f r) (S : Says p o rows) : Says p (t :: o) found := by
  intro x y
  rw [win_sz hs, h.iff (fun r => 0 ≤ evF r x y) fun r hr => plain_evF hr]
  generalize t.2.toNat = k at *
  have e1 : ∀ r ∈ rows, ∀ v, evF r (upd x k v) y = evF r x y + r.1.getD k 0 * (v - x k) := fun r _ v => ev_updX
  have e2 : ∀ r ∈ rows, evF (wstR p k r) x y = evF r x y + r.1.getD k 0 * ((if r.1.getD k 0 < 0 then (bdM p k).2 else (bdM p k).1) - x k) := fun r hr => ev_wst (by rw [(hl r hr).1]; exact hk)
  constructor
  · intro g v hv
    rw [← S]
    intro r hr
    have := g r hr
    rw [e2 r hr] at this
    rw [e1 r hr]
    by_cases c : r.1.getD k 0 < 0
    · rw [if_pos c] at this
      have := Rat.mul_nonneg (show 0 ≤ -r.1.getD k 0 by grind) (show 0 ≤ (bdM p k).2 - v by have := hv.2; grind)
      grind
    · rw [if_neg c] at this
      have := Rat.mul_nonneg (Rat.not_lt.mp c) (show 0 ≤ v - (bdM p k).1 by have := hv.1; grind)
      grind
  · intro g r hr
    rw [e2 r hr]
    by_cases c : r.1.getD k 0 < 0
    · rw [if_pos c, ← e1 r hr]
      exact (S _ _).mpr (g _ ⟨hb, Rat.le_refl⟩) r hr
    · rw [if_neg c, ← e1 r hr]
      exact (S _ _).mpr (g _ ⟨Rat.le_refl, hb⟩) r hr
end Sr
namespace Sr
open PySem PySem.Spec PyProof.Rows L2 L3 L4
structure Alike (p q : Plan) : Prop where
  a : q.1 = p.1
  b : q.2.1 = p.2.1
  d : ∀ made c, (∀ r ∈ q.2.2, 0 ≤ evR r made c) ↔ ∀ r ∈ p.2.2, 0 ≤ evR r made c
theorem Alike.sol {p q : Plan} (h : Alike p q) {made c : List Rat} : SolR p made c ↔ SolR q made c := by
  obtain ⟨qa, qb, qd⟩ := q
  obtain ⟨ha, hb, hd⟩ := h
  dsimp only at ha hb hd
  subst ha hb
  unfold SolR
  dsimp only
  rw [hd made c]
end Sr
namespace Sr
open PySem PySem.Spec PyProof.Rows L2 L3 L4 Sx
section
variable {E : Str → Prop}
end
end Sr
namespace Sr
open PySem PySem.Spec PyProof.Rows L2 L3 L4
section
variable {E : Str → Prop} {p : Ps}
def Many20 (m f d : Nat) : Prop := (1 ≤ m ∧ m ≤ 3 ∨ m = 6 ∧ f ≤ 2) ∧ f ≤ 3 ∧ d ≤ maxD f
theorem Many20.num {m f d u c : Nat} (h : Many20 m f d) (hu : u ≤ 220) (hc : c ≤ 39 + 45 * (m + f)) : NumOk m f (maxD f) 5 c u := by
  obtain ⟨h1, h2⟩ := h
  exact (num19' (by omega)).mono hc hu
end
end Sr
namespace Sr
open PySem PySem.Spec PyProof.Rows L2 L3 L4
end Sr
namespace Sr
open PySem PySem.Spec PyProof.Rows L2 L3 L4
end Sr
namespace Sr
open PySem PySem.Spec PyProof.Rows L2 L3 L4 Sx
structure WBars (rows : List (List Rat × Rat)) (f : Nat) (l : List Rat) : Prop where
  len : l.length = rows.length
  nn : ∀ x ∈ l, 0 ≤ x
  col : ∀ i, i < f → dotS (rows.map fun r => r.1.getD i 0) l = 0
  neg : dotS (rows.map Prod.snd) l < 0
noncomputable instance {rows : List (List Rat × Rat)} {f : Nat} {l : List Rat} : Decidable (WBars rows f l) := Classical.propDecidable _
theorem Bars.w {rows : List (List Rat × Rat)} {f : Nat} {l : List Rat} (B : Bars rows f l) (hl : ∀ r ∈ rows, r.1.length = f) : WBars rows f l := by
  obtain ⟨h1, h2⟩ := bars_cols B hl
  exact ⟨B.len, B.nn, h2, h1⟩
structure Wv (rows : List (List Rat × Rat)) (l : List Rat) (f a c e W : Nat) : Prop where
  r : Rz f a c e rows
  hf : f ≤ 3
  hw : ∀ x ∈ l, hq x ≤ W
  ln : l.length ≤ 1000
  n : rows.length ≤ 19
  s1 : 19 * (a + W + 1) + 1 ≤ 9000
  s2 : 19 * (e + W) + 1 ≤ 9000
  s3 : 19 * (c + W + 1) + 1 ≤ 390000
section
variable {rows : List (List Rat × Rat)} {l : List Rat} {f a c e W : Nat} (z : Wv rows l f a c e W)
include z
theorem Wv.col (i : Nat) (hi : i < f) : Lz a a (rows.map (fun r => r.1.getD i 0)) ∧ 1 + (rows.map (fun r : List Rat × Rat => r.1.getD i 0)).length * (a + W + 1) ≤ 400000 ∧ 1 + (rows.map (fun r : List Rat × Rat => r.1.getD i 0)).length * (a + W) ≤ 9000 := by
  refine ⟨Lz.of fun q hq' => ?_, ?_⟩
  · obtain ⟨r, hr, e⟩ := List.mem_map.mp hq'
    subst e
    exact getD_hq (by rw [z.r.hl r hr]; exact hi) (z.r.hs r hr)
  · rw [List.length_map]
    have := Nat.mul_le_mul_right (a + W + 1) z.n
    have := Nat.mul_le_mul_right (a + W) z.n
    have := z.s1
    omega
theorem Wv.at : Lz c e (rows.map Prod.snd) ∧ 1 + (rows.map Prod.snd).length * (c + W + 1) ≤ 390000 ∧ 1 + (rows.map Prod.snd).length * (e + W) ≤ 9000 := by
  refine ⟨fun q hq' => ?_, ?_⟩
  · obtain ⟨r, hr, e⟩ := List.mem_map.mp hq'
    subst e
    exact ⟨z.r.hs2 r hr, z.r.hs3 r hr⟩
  · rw [List.length_map]
    have := Nat.mul_le_mul_right (c + W + 1) z.n
    have := Nat.mul_le_mul_right (e + W) z.n
    have := z.s2
    have := z.s3
    omega
end
end Sr
namespace Sr
open PySem PySem.Spec PyProof.Rows L2 L3 L4
def Within (p : Plan) (made : List Rat) : Prop := made.length = p.1.length ∧ ∀ k (h : k < p.1.length), p.1[k].1 ≤ made.getD k 0 ∧ made.getD k 0 ≤ p.1[k].2
def Alw (p : Plan) : Prop := ∀ made, Within p made → ∃ c, c.length = p.2.1.length ∧ SolR p made c
noncomputable instance {p : Plan} : Decidable (Alw p) := Classical.propDecidable _
structure AlwOk (m f D a b bd : Nat) : Prop where
  ga : gA f a ≤ 7601
  gc : gC f a b ≤ 4001
  gl : gL f (D + 2 * f) ≤ 3000000
  g3 : D + 2 * f ≤ 19
  gk : ∀ k, k < f → gL k (D + 2 * f) ≤ 3000
  wo : gC f a b + m * (gA f a + b + 1) ≤ 9000
  a1 : 1 ≤ a
  n2 : 6 * a + (6 * (a + bd) + bd + 3) ≤ 1110
  w1 : 19 * (a + (12 * a + 12) + 1) + 1 ≤ 9000
  w2 : 19 * ((6 * (a + bd) + bd + 3) + (12 * a + 12)) + 1 ≤ 9000
  m6 : m ≤ 6
  f3 : f ≤ 3
  b3 : b ≤ 500
theorem AlwOk.rule {m f D a b bd : Nat} (k : AlwOk m f D a b bd) {p : Plan} (h : PlanG m f a b b p) (hd : p.2.2.length ≤ D) : t_rule_of p = .ok (ruleP f p) ∧ (∀ r ∈ (ruleP f p).2, RowG m f (gA f a) (gC f a b) r) := by
  have m6 := k.m6
  have f3 := k.f3
  have g3 := k.g3
  have b3 := k.b3
  have mono : p.2.2.length + 2 * f ≤ D + 2 * f := by omega
  obtain ⟨e1, r1, _⟩ := rule_ok h (by omega) (by omega) k.a1 (Nat.le_refl _) (by omega) (by omega) k.ga k.gc (Nat.le_trans (gL_mono mono) k.gl) (by omega) fun j hj => Nat.le_trans (gL_mono mono) (k.gk j hj)
  exact ⟨e1, r1⟩
theorem AlwOk.szs {m f D a b bd : Nat} (k : AlwOk m f D a b bd) {p : Plan} (h : PlanG m f a b b p) (hD : PlanD bd p) (hd : p.2.2.length ≤ D) {made : List Rat} (hu : Lz b bd made) : Szs a b bd b bd p made := by
  have g3 := k.g3
  have b3 := k.b3
  have n2 := k.n2
  have := h.szs (made := made) (bd := bd) (u := b) (cd := bd) k.m6 k.f3 (by omega) hD.2.1 hD.2.2 hu k.a1 k.n2 (by rw [Nat.max_self]; omega)
  rwa [Nat.max_self] at this
end Sr
namespace Sr
open PySem PySem.Spec PyProof.Rows L2 L3 L4 Sx
def aS (a : Nat) : Nat → Nat
  | 0 => a
  | n + 1 => 4 * aS a n + 1
def cS (a b c : Nat) : Nat → Nat
  | 0 => c
  | n + 1 => 2 * (aS a n + cS a b c n) + b + 1
def lN (L : Nat) : Nat → Nat
  | 0 => L
  | n + 1 => (lN L n + 2) * (lN L n + 3)
def isShB (t : Turn) : Bool := decide (t.1 = ("shim" : Str))
def ns (o : List Turn) : Nat := (o.filter isShB).length
def TurnOk (m f : Nat) (t : Turn) : Prop := 0 ≤ t.2 ∧ (isSh t → t.2.toNat < f) ∧ (¬ isSh t → t.2.toNat < m)
section
variable {E : Str → Prop}
structure OrS (p : Plan) (m f a b c L n s : Nat) : Prop where
  pg : PlanG m f a b c p
  m1 : m ≤ 100
  f1 : f ≤ 100
  a1 : 1 ≤ a
  bc : b + 2 ≤ c
  b1 : b ≤ 1000
  ac : ∀ j, j < n → aS a j ≤ 2000 ∧ cS a b c j ≤ 2000
  l1 : ∀ j, j ≤ s → lN L j < 16777216
  d : p.2.2.length ≤ L
theorem map_row {rows : List Row} {δ : Type} {P : δ → Prop} {k : List Row → R δ} (hl : rows.length ≤ 16777216) (h : Then (k rows) P E) : Then ((tMapG (fun x4 => (.ok (x4.1, x4.2.1, x4.2.2) : R ((List Rat) × (List Rat) × Rat))) rows).bind k) P E := by
  refine st_mapF (fun x : Row => x) hl (fun _ _ => rfl) ?_
  rw [List.map_id'']
  · exact h
  · intro _; rfl
structure Full (m f : Nat) (o : List Turn) : Prop where
  ok : ∀ t ∈ o, TurnOk m f t
  sz : ∀ k, k < m → ∃ t ∈ o, ¬ isSh t ∧ t.2.toNat = k
  sh : ∀ k, k < f → ∃ t ∈ o, isSh t ∧ t.2.toNat = k
theorem copy2_ok {p : Plan} (hl : p.2.2.length ≤ 16777216) : t__law_copy_2 p = .ok p := eq_of_then (by
  unfold t__law_copy_2
  refine map_row hl ?_
  exact st_end rfl)
end
end Sr
namespace Sr
open PySem PySem.Spec PyProof.Rows L2 L3 L4
abbrev Pl := Int × Bool × Int
def PlOk (n : Int) (p : Pl) : Prop := 0 ≤ p.2.2 ∧ p.2.2 < n
theorem PlOk.mono {n m : Int} {p : Pl} (h : PlOk n p) (k : n ≤ m) : PlOk m p := ⟨h.1, by have := h.2; omega⟩
section
variable {α : Type} {P : α → Prop} {E : Str → Prop} {p : Pl} {n : Int}
theorem cell27_ok {ns : List Int} {k : Int} (h0 : 0 ≤ k) : ∃ v, t__law_cell_at ns k = .ok v := by
  have : Then (t__law_cell_at ns k) (fun _ => True) (fun _ => False) := by
    unfold t__law_cell_at
    rw [tLen_eq]
    split
    · exact st_idxM h0 (by omega) fun _ _ => trivial
    · trivial
  obtain ⟨v, e, _⟩ := of_then this
  exact ⟨v, e⟩
end
end Sr
namespace Sr
open PySem PySem.Spec PyProof.Rows L2 L3 L4 Sx
section
variable {E : Str → Prop} {ns' : List Int}
theorem mixed3_ok {cell k : Int} (h0 : 0 ≤ k) (h1 : k ≤ 1000) : Then (t__law_mixed_3 cell k) (fun _ => True) E := by
  unfold t__law_mixed_3
  refine st_op (by decide) ?_
  split
  · exact st_end trivial
  · refine st_mul (mulOk_r (by decide)) ?_
    refine st_mul (mulOk_r (by omega)) ?_
    refine st_mul (mulOk_r (by omega)) ?_
    refine st_mul (mulOk_r (by omega)) ?_
    refine st_mod (by decide) ?_
    have m1 := fun x => Int.fmod_nonneg_of_pos x (b := 2147483647) (by omega)
    have m2 := fun x => Int.fmod_lt_of_pos x (b := 2147483647) (by omega)
    generalize hx : (cell * 48271 + 7919 * k * k + 104729 * k + 17).fmod 2147483647 = x
    have x1 : 0 ≤ x ∧ x < 2147483647 := ⟨by rw [← hx]; exact m1 _, by rw [← hx]; exact m2 _⟩
    refine st_mul (mulOk_r (by omega)) ?_
    refine st_mod (by decide) ?_
    have n1 := Int.fmod_nonneg_of_pos (x * x) (b := 2147483629) (by omega)
    have n2 := Int.fmod_lt_of_pos (x * x) (b := 2147483629) (by omega)
    generalize (x * x).fmod 2147483629 = y at n1 n2
    refine st_mul (mulOk_r (by omega)) ?_
    refine st_mul (mulOk_r (by omega)) ?_
    refine st_mul (mulOk_r (by omega)) ?_
    exact st_end trivial
theorem st_cell {δ : Type} {P : δ → Prop} {k : Int} {kk : Int → R δ} (h0 : 0 ≤ k) (h : ∀ v, Then (kk v) P E) : Then ((t__law_cell_at ns' k).nx.bind kk) P E := by
  obtain ⟨v, e⟩ := cell27_ok (ns := ns') h0
  exact st_callE e (h v)
theorem st_fd {a b : Int} {δ : Type} {P : δ → Prop} {k : Int → R δ} (h0 : b ≠ 0) (h : b.natAbs < 2 ^ 64) (hk : Then (k (a.fdiv b)) P E) : Then ((tFdiv a b).bind k) P E := st_fdiv (divOk_S h0 h) hk
theorem st_fm {a b : Int} {δ : Type} {P : δ → Prop} {k : Int → R δ} (h0 : 0 < b) (hk : ∀ v, 0 ≤ v → v < b → Then (k v) P E) : Then ((tMod a b).bind k) P E := st_mod (by omega) (hk _ (Int.fmod_nonneg_of_pos _ h0) (Int.fmod_lt_of_pos _ h0))
theorem bounds6_ok {left : Int} : Then (t__law_bounds_6 left) (fun y => hq y.1 ≤ 3 ∧ hq y.2 ≤ 7 ∧ y.1 ≤ y.2) E := by
  unfold t__law_bounds_6
  refine st_fm (by omega) fun v2 a2 b2 => ?_
  refine st_fd (by decide) (by decide) ?_
  refine st_fm (by omega) fun v4 a4 b4 => ?_
  refine st_mkP 3 (by omega) (ib_le.mpr (by omega)) (ib_le.mpr (by omega)) (by decide) (by decide) fun r5 _ h5 => ?_
  refine st_fd (by decide) (by decide) ?_
  refine st_fm (by omega) fun v6 a6 b6 => ?_
  refine st_fd (by decide) (by decide) ?_
  refine st_fm (by omega) fun v8 a8 b8 => ?_
  refine st_mkP 3 (by omega) (ib_le.mpr (by omega)) (ib_le.mpr (by omega)) (by decide) (by decide) fun r10 e10 h10 => ?_
  refine st_add (by omega) fun z ez hz => ?_
  refine st_end ⟨h5, by show hq z ≤ 7; omega, ?_⟩
  have := Rat.divInt_nonneg a6 (show (0 : Int) ≤ 1 + v8 by omega)
  rw [← e10] at this
  show r5 ≤ z
  rw [ez]
  grind
theorem shares_ok {left many : Int} (h0 : 0 ≤ many) (h1 : many ≤ 1000) : Then (t__law_shares left many) (fun r => (r.1.length : Int) = many ∧ ∀ q ∈ r.1, hq q ≤ 2) E := by
  unfold t__law_shares
  refine st_range (by omega) (by omega) (by omega) (by omega) ?_
  refine st_fold (fun j (s : Int × List Rat) => s.2.length = j ∧ ∀ q ∈ s.2, hq q ≤ 2) ⟨rfl, by simp⟩ (fun j x s hx hs => ?_) fun s hs => ?_
  · obtain ⟨l1, l2⟩ := hs
    have hj := (get_rgI hx).2
    refine st_fm (by omega) fun v6 a6 b6 => ?_
    refine st_idxM a6 (by simpa using b6) fun q hq' => ?_
    refine st_app (by omega) ?_
    refine st_fd (by decide) (by decide) ?_
    refine st_end ⟨by simp [l1], fun z hz => ?_⟩
    rcases List.mem_append.mp hz with e | e
    · exact l2 z e
    · simp at e; subst e
      simp only [List.mem_cons, List.not_mem_nil, or_false] at hq'
      rcases hq' with e | e | e | e | e <;> subst e <;> decide +kernel
  · obtain ⟨l1, l2⟩ := hs
    rw [len_rgI] at l1
    exact st_end ⟨by show (s.2.length : Int) = many; omega, l2⟩
structure Pl68 (p : Plan) : Prop where
  pg : PlanG p.1.length p.2.1.length 2 7 7 p
  pd : PlanD 7 p
  m1 : 1 ≤ p.1.length
  m3 : p.1.length ≤ 3
  f2 : p.2.1.length ≤ 2
  d : p.2.2.length ≤ 12
  d2 : p.2.1.length = 2 → p.2.2.length ≤ 4
theorem plan68 : Then (t__law_plan_9 ns') (fun p => Pl68 p) E := by
  unfold t__law_plan_9
  refine st_cell (by omega) fun cell => ?_
  refine st_fm (by omega) fun v3 a3 b3 => ?_
  refine st_range (by omega) (by omega) (by omega) (by omega) ?_
  refine st_map (fun _ (y : Rat × Rat) => hq y.1 ≤ 3 ∧ hq y.2 ≤ 7 ∧ y.1 ≤ y.2) (by rw [len_rgI]; omega) (fun x hx => ?_) fun sizes hsz => ?_
  · have := mem_rgI.mp hx
    refine st_cell (by omega) fun v => ?_
    refine st_call (mixed3_ok (by omega) (by omega)) fun w _ => ?_
    refine st_call bounds6_ok fun y hy => st_end hy
  have l1 := hsz.len
  rw [len_rgI] at l1
  refine st_fd (by decide) (by decide) ?_
  refine st_fm (by omega) fun v11 a11 b11 => ?_
  refine st_range (by omega) (by omega) (by omega) (by omega) ?_
  refine st_map (fun _ (y : Rat × Rat) => hq y.1 ≤ 3 ∧ hq y.2 ≤ 7 ∧ y.1 ≤ y.2) (by rw [len_rgI]; omega) (fun x hx => ?_) fun shims hsh => ?_
  · have := mem_rgI.mp hx
    refine st_cell (by omega) fun v => ?_
    refine st_call (mixed3_ok (by omega) (by omega)) fun w _ => ?_
    refine st_call bounds6_ok fun y hy => st_end hy
  have l2 := hsh.len
  rw [len_rgI] at l2
  refine st_fd (by decide) (by decide) ?_
  rw [tLen_eq]
  have hx19 : ∃ z : Int, (tIdx [(13 : Int), 13, 5] (shims.length : Int)) = .ok z ∧ 0 < z ∧ z ≤ 13 ∧ (shims.length = 2 → z = 5) := by
    have : shims.length = 0 ∨ shims.length = 1 ∨ shims.length = 2 := by omega
    rcases this with e | e | e <;> rw [e]
    · exact ⟨13, rfl, by omega, by omega, by omega⟩
    · exact ⟨13, rfl, by omega, by omega, by omega⟩
    · exact ⟨5, rfl, by omega, by omega, by omega⟩
  obtain ⟨z, ez, z1, z2, z3⟩ := hx19
  rw [ez]
  show Then (R.bind _ _) _ _
  refine st_fm z1 fun v20 a20 b20 => ?_
  refine st_range (by omega) (by omega) (by omega) (by omega) ?_
  refine st_fold (fun j (s : List Row) => s.length = j ∧ ∀ r ∈ s, RowG sizes.length shims.length 2 7 r) ⟨rfl, by simp⟩ (fun j x s hx hs => ?_) fun s hs => ?_
  · obtain ⟨k1, k2⟩ := hs
    obtain ⟨ex, hj⟩ := get_rgI hx
    refine st_cell (by omega) fun v => ?_
    refine st_call (mixed3_ok (by omega) (by omega)) fun w _ => ?_
    simp only [tLen_eq]
    refine st_call (shares_ok (by omega) (by omega)) fun r26 h26 => ?_
    refine st_call (shares_ok (by omega) (by omega)) fun r27 h27 => ?_
    refine st_fm (by omega) fun v28 a28 b28 => ?_
    refine st_fd (by decide) (by decide) ?_
    refine st_fm (by omega) fun v30 a30 b30 => ?_
    refine st_mkP 4 (by omega) (ib_le.mpr (by omega)) (ib_le.mpr (by omega)) (by decide) (by decide) fun r31 _ h31 => ?_
    refine st_app (by omega) ?_
    refine st_end ⟨by simp [k1], fun r hr => ?_⟩
    rcases List.mem_append.mp hr with e | e
    · exact k2 r e
    · simp at e; subst e
      exact ⟨by have := h26.1; show r26.1.length = _; omega, by have := h27.1; show r27.1.length = _; omega, h26.2, h27.2, by show hq r31 ≤ 7; omega⟩
  · obtain ⟨k1, k2⟩ := hs
    rw [len_rgI] at k1
    have bs : ∀ x ∈ sizes, hq x.1 ≤ 3 ∧ hq x.2 ≤ 7 ∧ x.1 ≤ x.2 := hsz.all fun _ _ _ h => h
    have bh : ∀ x ∈ shims, hq x.1 ≤ 3 ∧ hq x.2 ≤ 7 ∧ x.1 ≤ x.2 := hsh.all fun _ _ _ h => h
    refine st_end ⟨⟨rfl, rfl, fun x hx => ⟨by have := bs x hx; omega, (bs x hx).2.1⟩, fun x hx => ⟨by have := bh x hx; omega, (bh x hx).2.1⟩, fun x hx => (bs x hx).2.2, fun x hx => (bh x hx).2.2, k2⟩, ⟨fun x hx => ?_, fun x hx => ?_, fun r hr => ?_⟩, by show 1 ≤ sizes.length; omega, by show sizes.length ≤ 3; omega, by show shims.length ≤ 2; omega, by show s.length ≤ 12; omega, fun h => by have := z3 h; show s.length ≤ 4; omega⟩
    · have := bs x hx
      have := dq_hq x.1
      have := dq_hq x.2
      omega
    · have := bh x hx
      have := dq_hq x.1
      have := dq_hq x.2
      omega
    · have := (k2 r hr).sc
      have := dq_hq r.2.2
      omega
def szT (m : Nat) : List Turn := (List.range m).map fun k : Nat => (("size" : Str), (k : Int))
def shT' (f : Nat) : List Turn := (List.range f).map fun k : Nat => (("shim" : Str), (k : Int))
theorem size_ns : ¬ (("size" : Str) = "shim") := by decide +kernel
theorem mem_szT {m : Nat} {t : Turn} : t ∈ szT m ↔ ∃ k : Nat, k < m ∧ t = (("size" : Str), (k : Int)) := by
  unfold szT
  rw [List.mem_map]
  exact ⟨fun ⟨k, h, e⟩ => ⟨k, List.mem_range.mp h, e.symm⟩, fun ⟨k, h, e⟩ => ⟨k, List.mem_range.mpr h, e.symm⟩⟩
theorem mem_shT {f : Nat} {t : Turn} : t ∈ shT' f ↔ ∃ k : Nat, k < f ∧ t = (("shim" : Str), (k : Int)) := by
  unfold shT'
  rw [List.mem_map]
  exact ⟨fun ⟨k, h, e⟩ => ⟨k, List.mem_range.mp h, e.symm⟩, fun ⟨k, h, e⟩ => ⟨k, List.mem_range.mpr h, e.symm⟩⟩
theorem len_all {m f : Nat} : (szT m ++ shT' f).length = m + f := by simp [szT, shT']
theorem nodup_all {m f : Nat} : (szT m ++ shT' f).Nodup := by
  refine List.nodup_append.mpr ⟨?_, ?_, ?_⟩
  · unfold szT List.Nodup
    rw [List.pairwise_map]
    refine List.nodup_range.imp fun h e => h ?_
    injection e with _ e
    omega
  · unfold shT' List.Nodup
    rw [List.pairwise_map]
    refine List.nodup_range.imp fun h e => h ?_
    injection e with _ e
    omega
  · intro a ha b hb e
    obtain ⟨k, _, e1⟩ := mem_szT.mp ha
    obtain ⟨l, _, e2⟩ := mem_shT.mp hb
    rw [e1, e2] at e
    injection e with e _
    exact size_ns e
theorem rg_sz {n : Nat} : (rgI 0 (n : Int)).map (fun x : Int => (("size" : Str), x)) = szT n := by
  unfold rgI szT
  rw [List.map_map, show ((n : Int) - 0).toNat = n by omega]
  refine List.map_congr_left fun k _ => ?_
  show (("size" : Str), (0 : Int) + (k : Int)) = _
  rw [Int.zero_add]
theorem rg_sh {n : Nat} : (rgI 0 (n : Int)).map (fun x : Int => (("shim" : Str), x)) = shT' n := by
  unfold rgI shT'
  rw [List.map_map, show ((n : Int) - 0).toNat = n by omega]
  refine List.map_congr_left fun k _ => ?_
  show (("shim" : Str), (0 : Int) + (k : Int)) = _
  rw [Int.zero_add]
theorem st_szT {δ : Type} {P : δ → Prop} {n : Nat} {k : List Turn → R δ} (hn : n ≤ 1000) (h : Then (k (szT n)) P E) : Then ((tRange 0 (n : Int)).bind fun ks => (tMapG (fun x6 => (.ok (("size" : Str), x6) : R (Str × Int))) ks).bind k) P E := by
  refine st_range (by omega) (by omega) (by omega) (by omega) ?_
  refine st_mapF (fun x : Int => (("size" : Str), x)) (by rw [len_rgI]; omega) (fun _ _ => rfl) ?_
  rw [rg_sz]
  exact h
theorem st_shT {δ : Type} {P : δ → Prop} {n : Nat} {k : List Turn → R δ} (hn : n ≤ 1000) (h : Then (k (shT' n)) P E) : Then ((tRange 0 (n : Int)).bind fun ks => (tMapG (fun x6 => (.ok (("shim" : Str), x6) : R (Str × Int))) ks).bind k) P E := by
  refine st_range (by omega) (by omega) (by omega) (by omega) ?_
  refine st_mapF (fun x : Int => (("shim" : Str), x)) (by rw [len_rgI]; omega) (fun _ _ => rfl) ?_
  rw [rg_sh]
  exact h
theorem order2_ok {p : Plan} {cell : Int} (hm : p.1.length ≤ 100) (hf : p.2.1.length ≤ 100) : Then (t__law_order_2 p cell) (fun o => o.Perm (szT p.1.length ++ shT' p.2.1.length)) E := by
  unfold t__law_order_2
  rw [tLen_eq, tLen_eq]
  refine st_szT (by omega) ?_
  refine st_shT (by omega) ?_
  have ll := @len_all p.1.length p.2.1.length
  refine st_cat (by rw [← List.length_append, ll]; omega) ?_
  refine st_fold (fun j (s : Int × List Turn) => s.2.Perm ((szT p.1.length ++ shT' p.2.1.length).take j)) (.refl _) (fun j x s hx hs => ?_) fun s hs => ?_
  · obtain ⟨hj, ex⟩ := List.getElem?_eq_some_iff.mp hx
    have hl : s.2.length = j := by
      rw [hs.length_eq, List.length_take]; omega
    rw [tLen_eq, hl]
    refine st_fm (by omega) fun v12 a12 b12 => ?_
    have ei : tIns s.2 v12 x = .ok (s.2.take v12.toNat ++ [x] ++ s.2.drop v12.toNat) := by
      unfold tIns L4.tOp
      rw [decide_eq_true ⟨by unfold sLine; omega, a12, by omega⟩]
      rfl
    rw [ei]
    refine st_ok ?_
    refine st_fd (by decide) (by decide) ?_
    refine st_end ?_
    show (s.2.take v12.toNat ++ [x] ++ s.2.drop v12.toNat).Perm _
    rw [List.take_add_one, hx, Option.toList_some, List.append_assoc]
    have h1 : (s.2.take v12.toNat ++ ([x] ++ s.2.drop v12.toNat)).Perm ([x] ++ (s.2.take v12.toNat ++ s.2.drop v12.toNat)) := List.perm_append_comm_assoc ..
    rw [List.take_append_drop] at h1
    exact h1.trans ((List.perm_append_comm).trans (hs.append_right [x]))
  · rw [List.take_length] at hs
    exact st_end hs
end
end Sr
namespace Sr
open PySem PySem.Spec PyProof.Rows L2 L3 L4
@[simp] theorem e_lookT34 {m : MT} {ρ : En} : mLookT m ρ = (m (fzEnv ρ)).bind (lookK ρ) := (rfl)
@[simp] theorem e_lookK34 {b : Bool} {ρ r : En} : lookK ρ (b, r) = .ok (b, ρ) := (rfl)
@[simp] theorem e_fzE034 : fzEnv [] = [] := (rfl)
@[simp] theorem e_fzE134 {t : T} {ρ : En} : fzEnv (some t :: ρ) = (t.fz.map T.d) :: fzEnv ρ := (rfl)
@[simp] theorem e_fzE234 {ρ : En} : fzEnv (none :: ρ) = none :: fzEnv ρ := (rfl)
@[simp] theorem e_thenFz34 {i : Nat} {m : MS} {ρ : En} : mThenFz i m ρ = (m ρ).bind (fzNext i) := (rfl)
def fzN234 (ρ : En) : R Out := .ok (.next ρ)
@[simp] theorem e_fzN234 {ρ : En} : fzN234 ρ = .ok (.next ρ) := (rfl)
@[simp] theorem e_fzNext34 {i : Nat} {ρ : En} : fzNext i (.next ρ) = (L3.fzSlot i ρ).bind fzN234 := (rfl)
theorem calm_fr (q : Rat) : calm (fr q) = true := rfl
end Sr
namespace L4
open PySem PySem.Spec PyProof.Rows L2 L3
section
variable {Y α β γ : Type} {p : Pt} {t : R α} {Rel : α → Y → Prop} {κ : SK Y} {KI : List T → Env → R Y} {K : T → Env → R Y} {i : Nat}
theorem Inj.opt {e : β → PyData} (h : Inj e) (hn : ∀ a, e a ≠ .none) : Inj (eO e) := ⟨fun a b z => by
  cases a with
  | none =>
    cases b with
    | none => rfl
    | some b => exact (hn b z.symm).elim
  | some a =>
    cases b with
    | none => exact (hn a z).elim
    | some b => rw [h.inj a b z]⟩
end
end L4
namespace L4
open PySem PySem.Spec PyProof.Rows L2 L3
section
variable {Y α β γ : Type} {p : Pt} {t : R α} {Rel : α → Y → Prop} {K : T → Env → R Y} {i : Nat}
def idxK (K : T → Env → R Y) : T → T → Env → R Y := fun u v ρ => (ofO (idxT u v)).bind fun j => K j ρ
end
end L4
namespace L4
open PySem PySem.Spec PyProof.Rows L2 L3
section
variable {Y α β σ : Type} {p : Pt} {t : R α} {Rel : α → Y → Prop} {κ : SK Y} {i j : Nat}
end
end L4
namespace L4
open PySem PySem.Spec PyProof.Rows L2 L3
section
variable {Y α β : Type} {p : Pt} {t : R α} {Rel : α → Y → Prop} {K : T → Env → R Y}
end
end L4
namespace L4
open PySem PySem.Spec PyProof.Rows L2 L3
open PySem.W (dataLe)
section
variable {Y α β : Type} {p : Pt} {t : R α} {Rel : α → Y → Prop} {K : T → Env → R Y}
end
end L4
namespace L4
open PySem PySem.Spec PyProof.Rows L2 L3
section
variable {Y α : Type} {p : Pt} {t : R α} {Rel : α → Y → Prop} {κ : SK Y}
end
end L4
namespace L4
open PySem PySem.Spec PyProof.Rows L2 L3
section
variable {Y α β : Type} {p : Pt} {t : R α} {Rel : α → Y → Prop} {κ : SK Y} {i : Nat} {K : T → Env → R Y} {KI : List T → Env → R Y}
theorem Mt.clearN {p : Pt} {ρ : Env} (h : Mt p ρ) : ∀ {js : List Nat}, Mt (L3.clearN js p) (L3.clearN js ρ) := by
  intro js
  induction js generalizing p ρ with
  | nil => exact h
  | cons j js ih => exact ih (h.unset (i := j) (x := none))
end
end L4
namespace L4
open PySem PySem.Spec PyProof.Rows L2 L3
section
variable {Y α β γ : Type} {p : Pt} {t : R α} {Rel : α → Y → Prop} {κ : SK Y} {i : Nat} {K : T → Env → R Y} {KI : List T → Env → R Y}
end
end L4
namespace L4
open PySem PySem.Spec PyProof.Rows L2 L3
end L4
namespace L4
open PySem PySem.Spec PyProof.Rows L2 L3
section
variable {Y α β : Type} {p : Pt} {t : R α} {Rel : α → Y → Prop} {κ : SK Y} {i : Nat} {K : T → Env → R Y} {KI : List T → Env → R Y}
end
end L4
namespace L4
open PySem PySem.Spec PyProof.Rows L2 L3
section
variable {Y α β γ : Type} {p : Pt} {K : T → Env → R Y} {t : R α} {Rel : α → Y → Prop} {KE : Env → R Y} {κ : SK Y} {i : Nat} {x f m : Str} {fs : List Str} {ts : List T}
theorem cat_fix {xs ys : List PyData} (h : decide (xs.length + ys.length ≤ 16777216) = true) : opAdd (.d (.list xs)) (.d (.list ys)) = .ok (.nl (xs ++ ys)) := by
  have h2 := of_decide_eq_true h
  simp [opAdd, sLine, h2]
end
end L4
namespace Sr
open PySem PySem.Spec PyProof.Rows L2 L3 L4 Sx
abbrev tD (t : Turn) : PyData := .tuple [.str t.1, .int t.2]
def asT : PyData → Option Turn
  | .tuple [.str w, .int k] => some (w, k)
  | _ => none
theorem asT_some {x : PyData} {t : Turn} (h : asT x = some t) : x = tD t := by
  unfold asT at h
  split at h
  · cases h; rfl
  · cases h
theorem asT_tD {t : Turn} : asT (tD t) = some t := rfl
def ordF : List Turn → List PyData → Bool
  | _, [] => true
  | due, x :: xs => match asT x with
    | some t => if t ∈ due then ordF (due.erase t) xs else false
    | none => false
def lawG (all : List Turn) : List Turn → List PyData → Bool
  | _, [] => true
  | seen, x :: xs => match asT x with
    | some t => if t ∈ all ∧ t ∉ seen then lawG all (seen ++ [t]) xs else false
    | none => false
theorem ord_law {all : List Turn} (hn : all.Nodup) : ∀ (xs : List PyData) (seen due : List Turn), due.Nodup → (∀ t, t ∈ due ↔ t ∈ all ∧ t ∉ seen) → ordF due xs = lawG all seen xs
  | [], _, _, _, _ => rfl
  | x :: xs, seen, due, dn, h => by
    unfold ordF lawG
    cases asT x with
    | none => rfl
    | some t =>
      dsimp only
      by_cases c : t ∈ due
      · rw [if_pos c, if_pos ((h t).mp c)]
        refine ord_law hn xs _ _ (dn.erase t) fun u => ?_
        rw [List.Nodup.mem_erase_iff dn, h u]
        simp only [List.mem_append, List.mem_singleton, not_or]
        constructor
        · rintro ⟨a, b, d⟩; exact ⟨b, d, a⟩
        · rintro ⟨b, d, a⟩; exact ⟨a, b, d⟩
      · rw [if_neg c, if_neg fun z => c ((h t).mpr z)]
theorem eqv_tD {t : Turn} {x : PyData} (h : SeqAt.eqvE (tD t) x = true) : x = tD t ∨ ∃ b, x = .tuple [.str t.1, .bool b] := by
  obtain ⟨w, k⟩ := t
  cases x with
  | tuple ys =>
    match ys with
    | [] => simp [SeqAt.eqvE, SeqAt.eqvEs] at h
    | [a] => simp [SeqAt.eqvE, SeqAt.eqvEs] at h
    | [a, b] =>
      simp only [SeqAt.eqvE, SeqAt.eqvEs, Bool.and_true, Bool.and_eq_true] at h
      obtain ⟨h1, h2⟩ := h
      have ea : a = .str w := by
        cases a <;> simp [SeqAt.eqvE, PyData.eqv] at h1
        rw [h1]
      subst ea
      cases b with
      | int i =>
        have : k = i := by simpa [SeqAt.eqvE, PyData.eqv] using h2
        subst this
        exact .inl rfl
      | bool b => exact .inr ⟨b, rfl⟩
      | _ => simp [SeqAt.eqvE, PyData.eqv] at h2
    | _ :: _ :: _ :: _ => simp [SeqAt.eqvE, SeqAt.eqvEs] at h
  | _ => simp [SeqAt.eqvE, PyData.eqv] at h
theorem eqv_self {t : Turn} : SeqAt.eqvE (tD t) (tD t) = true := by simp [SeqAt.eqvE, SeqAt.eqvEs, PyData.eqv]
theorem any_tD {due : List Turn} {t : Turn} : (due.map tD).any (fun z => SeqAt.eqvE z (tD t)) = decide (t ∈ due) := by
  by_cases c : t ∈ due
  · rw [decide_eq_true c]
    exact List.any_eq_true.mpr ⟨tD t, List.mem_map_of_mem c, eqv_self⟩
  · rw [decide_eq_false c]
    refine Bool.eq_false_iff.mpr fun h => c ?_
    obtain ⟨z, hz, e⟩ := List.any_eq_true.mp h
    obtain ⟨u, hu, rfl⟩ := List.mem_map.mp hz
    rcases eqv_tD e with e | ⟨b, e⟩
    · injection e with e
      injection e with e1 e2
      injection e1 with e1
      injection e2 with e2 _
      injection e2 with e2
      have : t = u := Prod.ext e1 e2
      rw [this]; exact hu
    · injection e with e
      injection e with e1 e2
      injection e2 with e2 _
      cases e2
theorem any_odd {due : List Turn} {x : PyData} (h : (due.map tD).any (fun z => SeqAt.eqvE z x) = true) : (∃ t, x = tD t) ∨ ∃ w b, x = .tuple [.str w, .bool b] := by
  obtain ⟨z, hz, e⟩ := List.any_eq_true.mp h
  obtain ⟨u, hu, rfl⟩ := List.mem_map.mp hz
  rcases eqv_tD e with e | ⟨b, e⟩
  · exact .inl ⟨u, e⟩
  · exact .inr ⟨_, b, e⟩
theorem pv_tD {t u : Turn} : PyData.eqv (tD t) (tD u) = decide (t = u) := by
  obtain ⟨w, k⟩ := t
  obtain ⟨w', k'⟩ := u
  show (w == w' && ((k == k') && true)) = _
  rw [Bool.and_true]
  by_cases a : w = w'
  · subst a
    by_cases b : k = k'
    · subst b; simp
    · rw [decide_eq_false (by intro e; injection e with _ e; exact b e)]
      simp [b]
  · rw [decide_eq_false (by intro e; injection e with e _; exact a e)]
    simp [a]
theorem idx_tD {due : List Turn} {t : Turn} (h : t ∈ due) : ∃ j, idxD (due.map tD) (tD t) = some j ∧ due.take j ++ due.drop (j + 1) = due.erase t := by
  unfold idxD
  rw [List.findIdx?_map]
  have e : (fun z => PyData.eqv z (tD t)) ∘ tD = fun u => u == t := funext fun u => by
    show PyData.eqv (tD u) (tD t) = _
    rw [pv_tD]
    by_cases h : u = t <;> simp [h]
  rw [e]
  have h2 : due.idxOf t < due.length := List.idxOf_lt_length_iff.mpr h
  refine ⟨due.idxOf t, ?_, ?_⟩
  · have : due.findIdx? (fun u => u == t) = some (due.findIdx (fun u => u == t)) := by
      rw [List.findIdx?_eq_some_of_exists]
      exact ⟨t, h, by simp⟩
    rw [this]
    rfl
  · rw [List.erase_eq_eraseIdx_of_idxOf rfl, List.eraseIdx_eq_take_drop_succ]
end Sr
namespace Sr
open PySem PySem.Spec PyProof.Rows L2 L3 L4 Sx
theorem kt_i : kitB "int" "tuple" = some false := by decide +kernel
theorem kt_b : kitB "bool" "tuple" = some false := by decide +kernel
theorem kt_s : kitB "str" "tuple" = some false := by decide +kernel
theorem kt_t : kitB "tuple" "tuple" = some true := by decide +kernel
theorem kt_l : kitB "list" "tuple" = some false := by decide +kernel
theorem kt_n : kitB "NoneType" "tuple" = some false := by decide +kernel
theorem kt_d : kitB "dict" "tuple" = some false := by decide +kernel
theorem kb_i : kitB "int" "bool" = some false := by decide +kernel
theorem kb_b : kitB "bool" "bool" = some true := by decide +kernel
theorem kb_s : kitB "str" "bool" = some false := by decide +kernel
theorem kb_t : kitB "tuple" "bool" = some false := by decide +kernel
theorem kb_l : kitB "list" "bool" = some false := by decide +kernel
theorem kb_n : kitB "NoneType" "bool" = some false := by decide +kernel
theorem kb_d : kitB "dict" "bool" = some false := by decide +kernel
theorem ki_i : kitB "int" "int" = some true := by decide +kernel
theorem ki_s : kitB "str" "int" = some false := by decide +kernel
theorem ki_t : kitB "tuple" "int" = some false := by decide +kernel
theorem ki_l : kitB "list" "int" = some false := by decide +kernel
theorem ki_n : kitB "NoneType" "int" = some false := by decide +kernel
theorem ki_d : kitB "dict" "int" = some false := by decide +kernel
def isTup : PyData → Bool
  | .tuple _ => true
  | _ => false
theorem isa_tup {x : PyData} : isaT "tuple" (.d x) = some (isTup x) := by
  cases x <;> simp [isTup, kt_i, kt_b, kt_s, kt_t, kt_l, kt_n, kt_d]
def tT (t : Turn) : T := .d (tD t)
theorem toD_tT {due : List Turn} : T.toDAll (due.map tT) = some (due.map tD) := by
  have : due.map tT = (due.map tD).map T.d := by rw [List.map_map]; rfl
  rw [this]
  simp
theorem allD_tT {due : List Turn} : T.allD (due.map tT) = some (due.map tD) := by
  induction due with
  | nil => rfl
  | cons a r ih => show (T.allD (r.map tT)).map _ = _; rw [ih]; rfl
theorem notInE_t {due : List Turn} {x : PyData} (hx : x.depth ≤ 60) : opNotInE (.d x) (.ol (due.map tT)) = .ok (.v (.d (.bool (!(due.map tD).any fun z => SeqAt.eqvE z x)))) := by
  unfold opNotInE L3.inE
  simp only [e_toDD, e_toDOl, toD_tT, Option.map_some]
  rw [decide_eq_true hx]
  rfl
noncomputable abbrev ordT : MT := mOr (mNot (mTest (mLift (pIsa "tuple" (pVar 3))))) (mOr (mTest (mLift (pBin opNotInE (pVar 3) (pVar 2)))) (mTest (mLift (pIsa "bool" (pBin opIdx (pVar 3) (pC (.int 1)))))))
noncomputable abbrev ordB : MS := mSeq (mIfS ordT (mRet (mLift (pC (.bool false)))) (mNext)) <|
    mDrop (mMeth 2 (lHere) opRemove (mCons (mVar 3) (mNil)))
theorem sh_tD {t : Turn} (h : PyData.strOk t.1 = true) : SeqAt.shaped (tD t) = true := by
  simp [SeqAt.shaped, PyData.canLay0, PyData.canLayAll0, PyData.depth, PyData.depthAll, h]
theorem sh_list {due : List Turn} (h : ∀ t ∈ due, PyData.strOk t.1 = true) : SeqAt.shaped (.list (due.map tD)) = true := by
  unfold SeqAt.shaped
  rw [Bool.and_eq_true]
  have a : PyData.canLayAll0 (due.map tD) = true ∧ PyData.depthAll (due.map tD) ≤ 1 := by
    induction due with
    | nil => exact ⟨rfl, Nat.zero_le _⟩
    | cons t r ih =>
      obtain ⟨i1, i2⟩ := ih fun u hu => h u (List.mem_cons_of_mem _ hu)
      have ht := h t List.mem_cons_self
      rw [List.map_cons]
      refine ⟨?_, ?_⟩
      · rw [PyData.canLayAll0, i1, Bool.and_true]
        simp [PyData.canLay0, PyData.canLayAll0, ht]
      · rw [PyData.depthAll]
        have : (tD t).depth = 1 := by simp [PyData.depth, PyData.depthAll]
        omega
  refine ⟨by rw [PyData.canLay0]; exact a.1, decide_eq_true ?_⟩
  rw [PyData.depth]
  omega
theorem rem_t {due : List Turn} {t : Turn} (h : t ∈ due) (hw : ∀ t ∈ due, PyData.strOk t.1 = true) : opRemove (due.map tT) [.d (tD t)] = some (.d .none, (due.erase t).map tT) := by
  obtain ⟨j, e1, e2⟩ := idx_tD h
  unfold opRemove
  simp only [allD_tT, sh_tD (hw t h), sh_list hw, e1, Option.map_some, Bool.and_self, if_true]
  rw [← e2, List.map_append, List.map_take, List.map_drop]
theorem ord_step {P O : T} {due : List Turn} {x : PyData} (hx : x.depth ≤ 60) (hw : ∀ t ∈ due, PyData.strOk t.1 = true) :
    ordB [some P, some O, some (.ol (due.map tT)), some (.d x), none] = match asT x with
      | some t => if t ∈ due then .ok (.next [some P, some O, some (.ol ((due.erase t).map tT)), some (.d x), none]) else .ok (.ret (.d (.bool false)) [some P, some O, some (.ol (due.map tT)), some (.d x), none])
      | none => .ok (.ret (.d (.bool false)) [some P, some O, some (.ol (due.map tT)), some (.d x), none]) := by
  by_cases ht : isTup x = true
  · have ni := notInE_t (due := due) hx
    cases ha : (due.map tD).any fun z => SeqAt.eqvE z x with
    | false =>
      rw [ha] at ni
      have hr : ordB [some P, some O, some (.ol (due.map tT)), some (.d x), none] = .ok (.ret (.d (.bool false)) [some P, some O, some (.ol (due.map tT)), some (.d x), none]) := by
        simp [isa_tup, ht, ni]
      rw [hr]
      cases e : asT x with
      | none => rfl
      | some t =>
        have ex := asT_some e
        subst ex
        rw [any_tD] at ha
        dsimp only
        rw [if_neg (of_decide_eq_false ha)]
    | true =>
      rw [ha] at ni
      rcases any_odd ha with ⟨t, rfl⟩ | ⟨w, b, rfl⟩
      · rw [any_tD] at ha
        have hm : t ∈ due := of_decide_eq_true ha
        rw [asT_tD]
        dsimp only
        rw [if_pos hm]
        have rm := rem_t hm hw
        generalize hM : due.map tT = M at *
        generalize hM2 : (due.erase t).map tT = M2 at *
        simp [isa_tup, isTup, ni, kb_i, rm]
      · show _ = R.ok (Out.ret (.d (.bool false)) [some P, some O, some (.ol (due.map tT)), some (.d (.tuple [.str w, .bool b])), none])
        generalize due.map tT = M at *
        simp [isa_tup, isTup, ni, kb_b]
  · have ht : isTup x = false := by simpa using ht
    have e : asT x = none := by
      cases x <;> simp [isTup] at ht <;> rfl
    rw [e]
    simp [isa_tup, ht]
end Sr
namespace Sr
open PySem PySem.Spec PyProof.Rows L2 L3 L4 Sx
theorem ord_loop {P O : T} : ∀ (ds : List PyData) (due : List Turn) (e3 : Option T), (∀ x ∈ ds, x.depth ≤ 60) → (∀ t ∈ due, PyData.strOk t.1 = true) → ∃ (d' : List Turn) (e' : Option T), mLoop (mgName 3) ordB (ds.map T.d) [some P, some O, some (.ol (due.map tT)), e3, none] = .ok (cond (ordF due ds) (.next [some P, some O, some (.ol (d'.map tT)), e', none]) (.ret (.d (.bool false)) [some P, some O, some (.ol (d'.map tT)), e', none]))
  | [], due, e3, _, _ => ⟨due, e3, rfl⟩
  | x :: ds, due, e3, hd, hw => by
    have st := ord_step (P := P) (O := O) (hd x List.mem_cons_self) hw
    rw [List.map_cons, e_loopC]
    have eg : ofO (mgName 3 (.d x) [some P, some O, some (.ol (due.map tT)), e3, none]) = .ok [some P, some O, some (.ol (due.map tT)), some (.d x), none] := rfl
    rw [eg, bind_okS, e_loopK, st]
    unfold ordF
    cases e : asT x with
    | none => exact ⟨due, _, rfl⟩
    | some t =>
      dsimp only
      by_cases c : t ∈ due
      · rw [if_pos c, if_pos c]
        obtain ⟨d', e', ih⟩ := ord_loop (P := P) (O := O) ds (due.erase t) (some (.d x)) (fun y hy => hd y (List.mem_cons_of_mem _ hy)) fun u hu => hw u (List.mem_of_mem_erase hu)
        exact ⟨d', e', by rw [bind_okS, e_loopN, ih]⟩
      · rw [if_neg c, if_neg c]
        exact ⟨due, _, rfl⟩
theorem str_all {m f : Nat} : ∀ t ∈ szT m ++ shT' f, PyData.strOk t.1 = true := fun t ht => by
  rcases List.mem_append.mp ht with z | z
  · obtain ⟨k, _, e⟩ := mem_szT.mp z
    subst e; show PyData.strOk "size" = true; decide +kernel
  · obtain ⟨k, _, e⟩ := mem_shT.mp z
    subst e; show PyData.strOk "shim" = true; decide +kernel
theorem comp_turn {w : Str} {n : Nat} {j : Int} {A : List PyData} {P : T} {O e2 e3 : Option T} (hn : n ≤ 1000) (hp : okV (opIdx P (.d (.int j))) = some (.d (.list A))) (hl : A.length = n) : mLc (miR1 (mCons (mLift (pCallB opLen (pCons (pBin opIdx (pVar 0) (pC (.int j))) (pNil)))) (mNil))) (mgName 4) (mtYes) (mTup (mCons (mLift (pC (.str w))) (mCons (mVar 4) (mNil)))) [4] [some P, O, e2, e3, none] = .ok (.ol ((List.range n).map fun k : Nat => tT (w, (k : Int))), [some P, O, e2, e3, none]) := by
  refine lc_run (xs := List.range n) (enc := fun i : Nat => T.d (.int (i : Int))) (out := fun k : Nat => tT (w, (k : Int))) ?_ rfl (by rw [List.length_range]; omega) fun x _ => ⟨[some P, O, e2, e3, some (.d (.int (x : Int)))], rfl, by simp [tT, tD], rfl⟩
  have h2 : (mCons (mLift (pCallB opLen (pCons (pBin opIdx (pVar 0) (pC (.int j))) (pNil)))) (mNil)) [some P, O, e2, e3, none] = .ok ([.d (.int (n : Int))], [some P, O, e2, e3, none]) := by
    simp [hp, hl]
  show ((mCons (mLift (pCallB opLen (pCons (pBin opIdx (pVar 0) (pC (.int j))) (pNil)))) (mNil)) [some P, O, e2, e3, none]).bind rg1 = _
  rw [h2, bind_okS, rg1_nat (by omega)]
theorem tT_sz {m : Nat} : ((List.range m).map fun k : Nat => tT (("size" : Str), (k : Int))) = (szT m).map tT := by unfold szT; rw [List.map_map]; rfl
theorem tT_sh {m : Nat} : ((List.range m).map fun k : Nat => tT (("shim" : Str), (k : Int))) = (shT' m).map tT := by unfold shT'; rw [List.map_map]; rfl
theorem is_order_ok {A B : List PyData} {D : PyData} {ds : List PyData} (hA : A.length ≤ 100) (hB : B.length ≤ 100) (hl : ds.length ≤ 100) (hd : ∀ x ∈ ds, x.depth ≤ 60) :
    m_is_order [.d (.tuple [.list A, .list B, D]), .d (.list ds)] = .ok (.d (.bool (decide (ds.length = A.length + B.length) && ordF (szT A.length ++ shT' B.length) ds)), []) := by
  have c1 := comp_turn (w := "size") (j := 0) (P := .d (.tuple [.list A, .list B, D])) (A := A) (O := some (.d (.list ds))) (e2 := none) (e3 := none) (n := A.length) (by omega) (by simp) rfl
  have c2 := comp_turn (w := "shim") (j := 1) (P := .d (.tuple [.list A, .list B, D])) (A := B) (O := some (.d (.list ds))) (e2 := none) (e3 := none) (n := B.length) (by omega) (by simp) rfl
  rw [tT_sz] at c1
  rw [tT_sh] at c2
  have z1 : T.fz (.ol ((szT A.length).map tT)) = some (.list ((szT A.length).map tD)) := by
    have : (szT A.length).map tT = ((szT A.length).map tD).map T.d := by rw [List.map_map]; rfl
    rw [this]; simp [-List.map_map]
  have z2 : T.fz (.ol ((shT' B.length).map tT)) = some (.list ((shT' B.length).map tD)) := by
    have : (shT' B.length).map tT = ((shT' B.length).map tD).map T.d := by rw [List.map_map]; rfl
    rw [this]; simp [-List.map_map]
  have ct : opAdd (.d (.list ((szT A.length).map tD))) (.d (.list ((shT' B.length).map tD))) = .ok (.nl ((szT A.length).map tD ++ (shT' B.length).map tD)) := cat_fix (decide_eq_true (by simp [szT, shT']; omega))
  have eo : (RV.nl ((szT A.length).map tD ++ (shT' B.length).map tD)).toT = .ol ((szT A.length ++ shT' B.length).map tT) := by
    rw [← List.map_append]
    show T.ol (((szT A.length ++ shT' B.length).map tD).map T.d) = _
    rw [List.map_map]; rfl
  have ll := @len_all A.length B.length
  obtain ⟨d', e', lp⟩ := ord_loop (P := .d (.tuple [.list A, .list B, D])) (O := .d (.list ds)) ds (szT A.length ++ shT' B.length) none hd str_all
  obtain ⟨N, hN⟩ : ∃ N, N = A.length + B.length := ⟨_, rfl⟩
  have s1 : opLen [.ol ((szT A.length ++ shT' B.length).map tT)] = .ok (.v (.d (.int (N : Int)))) := by
    rw [hN, ← ll, ← List.length_map (f := tT)]
    rfl
  rw [← hN]
  generalize hM : (szT A.length ++ shT' B.length).map tT = M at *
  generalize (szT A.length).map tT = M1 at *
  generalize (shT' B.length).map tT = M2 at *
  generalize (szT A.length).map tD = N1 at *
  generalize (shT' B.length).map tD = N2 at *
  generalize hO : ordF (szT A.length ++ shT' B.length) ds = bo at *
  unfold m_is_order
  by_cases c : ds.length = N
  · rw [decide_eq_true c]
    cases bo with
    | true =>
      rw [cond_true] at lp
      simp [-e_mLc, c1, c2, z1, z2, ct, eo, s1, c, lp]
    | false =>
      rw [cond_false] at lp
      simp [-e_mLc, c1, c2, z1, z2, ct, eo, s1, c, lp]
  · rw [decide_eq_false c]
    have c' : ¬ ((ds.length : Int) = (N : Int)) := by omega
    simp [-e_mLc, c1, c2, z1, z2, ct, eo, s1, c']
end Sr
namespace Sr
open PySem PySem.Spec PyProof.Rows L2 L3 L4 Sx
abbrev kSz : Str := "size"
abbrev kSh : Str := "shim"
abbrev WD : PyData := .list [.str kSz, .str kSh]
abbrev MD (m f : Nat) : T := .od [.inr "size", .inr "shim"] [.d (.int (m : Int)), .d (.int (f : Int))]
noncomputable abbrev dueT1 : MT := mOr (mNot (mTest (mLift (pIsa "tuple" (pVar 4))))) (mOr (mTest (mLift (pBin opNe (pCallB opLen (pCons (pVar 4) (pNil))) (pC (.int 2))))) (mTest (mBin opNotInE (mLift (pBin opIdx (pVar 4) (pC (.int 0)))) (mFz (mLst (mCons (mLift (pC (.str "size"))) (mCons (mLift (pC (.str "shim"))) (mNil))))))))
noncomputable abbrev dueT2 : MT := mOr (mTest (mLift (pIsa "bool" (pBin opIdx (pVar 4) (pC (.int 1)))))) (mOr (mNot (mTest (mLift (pIsa "int" (pBin opIdx (pVar 4) (pC (.int 1))))))) (mTest (mLift (pBin opInD (pVar 4) (pVar 3)))))
noncomputable abbrev dueT3 : MT := mOr (mTest (mLift (pBin opLt (pBin opIdx (pVar 4) (pC (.int 1))) (pC (.int 0))))) (mTest (mLift (pBin opGe (pBin opIdx (pVar 4) (pC (.int 1))) (pBin opKey (pVar 2) (pBin opIdx (pVar 4) (pC (.int 0)))))))
noncomputable abbrev dueB : MS := mSeq (mIfS dueT1 (mRet (mLift (pC (.bool false)))) (mNext)) <|
    mSeq (mIfS dueT2 (mRet (mLift (pC (.bool false)))) (mNext)) <|
    mSeq (mIfS dueT3 (mRet (mLift (pC (.bool false)))) (mNext)) <|
    mDrop (mMeth 3 (lHere) opAppend (mCons (mVar 4) (mNil)))
theorem notIn_w {a : PyData} (h : a.depth ≤ 60) : opNotInE (.d a) (.d WD) = .ok (.v (.d (.bool (!(SeqAt.eqvE (.str kSz) a || SeqAt.eqvE (.str kSh) a))))) := by
  unfold opNotInE L3.inE
  simp only [e_toDD]
  rw [decide_eq_true h]
  show R.ok (RV.v (.d (.bool (!(SeqAt.eqvE (.str kSz) a || (SeqAt.eqvE (.str kSh) a || false)))))) = _
  rw [Bool.or_false]
theorem word_of {a : PyData} {w : Str} (h : SeqAt.eqvE (.str w) a = true) : a = .str w := by
  cases a <;> simp [SeqAt.eqvE, PyData.eqv] at h
  rw [h]
theorem inD_t {seen : List Turn} {t : Turn} (ht : PyData.strOk t.1 = true) (hw : ∀ t ∈ seen, PyData.strOk t.1 = true) : opInD (.d (tD t)) (.ol (seen.map tT)) = .ok (.v (.d (.bool (decide (t ∈ seen))))) := by
  unfold opInD inD
  simp only [e_toDD, e_toDOl, toD_tT, Option.map_some, sh_tD ht, sh_list hw]
  have : (seen.map tD).any (fun z => PyData.eqv z (tD t)) = decide (t ∈ seen) := by
    rw [List.any_map]
    have e : ((fun z => PyData.eqv z (tD t)) ∘ tD) = fun u => decide (u = t) := funext fun u => pv_tD
    rw [e]
    by_cases c : t ∈ seen
    · rw [decide_eq_true c]
      exact List.any_eq_true.mpr ⟨t, c, decide_eq_true rfl⟩
    · rw [decide_eq_false c]
      refine Bool.eq_false_iff.mpr fun h => c ?_
      obtain ⟨u, hu, e⟩ := List.any_eq_true.mp h
      have := of_decide_eq_true e
      rw [← this]; exact hu
  rw [this]
  rfl
theorem key_sz {m f : Nat} : opKey (MD m f) (.d (.str kSz)) = .ok (.v (.d (.int (m : Int)))) := rfl
theorem key_sh {m f : Nat} : opKey (MD m f) (.d (.str kSh)) = .ok (.v (.d (.int (f : Int)))) := rfl
def duR (P O : T) (m f : Nat) (seen : List Turn) (x : PyData) (b : Bool) (t : Turn) : R Out := cond b (.ok (.next [some P, some O, some (MD m f), some (.ol ((seen ++ [t]).map tT)), some (.d x)])) (.ok (.ret (.d (.bool false)) [some P, some O, some (MD m f), some (.ol (seen.map tT)), some (.d x)]))
theorem due_turn {P O : T} {m f : Nat} {seen : List Turn} {w : Str} {k : Int} (hk : w = kSz ∨ w = kSh) (hw : ∀ t ∈ seen, PyData.strOk t.1 = true) (hs : seen.length ≤ 1000) :
    dueB [some P, some O, some (MD m f), some (.ol (seen.map tT)), some (.d (tD (w, k)))] = duR P O m f seen (tD (w, k)) (decide ((w, k) ∉ seen ∧ 0 ≤ k ∧ k < (if w = kSz then (m : Int) else (f : Int)))) (w, k) := by
  have so : PyData.strOk w = true := by rcases hk with e | e <;> subst e <;> decide +kernel
  have ni := notIn_w (a := .str w) (by show 0 ≤ 60; omega)
  have e0 : (SeqAt.eqvE (.str kSz) (.str w) || SeqAt.eqvE (.str kSh) (.str w)) = true := by rcases hk with e | e <;> subst e <;> decide +kernel
  rw [e0] at ni
  have id := inD_t (t := (w, k)) so hw
  have ek : opKey (MD m f) (.d (.str w)) = .ok (.v (.d (.int (if w = kSz then (m : Int) else (f : Int))))) := by
    rcases hk with e | e
    · subst e; rw [if_pos rfl]; exact key_sz
    · subst e; rw [if_neg (by decide +kernel)]; exact key_sh
  generalize (if w = kSz then (m : Int) else (f : Int)) = M at *
  have hl : (seen.map tT).length < sLine := by rw [List.length_map]; unfold sLine; omega
  have e2 : (seen ++ [(w, k)]).map tT = seen.map tT ++ [.d (tD (w, k))] := by rw [List.map_append]; rfl
  unfold duR
  rw [e2]
  generalize hS : seen.map tT = S at *
  by_cases c1 : (w, k) ∈ seen
  · rw [decide_eq_true c1] at id
    rw [decide_eq_false (fun h => h.1 c1), cond_false]
    simp [isa_tup, isTup, ni, kb_i, ki_i, id]
  rw [decide_eq_false c1] at id
  by_cases c2 : 0 ≤ k
  · by_cases c3 : k < M
    · rw [decide_eq_true ⟨c1, c2, c3⟩, cond_true]
      have n2 : ¬ k < 0 := by omega
      have n3 : ¬ M ≤ k := by omega
      simp [isa_tup, isTup, ni, kb_i, ki_i, id, ek, n2, n3, hl]
    · rw [decide_eq_false (fun h => c3 h.2.2), cond_false]
      have n2 : ¬ k < 0 := by omega
      have n3 : M ≤ k := by omega
      simp [isa_tup, isTup, ni, kb_i, ki_i, id, ek, n2, n3]
  · rw [decide_eq_false (fun h => c2 h.2.1), cond_false]
    have n2 : k < 0 := by omega
    simp [isa_tup, isTup, ni, kb_i, ki_i, id, ek, n2]
theorem due_step {P O : T} {m f : Nat} {seen : List Turn} {x : PyData} (hx : x.depth ≤ 60) (hw : ∀ t ∈ seen, PyData.strOk t.1 = true) (hs : seen.length ≤ 1000) :
    dueB [some P, some O, some (MD m f), some (.ol (seen.map tT)), some (.d x)] = match asT x with
      | some t => duR P O m f seen x (decide (t ∈ szT m ++ shT' f ∧ t ∉ seen)) t
      | none => .ok (.ret (.d (.bool false)) [some P, some O, some (MD m f), some (.ol (seen.map tT)), some (.d x)]) := by
  have no : asT x = none → dueB [some P, some O, some (MD m f), some (.ol (seen.map tT)), some (.d x)] = .ok (.ret (.d (.bool false)) [some P, some O, some (MD m f), some (.ol (seen.map tT)), some (.d x)]) → dueB [some P, some O, some (MD m f), some (.ol (seen.map tT)), some (.d x)] = match asT x with
      | some t => duR P O m f seen x (decide (t ∈ szT m ++ shT' f ∧ t ∉ seen)) t
      | none => .ok (.ret (.d (.bool false)) [some P, some O, some (MD m f), some (.ol (seen.map tT)), some (.d x)]) := fun h1 h2 => by rw [h1]; exact h2
  by_cases ht : isTup x = true
  · cases x with
    | tuple ys =>
      match ys, hx with
      | [], _ =>
        refine no rfl ?_
        generalize seen.map tT = S
        simp [isa_tup, isTup]
      | [a], _ =>
        refine no (by cases a <;> rfl) ?_
        generalize seen.map tT = S
        simp [isa_tup, isTup]
      | a :: b :: c :: r, _ =>
        refine no (by cases a <;> cases b <;> rfl) ?_
        have : ¬ ((r.length : Int) + 1 + 1 + 1 = 2) := by omega
        generalize seen.map tT = S
        simp [isa_tup, isTup, this]
      | [a, b], hx =>
        have da : a.depth ≤ 60 := by
          have : (PyData.tuple [a, b]).depth = max a.depth (max b.depth 0) + 1 := by simp [PyData.depth, PyData.depthAll]
          omega
        have ni := notIn_w da
        cases e0 : (SeqAt.eqvE (.str kSz) a || SeqAt.eqvE (.str kSh) a) with
        | false =>
          rw [e0] at ni
          have hr : dueB [some P, some O, some (MD m f), some (.ol (seen.map tT)), some (.d (.tuple [a, b]))] = .ok (.ret (.d (.bool false)) [some P, some O, some (MD m f), some (.ol (seen.map tT)), some (.d (.tuple [a, b]))]) := by
            generalize seen.map tT = S
            simp [isa_tup, isTup, ni]
          rw [hr]
          cases e : asT (.tuple [a, b]) with
          | none => rfl
          | some t =>
            have ex := asT_some e
            injection ex with ex
            injection ex with ea _
            dsimp only
            rw [decide_eq_false]
            · rfl
            · rintro ⟨h1, _⟩
              rcases List.mem_append.mp h1 with z | z
              · obtain ⟨k, _, e⟩ := mem_szT.mp z
                subst e
                rw [ea] at e0
                exact absurd e0 (show ¬ (SeqAt.eqvE (.str kSz) (.str kSz) || SeqAt.eqvE (.str kSh) (.str kSz)) = false by decide +kernel)
              · obtain ⟨k, _, e⟩ := mem_shT.mp z
                subst e
                rw [ea] at e0
                exact absurd e0 (show ¬ (SeqAt.eqvE (.str kSz) (.str kSh) || SeqAt.eqvE (.str kSh) (.str kSh)) = false by decide +kernel)
        | true =>
          have hk : ∃ w, a = .str w ∧ (w = kSz ∨ w = kSh) := by
            rw [Bool.or_eq_true] at e0
            rcases e0 with e | e
            · exact ⟨_, word_of e, .inl rfl⟩
            · exact ⟨_, word_of e, .inr rfl⟩
          obtain ⟨w, rfl, hk⟩ := hk
          rw [e0] at ni
          cases b with
          | int k =>
            have := due_turn (P := P) (O := O) (m := m) (f := f) (k := k) hk hw hs
            show _ = duR P O m f seen (tD (w, k)) _ (w, k)
            rw [this]
            congr 1
            refine decide_eq_decide.mpr ?_
            rw [List.mem_append, mem_szT, mem_shT]
            constructor
            · rintro ⟨h1, h2, h3⟩
              refine ⟨?_, h1⟩
              by_cases c : w = kSz
              · rw [if_pos c] at h3
                exact .inl ⟨k.toNat, by omega, by rw [c]; exact Prod.ext rfl (by show k = (k.toNat : Int); omega)⟩
              · rw [if_neg c] at h3
                rcases hk with e | e
                · exact (c e).elim
                · exact .inr ⟨k.toNat, by omega, by rw [e]; exact Prod.ext rfl (by show k = (k.toNat : Int); omega)⟩
            · rintro ⟨h1, h2⟩
              refine ⟨h2, ?_⟩
              rcases h1 with ⟨j, hj, e⟩ | ⟨j, hj, e⟩
              · injection e with e1 e2
                rw [if_pos e1]
                omega
              · injection e with e1 e2
                rw [if_neg (by rw [e1]; decide +kernel)]
                omega
          | bool b =>
            refine no rfl ?_
            generalize seen.map tT = S
            simp [isa_tup, isTup, ni, kb_b]
          | none =>
            refine no rfl ?_
            generalize seen.map tT = S
            simp [isa_tup, isTup, ni, kb_n, ki_n]
          | str s =>
            refine no rfl ?_
            generalize seen.map tT = S
            simp [isa_tup, isTup, ni, kb_s, ki_s]
          | list s =>
            refine no rfl ?_
            generalize seen.map tT = S
            simp [isa_tup, isTup, ni, kb_l, ki_l]
          | tuple s =>
            refine no rfl ?_
            generalize seen.map tT = S
            simp [isa_tup, isTup, ni, kb_t, ki_t]
          | dict s =>
            refine no rfl ?_
            generalize seen.map tT = S
            simp [isa_tup, isTup, ni, kb_d, ki_d]
    | _ => simp [isTup] at ht
  · have ht : isTup x = false := by simpa using ht
    have e : asT x = none := by
      cases x <;> simp [isTup] at ht <;> rfl
    refine no e ?_
    generalize seen.map tT = S
    simp [isa_tup, ht]
end Sr
namespace Sr
open PySem PySem.Spec PyProof.Rows L2 L3 L4 Sx
theorem due_loop {P O : T} {m f : Nat} : ∀ (ds : List PyData) (seen : List Turn) (e4 : Option T), (∀ x ∈ ds, x.depth ≤ 60) → (∀ t ∈ seen, PyData.strOk t.1 = true) → seen.length + ds.length ≤ 1000 → ∃ (s' : List Turn) (e' : Option T), mLoop (mgName 4) dueB (ds.map T.d) [some P, some O, some (MD m f), some (.ol (seen.map tT)), e4] = .ok (cond (lawG (szT m ++ shT' f) seen ds) (.next [some P, some O, some (MD m f), some (.ol (s'.map tT)), e']) (.ret (.d (.bool false)) [some P, some O, some (MD m f), some (.ol (s'.map tT)), e'])) ∧ (lawG (szT m ++ shT' f) seen ds = true → s'.length = seen.length + ds.length)
  | [], seen, e4, _, _, _ => ⟨seen, e4, rfl, fun _ => rfl⟩
  | x :: ds, seen, e4, hd, hw, hl => by
    rw [List.length_cons] at hl
    have st := due_step (P := P) (O := O) (m := m) (f := f) (hd x List.mem_cons_self) hw (by omega)
    rw [List.map_cons, e_loopC]
    have eg : ofO (mgName 4 (.d x) [some P, some O, some (MD m f), some (.ol (seen.map tT)), e4]) = .ok [some P, some O, some (MD m f), some (.ol (seen.map tT)), some (.d x)] := rfl
    rw [eg, bind_okS, e_loopK, st]
    unfold lawG
    cases e : asT x with
    | none => exact ⟨seen, _, rfl, fun h => by cases h⟩
    | some t =>
      dsimp only
      by_cases c : t ∈ szT m ++ shT' f ∧ t ∉ seen
      · rw [decide_eq_true c, if_pos c]
        obtain ⟨s', e', ih, il⟩ := due_loop (P := P) (O := O) (m := m) (f := f) ds (seen ++ [t]) (some (.d x)) (fun y hy => hd y (List.mem_cons_of_mem _ hy)) (fun u hu => by
          rcases List.mem_append.mp hu with z | z
          · exact hw u z
          · rw [List.mem_singleton.mp z]; exact str_all t c.1) (by rw [List.length_append, List.length_singleton]; omega)
        refine ⟨s', e', ?_, fun h => ?_⟩
        · unfold duR
          rw [cond_true, bind_okS, e_loopN, ih]
        · rw [il h, List.length_append, List.length_singleton, List.length_cons]; omega
      · rw [decide_eq_false c, if_neg c]
        exact ⟨seen, _, rfl, fun h => by cases h⟩
theorem due_ok {A B : List PyData} {D : PyData} {ds : List PyData} (hl : ds.length ≤ 100) (hd : ∀ x ∈ ds, x.depth ≤ 60) :
    m__law_due_10 [.d (.tuple [.list A, .list B, D]), .d (.list ds)] = .ok (.d (.bool (lawG (szT A.length ++ shT' B.length) [] ds && decide (ds.length = A.length + B.length))), []) := by
  obtain ⟨s', e', lp, il⟩ := due_loop (P := .d (.tuple [.list A, .list B, D])) (O := .d (.list ds)) (m := A.length) (f := B.length) ds [] none hd (by simp) (by simp; omega)
  rw [List.map_nil] at lp
  have dp : ∀ ρ : En, mDisp [.inr "size", .inr "shim"] (mCons (mLift (pCallB opLen (pCons (pBin opIdx (pVar 0) (pC (.int 0))) (pNil)))) (mCons (mLift (pCallB opLen (pCons (pBin opIdx (pVar 0) (pC (.int 1))) (pNil)))) (mNil))) (some (.d (.tuple [.list A, .list B, D])) :: ρ) = .ok (MD A.length B.length, some (.d (.tuple [.list A, .list B, D])) :: ρ) := fun ρ => by
    unfold mDisp
    have e1 : (mCons (mLift (pCallB opLen (pCons (pBin opIdx (pVar 0) (pC (.int 0))) (pNil)))) (mCons (mLift (pCallB opLen (pCons (pBin opIdx (pVar 0) (pC (.int 1))) (pNil)))) (mNil))) (some (.d (.tuple [.list A, .list B, D])) :: ρ) = .ok ([.d (.int (A.length : Int)), .d (.int (B.length : Int))], some (.d (.tuple [.list A, .list B, D])) :: ρ) := by
      simp
    rw [e1, bind_okS]
    have e2 : decide (([.d (.int (A.length : Int)), .d (.int (B.length : Int))] : List T).length = ([.inr "size", .inr "shim"] : List Key).length ∧ ([.inr "size", .inr "shim"] : List Key).Nodup ∧ ([.inr "size", .inr "shim"] : List Key).length ≤ 15) = true := by
      rw [show ([.d (.int (A.length : Int)), .d (.int (B.length : Int))] : List T).length = 2 from rfl]
      decide +kernel
    rw [e2]
    rfl
  have k1 := key_sz (m := A.length) (f := B.length)
  have k2 := key_sh (m := A.length) (f := B.length)
  have ls : opLen [.ol (s'.map tT)] = .ok (.v (.d (.int (s'.length : Int)))) := by
    rw [← List.length_map (f := tT)]; rfl
  generalize hM : MD A.length B.length = M at *
  generalize hL : s'.map tT = S at *
  generalize hO : lawG (szT A.length ++ shT' B.length) [] ds = bo at *
  unfold m__law_due_10
  cases bo with
  | false =>
    rw [cond_false] at lp
    simp [dp, lp]
  | true =>
    rw [cond_true] at lp
    have e2 := il rfl
    rw [List.length_nil, Nat.zero_add] at e2
    rw [e2] at ls
    have : decide ((ds.length : Int) = (A.length : Int) + (B.length : Int)) = decide (ds.length = A.length + B.length) := by
      by_cases c : ds.length = A.length + B.length
      · rw [decide_eq_true c, decide_eq_true (by omega)]
      · rw [decide_eq_false c, decide_eq_false (by omega)]
    rw [Bool.true_and, ← this]
    simp [dp, lp, k1, k2, ls]
theorem both_ways {A B : List PyData} {ds : List PyData} : (decide (ds.length = A.length + B.length) && ordF (szT A.length ++ shT' B.length) ds) = (lawG (szT A.length ++ shT' B.length) [] ds && decide (ds.length = A.length + B.length)) := by
  rw [ord_law (all := szT A.length ++ shT' B.length) nodup_all ds [] _ nodup_all (fun t => by simp), Bool.and_comm]
end Sr
namespace Sr
open PySem PySem.Spec PyProof.Rows L2 L3 L4 Sx
@[irreducible] noncomputable def S67_1 : MS := mAsg (mLift (pBin opMod (pBin opFdiv (pVar 2) (pC (.int 12))) (pCallB opLen (pCons (pVar 0) (pNil))))) (mgName 3)
@[irreducible] noncomputable def S67_2 : MS := mAsg (mLift (pBin opIdx (pVar 0) (pVar 3))) (mgTup 2 (mgCons (mgName 8) (mgCons (mgName 9) (mgNil))))
@[irreducible] noncomputable def S67_3 : MS := mAsg (mFz (mLst (mCons (mTup (mCons (mVar 8) (mCons (mVar 9) (mNil)))) (mCons (mTup (mCons (mVar 8) (mCons (mVar 9) (mNil)))) (mCons (mTup (mCons (mVar 8) (mCons (mLift (pBin opAdd (pVar 9) (pC (.int 1)))) (mNil)))) (mCons (mTup (mCons (mVar 8) (mCons (mLift (pBin opSub (pUn opNeg (pC (.int 1))) (pBin opMod (pBin opFdiv (pVar 2) (pC (.int 12))) (pC (.int 9))))) (mNil)))) (mCons (mTup (mCons (mVar 8) (mCons (mLift (pBin opEq (pVar 9) (pC (.int 0)))) (mNil)))) (mCons (mTup (mCons (mVar 8) (mCons (mLift (pBin opGt (pVar 9) (pC (.int 0)))) (mNil)))) (mNil))))))))) (mgName 4)
@[irreducible] noncomputable def S67_4 : MS := mAsg (mFz (mBin opAdd (mVar 4) (mFz (mLst (mCons (mTup (mCons (mLift (pC (.str "seize"))) (mCons (mVar 9) (mNil)))) (mCons (mFz (mLst (mCons (mVar 8) (mCons (mVar 9) (mNil))))) (mCons (mVar 8) (mCons (mLift (pC .none)) (mCons (mTup (mCons (mVar 8) (mCons (mVar 9) (mCons (mVar 9) (mNil))))) (mCons (mTup (mCons (mVar 8) (mCons (mLift (pBin opPow (pC (.int 10)) (pC (.int 30)))) (mNil)))) (mNil))))))))))) (mgName 4)
@[irreducible] noncomputable def S67_5 : MS := mAsg (mFz (mBin opAdd (mVar 4) (mFz (mLst (mCons (mTup (mCons (mVar 8) (mCons (mFz (mLst (mCons (mVar 9) (mNil)))) (mNil)))) (mCons (mTup (mCons (mVar 8) (mCons (mFz (mDispE)) (mNil)))) (mCons (mTup (mCons (mFz (mLst (mCons (mVar 8) (mNil)))) (mCons (mVar 9) (mNil)))) (mCons (mTup (mCons (mFz (mDispE)) (mCons (mVar 9) (mNil)))) (mCons (mTup (mCons (mVar 8) (mCons (mLift (pC .none)) (mNil)))) (mCons (mTup (mCons (mVar 8) (mNil))) (mCons (mTup (mNil)) (mCons (mFz (mDispE)) (mNil))))))))))))) (mgName 4)
@[irreducible] noncomputable def S67_6 : MS := mAsg (mBin opIdx (mLst (mCons (mLift (pC (.str "size"))) (mCons (mLift (pC (.str "shim"))) (mNil)))) (mLift (pCallB opInt1 (pCons (pBin opEq (pVar 8) (pC (.str "size"))) (pNil))))) (mgName 5)
@[irreducible] noncomputable def S67_7 : MS := mAsg (mFz (mBin opAdd (mVar 4) (mFz (mLst (mCons (mTup (mCons (mVar 5) (mCons (mVar 9) (mNil)))) (mCons (mTup (mCons (mVar 5) (mCons (mLift (pBin opAdd (pVar 9) (pC (.int 1)))) (mNil)))) (mCons (mTup (mCons (mVar 5) (mCons (mLift (pBin opSub (pCallB opLen (pCons (pVar 0) (pNil))) (pC (.int 1)))) (mNil)))) (mNil)))))))) (mgName 4)
@[irreducible] noncomputable def S67_8 : MS := mAsg (mFz (mBin opAdd (mVar 4) (mFz (mLst (mCons (mTup (mCons (mVar 9) (mCons (mVar 8) (mNil)))) (mCons (mTup (mCons (mLift (pC (.str "size"))) (mCons (mLift (pBin opAdd (pVar 1) (pVar 9))) (mNil)))) (mCons (mTup (mCons (mLift (pC (.str "shim"))) (mCons (mLift (pBin opSub (pVar 9) (pVar 1))) (mNil)))) (mNil)))))))) (mgName 4)
@[irreducible] noncomputable def S67_9 : MS := mAsg (mBin opAdd (mFz (mBin opAdd (mFz (mSl opSlL (pVar 0) (oNone) (oSome (pVar 3)))) (mFz (mLst (mCons (mLift (pBin opIdx (pVar 4) (pBin opMod (pVar 2) (pC (.int 26))))) (mNil)))))) (mFz (mSl opSlL (pVar 0) (oSome (pBin opAdd (pVar 3) (pC (.int 1)))) (oNone)))) (mgName 6)
@[irreducible] noncomputable def S67_10 : MS := mAsg (mLift (pBin opMod (pBin opFdiv (pVar 2) (pC (.int 312))) (pC (.int 6)))) (mgName 7)
@[irreducible] noncomputable def S67_11 : MS := mIfS (mTest (mLift (pBin opEq (pVar 7) (pC (.int 1))))) (mDrop (mMeth 6 (lHere) opPopAt (mCons (mVar 3) (mNil)))) (mNext)
@[irreducible] noncomputable def S67_12 : MS := mIfS (mTest (mLift (pBin opEq (pVar 7) (pC (.int 2))))) (mDrop (mMeth 6 (lHere) opAppend (mCons (mLift (pBin opIdx (pVar 0) (pVar 3))) (mNil)))) (mNext)
@[irreducible] noncomputable def S67_13 : MS := mIfS (mTest (mLift (pBin opEq (pVar 7) (pC (.int 3))))) (mSeq (mAsg (mLift (pBin opMod (pBin opFdiv (pVar 2) (pC (.int 1872))) (pCallB opLen (pCons (pVar 0) (pNil))))) (mgName 10)) <|
    mSeq (mAsg (mCallB opListOf (mCons (mVar 0) (mNil))) (mgName 6)) <|
    mSeq (mAsg (mTup (mCons (mVar 8) (mCons (mLift (pBin opIdx (pBin opIdx (pVar 0) (pVar 10)) (pC (.int 1)))) (mNil)))) (mgItem 6 (lHere) (pVar 3))) <|
    mAsg (mTup (mCons (mLift (pBin opIdx (pBin opIdx (pVar 0) (pVar 10)) (pC (.int 0)))) (mCons (mVar 9) (mNil)))) (mgItem 6 (lHere) (pVar 10))) (mNext)
@[irreducible] noncomputable def S67_14 : MS := mRet (mVar 6)
theorem spoilt67_eq : m__law_spoilt_3 = mFn [] 8 (mSeq S67_1 <| mSeq S67_2 <| mSeq S67_3 <| mSeq S67_4 <| mSeq S67_5 <| mSeq S67_6 <| mSeq S67_7 <| mSeq S67_8 <| mSeq S67_9 <| mSeq S67_10 <| mSeq S67_11 <| mSeq S67_12 <| mSeq S67_13 <| S67_14) := by
  unfold m__law_spoilt_3 S67_1 S67_2 S67_3 S67_4 S67_5 S67_6 S67_7 S67_8 S67_9 S67_10 S67_11 S67_12 S67_13 S67_14
  rfl
def Odd67 (d : PyData) : Prop := d.depth ≤ 10 ∧ SeqAt.eqvE d d = true
theorem seqN {a b : MS} {ρ ρ' : En} (h : a ρ = .ok (.next ρ')) : mSeq a b ρ = b ρ' := by rw [e_mSeq, h, bind_okS]; rfl
theorem odd_turn {t : Turn} : Odd67 (tD t) := ⟨by simp [PyData.depth, PyData.depthAll], eqv_self⟩
section
variable {OD : List PyData} {many cell sp : Int} {n : Nat} {e3 e4 e5 e6 e7 e8 e9 e10 : Option T} {w : Str} {k : Int}
theorem s67_1 (hn : OD.length = n) (h0 : 0 < n) : S67_1 [some (.d (.list OD)), some (.d (.int many)), some (.d (.int cell)), e3, e4, e5, e6, e7, e8, e9, e10] = .ok (.next [some (.d (.list OD)), some (.d (.int many)), some (.d (.int cell)), some (.d (.int ((cell.fdiv 12).fmod (n : Int)))), e4, e5, e6, e7, e8, e9, e10]) := by
  have g1 : divOk cell 12 = true := divOk_S (by decide) (by decide)
  have g2 : n ≠ 0 := by omega
  unfold S67_1
  simp [hn, g1, g2]
theorem s67_2 {t : Turn} (ha : atI OD sp = some (tD t)) : S67_2 [some (.d (.list OD)), some (.d (.int many)), some (.d (.int cell)), some (.d (.int sp)), e4, e5, e6, e7, e8, e9, e10] = .ok (.next [some (.d (.list OD)), some (.d (.int many)), some (.d (.int cell)), some (.d (.int sp)), e4, e5, e6, e7, some (.d (.str t.1)), some (.d (.int t.2)), e10]) := by
  unfold S67_2
  simp [ha]
abbrev t2 (w : Str) (k : Int) : PyData := .tuple [.str w, .int k]
abbrev L67a (w : Str) (k c : Int) : List PyData := [t2 w k, t2 w k, t2 w (k + 1), t2 w (-1 - (c.fdiv 12).fmod 9), .tuple [.str w, .bool (decide (k = 0))], .tuple [.str w, .bool (decide (0 < k))]]
abbrev L67b (w : Str) (k : Int) : List PyData := [t2 "seize" k, .list [.str w, .int k], .str w, .none, .tuple [.str w, .int k, .int k], t2 w 1000000000000000000000000000000]
abbrev L67c (w : Str) (k : Int) : List PyData := [.tuple [.str w, .list [.int k]], .tuple [.str w, .dict []], .tuple [.list [.str w], .int k], .tuple [.dict [], .int k], .tuple [.str w, .none], .tuple [.str w], .tuple [], .dict []]
abbrev L67d (wd : Str) (k : Int) (n : Nat) : List PyData := [t2 wd k, t2 wd (k + 1), t2 wd ((n : Int) - 1)]
abbrev L67e (w : Str) (k many : Int) : List PyData := [.tuple [.int k, .str w], t2 "size" (many + k), t2 "shim" (k - many)]
theorem s67_3 : S67_3 [some (.d (.list OD)), some (.d (.int many)), some (.d (.int cell)), some (.d (.int sp)), e4, e5, e6, e7, some (.d (.str w)), some (.d (.int k)), e10] = .ok (.next [some (.d (.list OD)), some (.d (.int many)), some (.d (.int cell)), some (.d (.int sp)), some (.d (.list (L67a w k cell))), e5, e6, e7, some (.d (.str w)), some (.d (.int k)), e10]) := by
  have g1 : divOk cell 12 = true := divOk_S (by decide) (by decide)
  unfold S67_3
  simp [g1]
theorem s67_4 {L : List PyData} (hL : L.length ≤ 100) : S67_4 [some (.d (.list OD)), some (.d (.int many)), some (.d (.int cell)), some (.d (.int sp)), some (.d (.list L)), e5, e6, e7, some (.d (.str w)), some (.d (.int k)), e10] = .ok (.next [some (.d (.list OD)), some (.d (.int many)), some (.d (.int cell)), some (.d (.int sp)), some (.d (.list (L ++ L67b w k))), e5, e6, e7, some (.d (.str w)), some (.d (.int k)), e10]) := by
  have ct : opAdd (.d (.list L)) (.d (.list (L67b w k))) = .ok (.nl (L ++ L67b w k)) := cat_fix (decide_eq_true (by simp; omega))
  have pw : powOk 10 30 = true := by decide
  unfold S67_4
  simp [-List.map_append, pw, ct]
theorem s67_5 {L : List PyData} (hL : L.length ≤ 100) : S67_5 [some (.d (.list OD)), some (.d (.int many)), some (.d (.int cell)), some (.d (.int sp)), some (.d (.list L)), e5, e6, e7, some (.d (.str w)), some (.d (.int k)), e10] = .ok (.next [some (.d (.list OD)), some (.d (.int many)), some (.d (.int cell)), some (.d (.int sp)), some (.d (.list (L ++ L67c w k))), e5, e6, e7, some (.d (.str w)), some (.d (.int k)), e10]) := by
  have ct : opAdd (.d (.list L)) (.d (.list (L67c w k))) = .ok (.nl (L ++ L67c w k)) := cat_fix (decide_eq_true (by simp; omega))
  have fe : T.fz (.od [] []) = some (.dict []) := by simp [T.fz]
  unfold S67_5
  simp [-List.map_append, ct, mDispE, fe]
theorem s67_6 : S67_6 [some (.d (.list OD)), some (.d (.int many)), some (.d (.int cell)), some (.d (.int sp)), e4, e5, e6, e7, some (.d (.str w)), some (.d (.int k)), e10] = .ok (.next [some (.d (.list OD)), some (.d (.int many)), some (.d (.int cell)), some (.d (.int sp)), e4, some (.d (.str (if w = "size" then "shim" else "size"))), e6, e7, some (.d (.str w)), some (.d (.int k)), e10]) := by
  unfold S67_6
  by_cases c : w = "size" <;> simp [c]
theorem s67_7 {L : List PyData} {wd : Str} (hn : OD.length = n) (hL : L.length ≤ 100) : S67_7 [some (.d (.list OD)), some (.d (.int many)), some (.d (.int cell)), some (.d (.int sp)), some (.d (.list L)), some (.d (.str wd)), e6, e7, some (.d (.str w)), some (.d (.int k)), e10] = .ok (.next [some (.d (.list OD)), some (.d (.int many)), some (.d (.int cell)), some (.d (.int sp)), some (.d (.list (L ++ L67d wd k n))), some (.d (.str wd)), e6, e7, some (.d (.str w)), some (.d (.int k)), e10]) := by
  have ct : opAdd (.d (.list L)) (.d (.list (L67d wd k n))) = .ok (.nl (L ++ L67d wd k n)) := cat_fix (decide_eq_true (by simp; omega))
  unfold S67_7
  simp [-List.map_append, ct, hn]
theorem s67_8 {L : List PyData} (hL : L.length ≤ 100) : S67_8 [some (.d (.list OD)), some (.d (.int many)), some (.d (.int cell)), some (.d (.int sp)), some (.d (.list L)), e5, e6, e7, some (.d (.str w)), some (.d (.int k)), e10] = .ok (.next [some (.d (.list OD)), some (.d (.int many)), some (.d (.int cell)), some (.d (.int sp)), some (.d (.list (L ++ L67e w k many))), e5, e6, e7, some (.d (.str w)), some (.d (.int k)), e10]) := by
  have ct : opAdd (.d (.list L)) (.d (.list (L67e w k many))) = .ok (.nl (L ++ L67e w k many)) := cat_fix (decide_eq_true (by simp; omega))
  unfold S67_8
  simp [-List.map_append, ct]
theorem cut67a {j : Nat} : cutG OD none (some (j : Int)) = OD.take j := cut_hi rfl
theorem cut67b {j : Nat} : cutG OD (some ((j : Int) + 1)) none = OD.drop (j + 1) := cut_lo rfl
theorem s67_9 {L : List PyData} {x : PyData} {j : Nat} (hO : OD.length ≤ 100) (hx : atI L (cell.fmod 26) = some x) : S67_9 [some (.d (.list OD)), some (.d (.int many)), some (.d (.int cell)), some (.d (.int (j : Int))), some (.d (.list L)), e5, e6, e7, e8, e9, e10] = .ok (.next [some (.d (.list OD)), some (.d (.int many)), some (.d (.int cell)), some (.d (.int (j : Int))), some (.d (.list L)), e5, some (.ol ((OD.take j ++ [x] ++ OD.drop (j + 1)).map T.d)), e7, e8, e9, e10]) := by
  have c1 : opAdd (.d (.list (OD.take j))) (.d (.list [x])) = .ok (.nl (OD.take j ++ [x])) := cat_fix (decide_eq_true (by rw [List.length_take]; simp; omega))
  have c2 : opAdd (.d (.list (OD.take j ++ [x]))) (.d (.list (OD.drop (j + 1)))) = .ok (.nl (OD.take j ++ [x] ++ OD.drop (j + 1))) := cat_fix (decide_eq_true (by simp; omega))
  have tt : ∀ M : List PyData, (RV.nl M).toT = .ol (M.map T.d) := fun _ => rfl
  have fzM : ∀ M : List PyData, T.fz (.ol (M.map T.d)) = some (.list M) := fun M => by simp
  have ca := @cut67a OD j
  have cb := @cut67b OD j
  generalize OD.take j = A at *
  generalize OD.drop (j + 1) = B at *
  unfold S67_9
  simp [-List.map_append, -List.append_assoc, -e_fzMap, ca, cb, c1, c2, hx, tt, fzM]
theorem s67_10 : S67_10 [some (.d (.list OD)), some (.d (.int many)), some (.d (.int cell)), e3, e4, e5, e6, e7, e8, e9, e10] = .ok (.next [some (.d (.list OD)), some (.d (.int many)), some (.d (.int cell)), e3, e4, e5, e6, some (.d (.int ((cell.fdiv 312).fmod 6))), e8, e9, e10]) := by
  have g1 : divOk cell 312 = true := divOk_S (by decide) (by decide)
  unfold S67_10
  simp [g1]
theorem s67_11 {F : List PyData} {v : Int} {j : Nat} (hj : j < F.length) (hF : F.length ≤ 101) : ∃ F' : List PyData, S67_11 [some (.d (.list OD)), some (.d (.int many)), some (.d (.int cell)), some (.d (.int (j : Int))), e4, e5, some (.ol (F.map T.d)), some (.d (.int v)), e8, e9, e10] = .ok (.next [some (.d (.list OD)), some (.d (.int many)), some (.d (.int cell)), some (.d (.int (j : Int))), e4, e5, some (.ol (F'.map T.d)), some (.d (.int v)), e8, e9, e10]) ∧ (∀ x ∈ F', x ∈ F) ∧ F'.length ≤ F.length := by
  unfold S67_11
  by_cases c : v = 1
  · refine ⟨F.take j ++ F.drop (j + 1), ?_, fun x hx => ?_, ?_⟩
    · have po : opPopAt (F.map T.d) [.d (.int (j : Int))] = some (.d F[j], (F.take j ++ F.drop (j + 1)).map T.d) := by
        unfold opPopAt
        dsimp only
        rw [decide_eq_true (by omega : (0 : Int) ≤ (j : Int) ∧ (j : Int) < 2 ^ 63), if_pos rfl, Int.toNat_natCast, List.getElem?_map, List.getElem?_eq_getElem hj]
        show some (T.d F[j], (F.map T.d).take j ++ (F.map T.d).drop (j + 1)) = _
        rw [← List.map_take, ← List.map_drop, ← List.map_append]
      generalize (F.take j ++ F.drop (j + 1)).map T.d = G at *
      generalize F.map T.d = F1 at *
      simp [c, po]
    · rcases List.mem_append.mp hx with h | h
      · exact List.mem_of_mem_take h
      · exact List.mem_of_mem_drop h
    · rw [List.length_append, List.length_take, List.length_drop]; omega
  · exact ⟨F, by generalize F.map T.d = F1; simp [c], fun x h => h, Nat.le_refl _⟩
theorem s67_12 {F : List PyData} {v : Int} {j : Nat} {y : PyData} (hy : atI OD (j : Int) = some y) (hF : F.length ≤ 101) : ∃ F' : List PyData, S67_12 [some (.d (.list OD)), some (.d (.int many)), some (.d (.int cell)), some (.d (.int (j : Int))), e4, e5, some (.ol (F.map T.d)), some (.d (.int v)), e8, e9, e10] = .ok (.next [some (.d (.list OD)), some (.d (.int many)), some (.d (.int cell)), some (.d (.int (j : Int))), e4, e5, some (.ol (F'.map T.d)), some (.d (.int v)), e8, e9, e10]) ∧ (∀ x ∈ F', x ∈ F ∨ x = y) ∧ F'.length ≤ F.length + 1 := by
  unfold S67_12
  by_cases c : v = 2
  · refine ⟨F ++ [y], ?_, fun x hx => ?_, by simp⟩
    · have e : (F ++ [y]).map T.d = F.map T.d ++ [.d y] := by simp
      rw [e]
      have hl : (F.map T.d).length < sLine := by rw [List.length_map]; unfold sLine; omega
      generalize F.map T.d = F1 at *
      simp [c, hy, hl]
    · simpa using hx
  · exact ⟨F, by generalize F.map T.d = F1; simp [c], fun x h => .inl h, by omega⟩
theorem ixN_nat {n j : Nat} (h : j < n) : ixN n (j : Int) = some j := by
  unfold ixN
  simp
  omega
theorem s67_13 {F : List PyData} {v : Int} {j jo : Nat} {t' : Turn} (hn : OD.length = n) (hn0 : n ≠ 0) (ht : atI OD (jo : Int) = some (tD t')) (hj : j < n) (hjo : jo < n) (ho : (cell.fdiv 1872).fmod (n : Int) = (jo : Int)) : ∃ (F' : List PyData) (e' : Option T), S67_13 [some (.d (.list OD)), some (.d (.int many)), some (.d (.int cell)), some (.d (.int (j : Int))), e4, e5, some (.ol (F.map T.d)), some (.d (.int v)), some (.d (.str w)), some (.d (.int k)), e10] = .ok (.next [some (.d (.list OD)), some (.d (.int many)), some (.d (.int cell)), some (.d (.int (j : Int))), e4, e5, some (.ol (F'.map T.d)), some (.d (.int v)), some (.d (.str w)), some (.d (.int k)), e']) ∧ ((∀ x ∈ F', x ∈ F ∨ x ∈ OD ∨ ∃ t, x = tD t) ∧ F'.length ≤ max F.length n) := by
  have g1 : divOk cell 1872 = true := divOk_S (by decide) (by decide)
  unfold S67_13
  by_cases c : v = 3
  · refine ⟨(OD.set j (tD (w, t'.2))).set jo (tD (t'.1, k)), some (.d (.int (jo : Int))), ?_, fun x hx => ?_, by rw [List.length_set, List.length_set, hn]; omega⟩
    · have e1 : ((OD.set j (tD (w, t'.2))).set jo (tD (t'.1, k))).map T.d = ((OD.map T.d).set j (.d (tD (w, t'.2)))).set jo (.d (tD (t'.1, k))) := by
        rw [List.map_set, List.map_set]
      rw [e1]
      have l1 : (OD.map T.d).length = n := by rw [List.length_map, hn]
      have i1 := ixN_nat hj
      have i2 := ixN_nat hjo
      have ls : opListOf [.d (.list OD)] = .ok (.nl OD) := by simp
      have tt : (RV.nl OD).toT = .ol (OD.map T.d) := rfl
      generalize OD.map T.d = G at *
      simp [-e_listOf, c, g1, hn, hn0, ho, ht, ls, tt, l1, i1, i2]
    · rcases List.mem_or_eq_of_mem_set hx with h | h
      · rcases List.mem_or_eq_of_mem_set h with h | h
        · exact .inr (.inl h)
        · exact .inr (.inr ⟨_, h⟩)
      · exact .inr (.inr ⟨_, h⟩)
  · exact ⟨F, e10, by generalize F.map T.d = F1; simp [c], fun x h => .inl h, by omega⟩
theorem s67_14 {F : List PyData} : S67_14 [e3, e4, some (.d (.int cell)), some (.d (.int sp)), e5, e6, some (.ol (F.map T.d)), e7, e8, e9, e10] = .ok (.ret (.d (.list F)) [e3, e4, some (.d (.int cell)), some (.d (.int sp)), e5, e6, some (.d (.list F)), e7, e8, e9, e10]) := by
  have fzM : T.fz (.ol (F.map T.d)) = some (.list F) := by simp
  unfold S67_14
  generalize F.map T.d = F1 at *
  simp [fzM]
end
theorem odd_all {w wd : Str} {k cell many : Int} {n : Nat} : ∀ x ∈ L67a w k cell ++ L67b w k ++ L67c w k ++ L67d wd k n ++ L67e w k many, Odd67 x := by
  intro x hx
  simp only [List.mem_append, List.mem_cons, List.not_mem_nil, or_false] at hx
  unfold Odd67
  repeat' rcases hx with hx | hx
  all_goals
    simp [PyData.depth, PyData.depthAll, PyData.depthKv, SeqAt.eqvE, SeqAt.eqvEs, PyData.eqv]
theorem atI_mem {α : Type} {xs : List α} {i : Int} (h0 : 0 ≤ i) (h1 : i < xs.length) : ∃ x, atI xs i = some x ∧ x ∈ xs := by
  obtain ⟨k, rfl⟩ : ∃ k : Nat, i = (k : Int) := ⟨_, (Int.toNat_of_nonneg h0).symm⟩
  have hl : k < xs.length := by omega
  exact ⟨xs[k], by rw [e_atIn]; exact List.getElem?_eq_getElem hl, List.getElem_mem hl⟩
theorem spoilt_ok {o : List Turn} {many cell : Int} (h0 : 0 < o.length) (hO : o.length ≤ 20) : ∃ ds : List PyData, m__law_spoilt_3 [.d (.list (o.map tD)), .d (.int many), .d (.int cell)] = .ok (.d (.list ds), []) ∧ ds.length ≤ 100 ∧ ∀ x ∈ ds, Odd67 x := by
  have hn : (o.map tD).length = o.length := List.length_map ..
  have p1 : (0 : Int) < (o.length : Int) := by omega
  have a1 := Int.fmod_nonneg_of_pos (cell.fdiv 12) p1
  have b1 := Int.fmod_lt_of_pos (cell.fdiv 12) p1
  obtain ⟨j, ej⟩ : ∃ j : Nat, (cell.fdiv 12).fmod (o.length : Int) = (j : Int) := ⟨_, (Int.toNat_of_nonneg a1).symm⟩
  have hj : j < o.length := by omega
  have a2 := Int.fmod_nonneg_of_pos (cell.fdiv 1872) p1
  have b2 := Int.fmod_lt_of_pos (cell.fdiv 1872) p1
  obtain ⟨jo, ejo⟩ : ∃ j : Nat, (cell.fdiv 1872).fmod (o.length : Int) = (j : Int) := ⟨_, (Int.toNat_of_nonneg a2).symm⟩
  have hjo : jo < o.length := by omega
  have g1 : atI (o.map tD) (j : Int) = some (tD o[j]) := by rw [e_atIn, List.getElem?_map, List.getElem?_eq_getElem hj]; rfl
  have g2 : atI (o.map tD) (jo : Int) = some (tD o[jo]) := by rw [e_atIn, List.getElem?_map, List.getElem?_eq_getElem hjo]; rfl
  have od : ∀ x ∈ o.map tD, Odd67 x := fun x hx => by
    obtain ⟨t, _, rfl⟩ := List.mem_map.mp hx
    exact odd_turn
  generalize o[j] = t at *
  generalize o[jo] = t' at *
  generalize o.map tD = OD at *
  generalize o.length = n at *
  obtain ⟨w, k⟩ := t
  let wd : Str := if w = "size" then "shim" else "size"
  have a3 := Int.fmod_nonneg_of_pos cell (show (0 : Int) < 26 by decide)
  have b3 := Int.fmod_lt_of_pos cell (show (0 : Int) < 26 by decide)
  obtain ⟨x, hx, mx⟩ := atI_mem (xs := L67a w k cell ++ L67b w k ++ L67c w k ++ L67d wd k n ++ L67e w k many) (i := cell.fmod 26) a3 (by simp; omega)
  have ox := odd_all x mx
  obtain ⟨F1, r1, m1, l1⟩ := s67_11 (OD := OD) (many := many) (cell := cell) (e4 := some (.d (.list (L67a w k cell ++ L67b w k ++ L67c w k ++ L67d wd k n ++ L67e w k many)))) (e5 := some (.d (.str wd))) (e8 := some (.d (.str w))) (e9 := some (.d (.int k))) (e10 := none) (F := OD.take j ++ [x] ++ OD.drop (j + 1)) (v := (cell.fdiv 312).fmod 6) (j := j) (by simp; omega) (by simp; omega)
  have lF : (OD.take j ++ [x] ++ OD.drop (j + 1)).length ≤ 21 := by simp; omega
  obtain ⟨F2, r2, m2, l2⟩ := s67_12 (OD := OD) (many := many) (cell := cell) (e4 := some (.d (.list (L67a w k cell ++ L67b w k ++ L67c w k ++ L67d wd k n ++ L67e w k many)))) (e5 := some (.d (.str wd))) (e8 := some (.d (.str w))) (e9 := some (.d (.int k))) (e10 := none) (F := F1) (v := (cell.fdiv 312).fmod 6) (j := j) g1 (by omega)
  obtain ⟨F3, z3, r3, m3, l3⟩ := s67_13 (OD := OD) (many := many) (cell := cell) (e4 := some (.d (.list (L67a w k cell ++ L67b w k ++ L67c w k ++ L67d wd k n ++ L67e w k many)))) (e5 := some (.d (.str wd))) (e10 := none) (F := F2) (v := (cell.fdiv 312).fmod 6) (w := w) (k := k) hn (by omega) g2 hj hjo ejo
  refine ⟨F3, ?_, by omega, fun y hy => ?_⟩
  · rw [spoilt67_eq, e_mFn]
    have e0 : ([.d (.list OD), .d (.int many), .d (.int cell)] : List T).map some ++ List.replicate 8 none = [some (.d (.list OD)), some (.d (.int many)), some (.d (.int cell)), none, none, none, none, none, none, none, none] := rfl
    have r0 := s67_1 (OD := OD) (many := many) (cell := cell) (n := n) (e3 := none) (e4 := none) (e5 := none) (e6 := none) (e7 := none) (e8 := none) (e9 := none) (e10 := none) hn h0
    rw [ej] at r0
    rw [e0, seqN r0, seqN (s67_2 g1), seqN s67_3, seqN (s67_4 (by simp)), seqN (s67_5 (by simp)), seqN s67_6, seqN (s67_7 hn (by simp)), seqN (s67_8 (by simp)), seqN (s67_9 (by omega) hx), seqN s67_10, seqN r1, seqN r2, seqN r3, s67_14]
    rfl
  · have of1 : ∀ y ∈ OD.take j ++ [x] ++ OD.drop (j + 1), Odd67 y := fun y hy => by
      rcases List.mem_append.mp hy with h | h
      · rcases List.mem_append.mp h with h | h
        · exact od y (List.mem_of_mem_take h)
        · rw [List.mem_singleton.mp h]; exact ox
      · exact od y (List.mem_of_mem_drop h)
    have of2 : ∀ y ∈ F2, Odd67 y := fun y hy => by
      rcases m2 y hy with h | h
      · exact of1 y (m1 y h)
      · rw [h]; exact odd_turn
    rcases m3 y hy with h | h | ⟨t, h⟩
    · exact of2 y h
    · exact od y h
    · rw [h]; exact odd_turn
end Sr
namespace Sr
open PySem PySem.Spec PyProof.Rows L2 L3 L4 Sx
mutual
theorem eqvE_plain : ∀ (d : PyData), d.plain = true → SeqAt.eqvE d d = true
  | .none, _ => by simp [SeqAt.eqvE, PyData.eqv]
  | .bool b, _ => by simp [SeqAt.eqvE, PyData.eqv]
  | .int i, _ => by simp [SeqAt.eqvE, PyData.eqv]
  | .str x, _ => by simp [SeqAt.eqvE, PyData.eqv]
  | .list xs, h => by
    rw [SeqAt.eqvE]
    exact eqvEs_plain xs (by simpa [PyData.plain] using h)
  | .tuple xs, h => by
    rw [SeqAt.eqvE]
    exact eqvEs_plain xs (by simpa [PyData.plain] using h)
  | .dict _, h => by simp [PyData.plain] at h
theorem eqvEs_plain : ∀ (xs : List PyData), PyData.plainAll xs = true → SeqAt.eqvEs xs xs = true
  | [], _ => by simp [SeqAt.eqvEs]
  | x :: xs, h => by
    rw [PyData.plainAll, Bool.and_eq_true] at h
    rw [SeqAt.eqvEs, eqvE_plain x h.1, eqvEs_plain xs h.2]
    rfl
end
theorem eqvEs_self : ∀ (ds : List PyData), (∀ x ∈ ds, SeqAt.eqvE x x = true) → SeqAt.eqvEs ds ds = true
  | [], _ => by simp [SeqAt.eqvEs]
  | x :: xs, h => by
    rw [SeqAt.eqvEs, h x List.mem_cons_self, eqvEs_self xs fun y hy => h y (List.mem_cons_of_mem _ hy)]
    rfl
theorem depthAll_le {n : Nat} : ∀ (ds : List PyData), (∀ x ∈ ds, x.depth ≤ n) → PyData.depthAll ds ≤ n
  | [], _ => Nat.zero_le _
  | x :: xs, h => by
    rw [PyData.depthAll]
    have := h x List.mem_cons_self
    have := depthAll_le xs fun y hy => h y (List.mem_cons_of_mem _ hy)
    omega
section
variable {P : PyData} {ds : List PyData}
theorem handed_e (hP : plk 60 P = true) (hd : ∀ x ∈ ds, Odd67 x) : eqE (.d (.tuple [P, .list ds])) (.d (.tuple [P, .list ds])) = .ok true := by
  obtain ⟨h1, h2⟩ := plk_lay _ _ hP
  have d2 := depthAll_le (n := 10) ds fun x hx => (hd x hx).1
  have d3 : (PyData.tuple [P, .list ds]).depth ≤ 64 := by
    have : (PyData.tuple [P, .list ds]).depth = max P.depth (max (PyData.depthAll ds + 1) 0) + 1 := by simp [PyData.depth, PyData.depthAll]
    omega
  have e1 : SeqAt.eqvE (.tuple [P, .list ds]) (.tuple [P, .list ds]) = true := by
    rw [SeqAt.eqvE, SeqAt.eqvEs, SeqAt.eqvEs, SeqAt.eqvEs, eqvE_plain P (PyData.plain_of_canLay0 _ h1)]
    rw [SeqAt.eqvE, eqvEs_self ds fun x hx => (hd x hx).2]
    rfl
  unfold eqE
  simp only [e_toDD]
  show L3.guard (SeqAt.topE (.tuple [P, .list ds]) (.tuple [P, .list ds]) && decide ((PyData.tuple [P, .list ds]).depth ≤ 64)) _ = _
  rw [decide_eq_true d3, e1]
  rfl
end
theorem law67_mir {ns : List Int} {A B : List PyData} {D : PyData} {od ds : List PyData} {c10 c11 : Int} (hA0 : 0 < A.length) (hA : A.length ≤ 100) (hB : B.length ≤ 100) (hP : plk 60 (.tuple [.list A, .list B, D]) = true)
    (p1 : m__law_plan_9 [.rd (ns.map .int)] = .ok (.d (.tuple [.list A, .list B, D]), [])) (p2 : m__law_order_2 [.d (.tuple [.list A, .list B, D]), .d (.int c10)] = .ok (.d (.list od), []))
    (p3 : m__law_cell_at [.rd (ns.map .int), .d (.int 10)] = .ok (.d (.int c10), [])) (p4 : m__law_cell_at [.rd (ns.map .int), .d (.int 11)] = .ok (.d (.int c11), []))
    (p5 : m__law_spoilt_3 [.d (.list od), .d (.int (A.length : Int)), .d (.int (c11.fdiv 4))] = .ok (.d (.list ds), [])) (p6 : m__law_copy_2 [.d (.tuple [.list A, .list B, D])] = .ok (.d (.tuple [.list A, .list B, D]), []))
    (ho : od.length ≤ 100 ∧ ∀ x ∈ od, Odd67 x) (hd : ds.length ≤ 100 ∧ ∀ x ∈ ds, Odd67 x) :
    m_law_69 [.rd (ns.map .int)] = .ok (.d (.bool true), []) := by
  have g4 : divOk c11 4 = true := divOk_S (by decide) (by decide)
  have ei : m_is_order [.d (.tuple [.list A, .list B, D]), .d (.list [])] = .ok (.d (.bool false), []) := by
    rw [is_order_ok hA hB (by simp) (by simp), List.length_nil, decide_eq_false (by omega)]
    rfl
  have key : ∀ es : List PyData, es.length ≤ 100 → (∀ x ∈ es, Odd67 x) → ∃ b, m_is_order [.d (.tuple [.list A, .list B, D]), .d (.list es)] = .ok (.d (.bool b), []) ∧ m__law_due_10 [.d (.tuple [.list A, .list B, D]), .d (.list es)] = .ok (.d (.bool b), []) := fun es hl he => by
    refine ⟨_, is_order_ok hA hB hl fun x hx => by have := (he x hx).1; omega, ?_⟩
    rw [due_ok hl fun x hx => by have := (he x hx).1; omega, both_ways]
  have hq : ∀ es : List PyData, (∀ x ∈ es, Odd67 x) → opEqE (.d (.tuple [.tuple [.list A, .list B, D], .list es])) (.d (.tuple [.tuple [.list A, .list B, D], .list es])) = .ok (.v (.d (.bool true))) ∧ opNeE (.d (.tuple [.tuple [.list A, .list B, D], .list es])) (.d (.tuple [.tuple [.list A, .list B, D], .list es])) = .ok (.v (.d (.bool false))) := fun es he => by
    unfold opEqE opNeE
    rw [handed_e hP he]
    exact ⟨rfl, rfl⟩
  have ls : ∀ es : List PyData, opListOf [.d (.list es)] = .ok (.nl es) := fun es => by simp
  have tt : ∀ M : List PyData, (RV.nl M).toT = .ol (M.map T.d) := fun _ => rfl
  have fzM : ∀ M : List PyData, T.fz (.ol (M.map T.d)) = some (.list M) := fun M => by simp
  have bb : ∀ b : Bool, opNe (.d (.bool b)) (.d (.bool b)) = .ok (.v (.d (.bool false))) ∧ opEq (.d (.bool b)) (.d (.bool b)) = .ok (.v (.d (.bool true))) := fun b => by cases b <;> exact ⟨rfl, rfl⟩
  by_cases c : 0 < c11.fmod 4
  · obtain ⟨b, e1, e2⟩ := key ds hd.1 hd.2
    obtain ⟨q1, q2⟩ := hq ds hd.2
    have n1 := (bb b).1
    have n2 := (bb b).2
    have g5 : opGt (.d (.int (c11.fmod 4))) (.d (.int 0)) = .ok (.v (.d (.bool true))) := by
      show R.ok (RV.v (.d (.bool (decide _)))) = _
      rw [decide_eq_true (by omega)]
    unfold m_law_69
    simp [-e_listOf, -e_fzMap, p1, p2, p3, p4, p5, p6, g4, c, e1, e2, q1, q2, n1, n2, ei, ls, tt, fzM, kb_b]
  · obtain ⟨b, e1, e2⟩ := key od ho.1 ho.2
    obtain ⟨q1, q2⟩ := hq od ho.2
    have n1 := (bb b).1
    have n2 := (bb b).2
    unfold m_law_69
    simp [-e_listOf, -e_fzMap, p1, p2, p3, p4, p6, g4, c, e1, e2, q1, q2, n1, n2, ei, ls, tt, fzM, kb_b]
end Sr
namespace Sr
open PySem PySem.Spec PyProof.Rows L2 L3 L4 Sx
section
variable {p : Plan} {m f a b c : Nat}
end
end Sr
namespace Sr
open PySem PySem.Spec PyProof.Rows L2 L3 L4 Sx
section
variable {E : Str → Prop}
structure OrT (p : Plan) (m f a b c L : Nat) : Prop where
  pg : PlanG m f a b c p
  m1 : m ≤ 100
  f1 : f ≤ 100
  a1 : 1 ≤ a
  bc : b + 2 ≤ c
  b1 : b ≤ 1000
  d : p.2.2.length ≤ L
end
end Sr
namespace Sr
open PySem PySem.Spec PyProof.Rows L2 L3 L4 Sx
noncomputable def ownL (p : Plan) (k : Nat) : List Row := [bndR p k 1 (0 - (bdS p k).1), bndR p k (-1) (bdS p k).2]
noncomputable def shim1 (k : Nat) (RS : List Row) : List Row := RS.foldl (fun s x => if partR x k = 0 then putR s x else s) []
noncomputable def shimI (k : Nat) (RS : List Row) (s : List Row) (x : Row) : List Row := RS.foldl (fun s h => if 0 < partR x k ∧ partR h k < 0 then putR s (takR x h k) else s) s
noncomputable def shimL (p : Plan) (rows : List Row) (k : Nat) : List Row := (rows ++ ownL p k).foldl (shimI k (rows ++ ownL p k)) (shim1 k (rows ++ ownL p k))
noncomputable def sizeL (p : Plan) (rows : List Row) (k : Nat) : List Row := rows.foldl (fun s x => putR s (wstR p k x)) []
structure ShS (RS : List Row) (k m f a c L : Nat) : Prop where
  g : ∀ r ∈ RS, RowG m f a c r
  l : RS.length ≤ L + 2
  q : (L + 2) * (L + 3) < 16777216
  kf : k < f
  hm : m ≤ 100
  hf : f ≤ 100
  ha : a ≤ 2000
  hc : c ≤ 2000
end Sr
namespace Sr
open PySem PySem.Spec PyProof.Rows L2 L3 L4
end Sr
namespace Sr
open PySem PySem.Spec PyProof.Rows L2 L3 L4
end Sr
namespace Sr
open PySem PySem.Spec PyProof.Rows L2 L3 L4
end Sr
namespace Sr
open PySem PySem.Spec PyProof.Rows L2 L3 L4
end Sr
namespace Sr
open PySem PySem.Spec PyProof.Rows L2 L3 L4
end Sr
namespace Sr
open PySem PySem.Spec PyProof.Rows L2 L3 L4
end Sr
namespace Sr
open PySem PySem.Spec PyProof.Rows L2 L3 L4
end Sr
namespace Sr
open PySem PySem.Spec PyProof.Rows L2 L3 L4
end Sr
namespace Sr
open PySem PySem.Spec PyProof.Rows L2 L3 L4
end Sr
namespace Sr
open PySem PySem.Spec PyProof.Rows L2 L3 L4
def PlN (m : Nat) (s : PoolR) : Prop := 0 ≤ s.2.2 ∧ s.2.2 < m
theorem PlN.mono {m n : Nat} {s : PoolR} (h : PlN m s) (k : m ≤ n) : PlN n s := ⟨h.1, by have := h.2; omega⟩
theorem PlN.pool {m : Nat} {s : PoolR} (h : PlN m s) : Pool (m : Int) (fPool s) := ⟨s.1, s.2.1, s.2.2, rfl, h.1, h.2⟩
end Sr
namespace Sr
open PySem PySem.Spec PyProof.Rows L2 L3 L4
end Sr
namespace Sr
open PySem PySem.Spec PyProof.Rows L2 L3 L4
end Sr
namespace Sr
open PySem PySem.Spec PyProof.Rows L2 L3 L4
end Sr
namespace Sr
open PySem PySem.Spec PyProof.Rows L2 L3 L4
end Sr
namespace Sr
open PySem PySem.Spec PyProof.Rows L2 L3 L4
end Sr
namespace Sr
open PySem PySem.Spec PyProof.Rows L2 L3 L4
end Sr
namespace Sr
open PySem PySem.Spec PyProof.Rows L2 L3 L4
end Sr
namespace Sr
open PySem PySem.Spec PyProof.Rows L2 L3 L4
end Sr
namespace Sr
open PySem PySem.Spec PyProof.Rows L2 L3 L4
end Sr
namespace Sr
open PySem PySem.Spec PyProof.Rows L2 L3 L4
end Sr
namespace Sr
open PySem PySem.Spec PyProof.Rows L2 L3 L4
@[irreducible] noncomputable def t__law_single (many1 : Int) (k2 : Int) (worth3 : Rat) : R (List Rat) :=
  (tRange 0 many1).bind fun ks4 => (tMapG (fun x5 => ((tIdx ([(0 : Rat), worth3]) (if (decide (x5 = k2)) = true then (1 : Int) else 0)).bind fun x6 => .ok x6 : R Rat)) ks4).bind fun r7 => .ok r7
@[irreducible] noncomputable def t__law_put_2 (rows1 : (List ((List Rat) × (List Rat) × Rat))) (a2 : (List Rat)) (b3 : (List Rat)) (c4 : Rat) : R (Unit × (List ((List Rat) × (List Rat) × Rat))) :=
  (tCat a2 b3).bind fun v5 => (tFmG (fun x6 => (if ¬ (Rat.num x6) = (0 : Int) then .ok (some x6) else .ok none : R (Option Rat))) v5).bind fun r7 => (show R Bool from (show R Bool from if (!(decide (r7 = ([] : (List Rat))))) = true then .ok true else .ok (decide ((Rat.num c4) < (0 : Int)))).bind fun b8 => if b8 = true then .ok (!decide ((a2, b3, c4) ∈ rows1)) else .ok false).bind fun b9 => if b9 = true then (tApp rows1 (a2, b3, c4)).bind fun rows10 => .ok ((), rows10) else .ok ((), rows1)
@[irreducible] noncomputable def t__law_sums_2 (ones1 : (List Rat)) (p2 : Rat) (others3 : (List Rat)) (q4 : Rat) : R (List Rat) :=
  (tMapG (fun x5 => ((rMul p2 x5.1).nx.bind fun r6 => (rMul q4 x5.2).nx.bind fun r7 => (rAdd r6 r7).nx.bind fun r8 => .ok r8 : R Rat)) (ones1.zip others3)).bind fun r9 => .ok r9
@[irreducible] noncomputable def t__law_no_shim_2 (plan1 : ((List (Rat × Rat)) × (List (Rat × Rat)) × (List ((List Rat) × (List Rat) × Rat)))) (rows2 : (List ((List Rat) × (List Rat) × Rat))) (k3 : Int) : R (List ((List Rat) × (List Rat) × Rat)) :=
  (tIdx plan1.2.1 k3).bind fun x4 => (tMapG (fun x5 => (.ok (0 : Rat) : R Rat)) plan1.1).bind fun r6 => (t__law_single (tLen plan1.2.1) k3 (1 : Rat)).nx.bind fun r7 => (tCat rows2 ([(r6, r7, (-x4.1))])).bind fun v8 => (t__law_single (tLen plan1.2.1) k3 (-1 : Rat)).nx.bind fun r9 => (tCat v8 ([(r6, r9, x4.2)])).bind fun v10 => (tFold (fun (s11 : (List ((List Rat) × (List Rat) × Rat))) x12 => ((tIdx x12.2.1 k3).bind fun x13 => if (Rat.num x13) = (0 : Int) then (t__law_put_2 s11 x12.1 x12.2.1 x12.2.2).nx.bind fun r14 => .ok (r14.2) else .ok (s11) : R (List ((List Rat) × (List Rat) × Rat)))) v10 (([] : (List ((List Rat) × (List Rat) × Rat))))).bind fun s15 => (tFmG (fun x16 => ((tIdx x16.2.1 k3).bind fun x17 => if (0 : Int) < (Rat.num x17) then .ok (some x16) else .ok none : R (Option ((List Rat) × (List Rat) × Rat)))) v10).bind fun r18 => (tFold (fun (s19 : (List ((List Rat) × (List Rat) × Rat))) x20 => ((tFmG (fun x21 => ((tIdx x21.2.1 k3).bind fun x22 => if (Rat.num x22) < (0 : Int) then .ok (some x21) else .ok none : R (Option ((List Rat) × (List Rat) × Rat)))) v10).bind fun r23 => (tFold (fun (s24 : (List ((List Rat) × (List Rat) × Rat))) x25 => ((tIdx x25.2.1 k3).bind fun x26 => (tIdx x25.2.1 k3).bind fun x27 => (tLow ((0 : Int) - (Rat.num x26)) ((Rat.den x27 : Nat) : Int)).bind fun q28 => (tIdx x20.2.1 k3).bind fun x29 => (t__law_sums_2 x20.1 q28 x25.1 x29).nx.bind fun r30 => (t__law_sums_2 x20.2.1 q28 x25.2.1 x29).nx.bind fun r31 => (tIdx ([r30, r31]) (0 : Int)).bind fun x32 => (tIdx ([r30, r31]) (1 : Int)).bind fun x33 => (t__law_sums_2 ([x20.2.2]) q28 ([x25.2.2]) x29).nx.bind fun r34 => (tIdx r34 (0 : Int)).bind fun x35 => (t__law_put_2 s24 x32 x33 x35).nx.bind fun r36 => .ok (r36.2) : R (List ((List Rat) × (List Rat) × Rat)))) r23 (s19)).bind fun s37 => .ok (s37) : R (List ((List Rat) × (List Rat) × Rat)))) r18 (s15)).bind fun s38 => .ok s38
@[irreducible] noncomputable def t__law_no_size_2 (plan1 : ((List (Rat × Rat)) × (List (Rat × Rat)) × (List ((List Rat) × (List Rat) × Rat)))) (rows2 : (List ((List Rat) × (List Rat) × Rat))) (k3 : Int) : R (List ((List Rat) × (List Rat) × Rat)) :=
  (tFold (fun (s4 : (List ((List Rat) × (List Rat) × Rat))) x5 => ((tIdx plan1.1 k3).bind fun x6 => (tIdx x5.1 k3).bind fun x7 => (tIdx [x6.1, x6.2] (if (decide ((Rat.num x7) < (0 : Int))) = true then (1 : Int) else 0)).bind fun x8 => (tCat (tCut x5.1 none (some k3)) ([(0 : Rat)])).bind fun v9 => (tCat v9 (tCut x5.1 (some (k3 + (1 : Int))) none)).bind fun v10 => (tIdx x5.1 k3).bind fun x11 => (rMul x11 x8).nx.bind fun r12 => (rAdd x5.2.2 r12).nx.bind fun r13 => (t__law_put_2 s4 v10 x5.2.1 r13).nx.bind fun r14 => .ok (r14.2) : R (List ((List Rat) × (List Rat) × Rat)))) rows2 (([] : (List ((List Rat) × (List Rat) × Rat))))).bind fun s15 => .ok s15
end Sr
namespace Sr
open PySem PySem.Spec PyProof.Rows L2 L3 L4 Sx
structure StepOk (p : Plan) (m f : Nat) (t : Turn) (o : List Turn) (rows : List Row) : Prop where
  sh : isSh t → t_without_shim p rows t.2 = .ok (shimL p rows t.2.toNat) ∧ t__law_no_shim_2 p rows t.2 = .ok (shimL p rows t.2.toNat)
  sz : ¬ isSh t → t_without_size p rows t.2 = .ok (sizeL p rows t.2.toNat) ∧ t__law_no_size_2 p rows t.2 = .ok (sizeL p rows t.2.toNat)
end Sr
namespace Sr
open PySem PySem.Spec PyProof.Rows L2 L3 L4 Sx
def zs (o : List Turn) : Nat := (o.filter fun t => !isShB t).length
def Bs : Nat → Nat
  | 0 => 10
  | 1 => 20
  | 2 => 45
  | _ => 157
theorem lN_mono {L : Nat} : ∀ {m n : Nat}, m ≤ n → lN L m ≤ lN L n := by
  intro m n h
  induction n with
  | zero => rw [Nat.le_zero.mp h]; exact Nat.le_refl _
  | succ n ih =>
    by_cases e : m = n + 1
    · rw [e]; exact Nat.le_refl _
    · refine Nat.le_trans (ih (by omega)) ?_
      show lN L n ≤ (lN L n + 2) * (lN L n + 3)
      exact Nat.le_trans (by omega : lN L n ≤ lN L n + 2) (Nat.le_mul_of_pos_right _ (by omega))
structure PlX (p : Plan) : Prop where
  pg : PlanG p.1.length p.2.1.length 2 7 7 p
  m1 : 1 ≤ p.1.length
  m6 : p.1.length ≤ 6
  f3 : p.2.1.length ≤ 3
  d : ∃ L, p.2.2.length ≤ L ∧ lN L p.2.1.length < 16777216
theorem Pl68.px {p : Plan} (h : Pl68 p) : PlX p := by
  have m3 := h.m3
  have f2 := h.f2
  have d := h.d
  refine ⟨h.pg, h.m1, by omega, by omega, ?_⟩
  by_cases e : p.2.1.length = 2
  · exact ⟨4, h.d2 e, by rw [e]; decide⟩
  · refine ⟨12, d, Nat.lt_of_le_of_lt (lN_mono (show p.2.1.length ≤ 1 by omega)) (by decide)⟩
end Sr
namespace Sr
open PySem PySem.Spec PyProof.Rows L2 L3 L4 Sx
theorem ok_of67 {α : Type} {r : R α} {P : α → Prop} (h : Then r P (fun _ => False)) : ∃ a, r = .ok a ∧ P a := by
  cases r with
  | ok a => exact ⟨a, rfl, h⟩
  | exc c => exact h.elim
  | bad => exact h.elim
theorem cell67 {ns : List Int} {k : Int} (h0 : 0 ≤ k) : ∃ v, t__law_cell_at ns k = .ok v := by
  have h : Then ((t__law_cell_at ns k).nx.bind fun v => (.ok v : R Int)) (fun _ => True) (fun _ => False) := st_cell h0 fun _ => trivial
  cases e : t__law_cell_at ns k with
  | ok v => exact ⟨v, rfl⟩
  | exc c => rw [e] at h; exact h.elim
  | bad => rw [e] at h; exact h.elim
theorem law_k67_holds (ns : List Int) (h : ns.length ≤ 63) : Then (m_law_69 [scr ns]) (fun z => z.1 = .d (.bool true)) (fun _ => False) := by
  obtain ⟨p, ep, hp⟩ := ok_of67 (plan68 (ns' := ns) (E := fun _ => False))
  obtain ⟨c10, e10⟩ := cell67 (ns := ns) (k := 10) (by decide)
  obtain ⟨c11, e11⟩ := cell67 (ns := ns) (k := 11) (by decide)
  have m1 := hp.m1
  have m3 := hp.m3
  have f2 := hp.f2
  have d12 := hp.d
  obtain ⟨o, eo, ho⟩ := ok_of67 (order2_ok (p := p) (cell := c10) (E := fun _ => False) (by omega) (by omega))
  have lo := ho.length_eq
  rw [len_all] at lo
  obtain ⟨ds, es, ld, od⟩ := spoilt_ok (o := o) (many := (p.1.length : Int)) (cell := c11.fdiv 4) (by omega) (by omega)
  have nP : Nice (eT3 (eL (eT2 fr fr)) (eL (eT2 fr fr)) (eL (eT3 (eL fr) (eL fr) fr))) 5 := ((nice_Q.t2 nice_Q).list.up (by decide)).t3 ((nice_Q.t2 nice_Q).list.up (by decide)) ((nice_Q.list).t3 nice_Q.list (nice_Q.up (by decide))).list
  have hP : plk 60 ((eT3 (eL (eT2 fr fr)) (eL (eT2 fr fr)) (eL (eT3 (eL fr) (eL fr) fr))) p) = true := nP.plk p 55
  have r1 := fn_t__law_plan_9.eq ep
  have r2 := fn_t__law_order_2.eq eo
  have r3 := fn_t__law_cell_at.eq e10
  have r4 := fn_t__law_cell_at.eq e11
  have r6 := fn_t__law_copy_2.eq (copy2_ok (p := p) (by omega))
  have x := law67_mir (ns := ns) (A := p.1.map (eT2 fr fr)) (B := p.2.1.map (eT2 fr fr)) (D := eL (eT3 (eL fr) (eL fr) fr) p.2.2) (od := o.map tD) (ds := ds) (c10 := c10) (c11 := c11) (by rw [List.length_map]; omega) (by rw [List.length_map]; omega) (by rw [List.length_map]; omega) hP r1 r2 r3 r4 (by rw [List.length_map]; exact es) r6 ⟨by rw [List.length_map]; omega, fun x hx => by
    obtain ⟨t, _, rfl⟩ := List.mem_map.mp hx
    exact odd_turn⟩ ⟨ld, od⟩
  show Then (m_law_69 [.rd (ns.map .int)]) _ _
  rw [x]
  rfl
end Sr
open PySem PySem.W PyProof.Rows
set_option maxRecDepth 100000 in
set_option maxHeartbeats 0 in
theorem PySem.Challenge.cw_shimright_k67_is_an_order_holds : PySem.Challenge.rw_shimright_k67_is_an_order.Holds := by
  w_on; o_law; k_head; (case hw => w_witness2)
  k_fill
  refine L2.walk_of (l := PySem.Challenge.rw_shimright_k67_is_an_order) (n := 63) (k := 5) (x := "script") (CX := fun _ => L2.CX0) (sp := fun w => L3.spT _ false (fun _ => none) 1 [] Sr.m_law_69) rfl (by decide) rfl ⟨rfl, by decide, by decide⟩ (fun w h Y => PySem.W.kIn_of Y) ?F (fun _ _ a ns hl hO hS => L3.law_sp hO hS (Sr.law_k67_holds ns hl)) (fun _ _ _ _ _ h => h)
  case F =>
    intro w mg fa h KX G hmg
    refine' Sr.all_mk KX G hmg ?a0 ?l0 ?c0 ?k0 ?a1 ?l1 ?c1 ?k1 ?a2 ?l2 ?c2 ?k2 ?a3 ?l3 ?c3 ?k3 ?a4 ?l4 ?c4 ?k4 ?a5 ?l5 ?c5 ?k5 ?a6 ?l6 ?c6 ?k6 ?a7 ?l7 ?c7 ?k7 ?a8 ?l8 ?c8 ?k8 ?a9 ?l9 ?c9 ?k9 ?a10 ?l10 ?c10 ?k10 ?a11 ?l11 ?c11 ?k11 ?a12 ?l12 ?c12 ?k12 ?z0 ?z1 ?z2 ?z3 ?z4 ?z5 ?z6 ?z7
    (case a0 => k_is)
    (case l0 => k_is)
    (case c0 => k_is)
    (case k0 => k_is)
    (case a1 => k_is)
    (case l1 => k_is)
    (case c1 => k_is)
    (case k1 => k_is)
    (case a2 => k_is)
    (case l2 => k_is)
    (case c2 => k_is)
    (case k2 => k_is)
    (case a3 => k_is)
    (case l3 => k_is)
    (case c3 => k_is)
    (case k3 => k_is)
    (case a4 => k_is)
    (case l4 => k_is)
    (case c4 => k_is)
    (case k4 => k_is)
    (case a5 => k_is)
    (case l5 => k_is)
    (case c5 => k_is)
    (case k5 => k_is)
    (case a6 => k_is)
    (case l6 => k_is)
    (case c6 => k_is)
    (case k6 => k_is)
    (case a7 => k_is)
    (case l7 => k_is)
    (case c7 => k_is)
    (case k7 => k_is)
    (case a8 => k_is)
    (case l8 => k_is)
    (case c8 => k_is)
    (case k8 => k_is)
    (case a9 => k_is)
    (case l9 => k_is)
    (case c9 => k_is)
    (case k9 => k_is)
    (case a10 => k_is)
    (case l10 => k_is)
    (case c10 => k_is)
    (case k10 => k_is)
    (case a11 => k_is)
    (case l11 => k_is)
    (case c11 => k_is)
    (case k11 => k_is)
    (case a12 => k_is)
    (case l12 => k_is)
    (case c12 => k_is)
    (case k12 => k_is)
    (case z0 => k_is)
    (case z1 => k_is)
    (case z2 => k_is)
    (case z3 => k_is)
    (case z4 => k_is)
    (case z5 => k_is)
    (case z6 => k_is)
    (case z7 => k_is)
